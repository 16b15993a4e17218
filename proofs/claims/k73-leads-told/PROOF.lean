import PyProof.Rows.All
import Wide.All
import OpenK.AllK
import Wide.FinOn
import HandS.ForMost
import HandS.ForExc
import HandS.IsInst
import HandS.Flow
import HandS.Wide
import HandS.TupAny
import HandS.TupMul
import HandS.Zip
import PyProof.StrBlock2
import HandS.Style
import HandS.RaiseMore
import KE.LtSeq
import HandS.Defaults
import HandS.MakeKwOnly
import HandS.Replace
import HandS.More
import PyProof.CollectIter
import HandS.Dict
import HandS.ExcInit
import HandS.ExcField
import HandS.TryMany
import HandS.WideBits
import PyProof.RowDictHeap
import HandS.ListItems
import KE.KItemsList
import PySem.Challenge.RW_oneprotocol_k73_leads_told
set_option Elab.async false
set_option linter.all false
set_option maxRecDepth 100000
set_option maxHeartbeats 4000000
/-! Mi: a small language of data and its meaning; what the model's run has to do with it. -/
namespace Mi
open PySem L2

/-- data: a tuple is a tree, what changes stands in a store -/
inductive D where
  | non | bl (b : Bool) | int (i : Int) | str (x : Str) | tup (ds : List D) | obj (n : Nat) | fn (n : Nat) | ty (n : String) | kl (ds : List D) | ev (ds : List D)
  deriving Inhabited
inductive Ob where
  | lst (ds : List D) | frz (ds : List D) | dic (kvs : List (Key × D)) | ins (c : Nat) (fs : List (Str × D))
abbrev Sto := List Ob
inductive R (β : Type) where
  | ok (b : β) (st : Sto)
  | exc (c : Nat) (fs : List (Str × D)) (st : Sto)
  | stuck
namespace R
def bind {β γ : Type} (r : R β) (k : β → Sto → R γ) : R γ := match r with
  | .ok b st => k b st
  | .exc c fs st => .exc c fs st
  | .stuck => .stuck
@[simp] theorem bind_ok {β γ : Type} (b : β) (st : Sto) (k : β → Sto → R γ) : (R.ok b st).bind k = k b st := rfl
@[simp] theorem bind_stuck {β γ : Type} (k : β → Sto → R γ) : (R.stuck : R β).bind k = .stuck := rfl
@[simp] theorem bind_exc {β γ : Type} (c fs st) (k : β → Sto → R γ) : (R.exc c fs st : R β).bind k = .exc c fs st := rfl
end R

/-- the ground: the program's written part, where its defs and classes stand -/
structure Gd where
  P : Program
  w : World
  K : PySem.W.Frag
  mg : Str → Option Value
  base : Heap
  fa : Nat → Option Addr
  ca : Nat → Option Addr

/-- a list that never changes: locked, or of the program's written part -/
def KL (K : PySem.W.Frag) (H : Hp) (a : Addr) (vs : List V) : Prop := (∃ o, H a = some (.frz o (.lst vs))) ∨ SqL K (fun _ => none) a vs
theorem KL.sq {K : PySem.W.Frag} {H : Hp} {a : Addr} {vs : List V} (h : KL K H a vs) : SqL K H a vs := by
  rcases h with ⟨o, h⟩ | h | h
  · exact .inl (.inr ⟨o, h⟩)
  · rcases h with h | ⟨o, h⟩ <;> cases h
  · exact .inr h
mutual
def RD (g : Gd) (α : List Addr) (H : Hp) : D → V → Prop
  | .non, v => v = .non
  | .bl b, v => v = .bl b
  | .int i, v => v = .int i
  | .str x, v => v = .str x
  | .tup ds, v => ∃ a vs, v = .ref a ∧ SqT g.K H a vs ∧ RDs g α H ds vs
  | .obj n, v => ∃ a, v = .ref a ∧ α[n]? = some a
  | .fn n, v => ∃ a, v = .ref a ∧ g.fa n = some a
  | .ty n, v => v = .ty n
  | .kl ds, v => ∃ a vs, v = .ref a ∧ KL g.K H a vs ∧ RDs g α H ds vs
  | .ev _, _ => False
def RDs (g : Gd) (α : List Addr) (H : Hp) : List D → List V → Prop
  | [], vs => vs = []
  | d :: ds, vs => ∃ v r, vs = v :: r ∧ RD g α H d v ∧ RDs g α H ds r
end

structure Ext (α : List Addr) (H : Hp) (α' : List Addr) (H' : Hp) : Prop where
  pre : ∃ β, α' = α ++ β
  keep : ∀ b o, H b = some o → b ∉ α → H' b = some o
  new : ∀ b, b ∈ α' → b ∉ α → H b = none
  tup : ∀ b xs, H b = some (.tup xs) → H' b = some (.tup xs)
  frz : ∀ b o u, H b = some (.frz o u) → H' b = some (.frz o u)
theorem Ext.refl (α : List Addr) (H : Hp) : Ext α H α H :=
  ⟨⟨[], by simp⟩, fun _ _ h _ => h, fun _ h n => absurd h n, fun _ _ h => h, fun _ _ _ h => h⟩
theorem Ext.trans {α α1 α2 : List Addr} {H H1 H2 : Hp} (e : Ext α H α1 H1) (f : Ext α1 H1 α2 H2) : Ext α H α2 H2 := by
  obtain ⟨β, rfl⟩ := e.pre
  obtain ⟨γ, rfl⟩ := f.pre
  refine ⟨⟨β ++ γ, by simp⟩, fun b o h n => ?_, fun b h n => ?_, fun b xs h => f.tup _ _ (e.tup _ _ h), fun b o u h => f.frz _ _ _ (e.frz _ _ _ h)⟩
  · refine f.keep _ _ (e.keep _ _ h n) fun hb => ?_
    have := e.new b hb n
    rw [h] at this
    cases this
  · by_cases hb : b ∈ α ++ β
    · exact e.new b hb n
    · have q := f.new b h hb
      cases z : H b with
      | none => rfl
      | some o =>
        have := e.keep b o z n
        rw [q] at this
        cases this
theorem Ext.rdt {α α' : List Addr} {H H' : Hp} (e : Ext α H α' H') {a : Addr} {xs : List V} (h : Rd H a (.tup xs)) : Rd H' a (.tup xs) := by
  rcases h with h | ⟨o, h⟩
  · exact .inl (e.tup _ _ h)
  · exact .inr ⟨o, e.frz _ _ _ h⟩
theorem Ext.sqt {K : PySem.W.Frag} {α α' : List Addr} {H H' : Hp} (e : Ext α H α' H') {a : Addr} {xs : List V} (h : SqT K H a xs) : SqT K H' a xs := by
  rcases h with h | h
  · exact .inl (e.rdt h)
  · exact .inr h
theorem Ext.at {α α' : List Addr} {H H' : Hp} (e : Ext α H α' H') {n : Nat} {a : Addr} (h : α[n]? = some a) : α'[n]? = some a := by
  obtain ⟨β, rfl⟩ := e.pre
  have := (List.getElem?_eq_some_iff.mp h).1
  rw [List.getElem?_append_left this]
  exact h

section
variable {g : Gd} {α α' : List Addr} {H H' : Hp}
mutual
theorem RD.mono (e : Ext α H α' H') : ∀ {d : D} {v : V}, RD g α H d v → RD g α' H' d v
  | .non, v, h => by simpa [RD] using h
  | .bl b, v, h => by simpa [RD] using h
  | .int i, v, h => by simpa [RD] using h
  | .str x, v, h => by simpa [RD] using h
  | .tup ds, v, h => by
    rw [RD] at h ⊢
    obtain ⟨a, vs, rfl, h1, h2⟩ := h
    exact ⟨a, vs, rfl, e.sqt h1, RDs.mono e h2⟩
  | .obj n, v, h => by
    rw [RD] at h ⊢
    obtain ⟨a, rfl, h1⟩ := h
    exact ⟨a, rfl, e.at h1⟩
  | .fn n, v, h => by simpa [RD] using h
  | .ty n, v, h => by simpa [RD] using h
  | .kl ds, v, h => by
    rw [RD] at h ⊢
    obtain ⟨a, vs, rfl, h1, h2⟩ := h
    exact ⟨a, vs, rfl, h1.elim (fun ⟨o, q⟩ => .inl ⟨o, e.frz _ _ _ q⟩) .inr, RDs.mono e h2⟩
  | .ev ds, v, h => by rw [RD] at h; exact h.elim
theorem RDs.mono (e : Ext α H α' H') : ∀ {ds : List D} {vs : List V}, RDs g α H ds vs → RDs g α' H' ds vs
  | [], vs, h => by simpa [RDs] using h
  | d :: ds, vs, h => by
    rw [RDs] at h ⊢
    obtain ⟨v, r, rfl, h1, h2⟩ := h
    exact ⟨v, r, rfl, RD.mono e h1, RDs.mono e h2⟩
end
theorem RDs.length : ∀ {ds : List D} {vs : List V}, RDs g α H ds vs → ds.length = vs.length
  | [], vs, h => by rw [RDs] at h; subst h; rfl
  | d :: ds, vs, h => by
    rw [RDs] at h
    obtain ⟨v, r, rfl, _, h2⟩ := h
    simp [RDs.length h2]
theorem RDs.get : ∀ {ds : List D} {vs : List V} {i : Nat} {d : D}, RDs g α H ds vs → ds[i]? = some d → ∃ v, vs[i]? = some v ∧ RD g α H d v
  | [], vs, i, d, h, e => by simp at e
  | x :: ds, vs, i, d, h, e => by
    rw [RDs] at h
    obtain ⟨v, r, rfl, h1, h2⟩ := h
    cases i with
    | zero => simp at e; subst e; exact ⟨v, rfl, h1⟩
    | succ i => simpa using RDs.get h2 (by simpa using e)
theorem RDs.get' : ∀ {ds : List D} {vs : List V} {i : Nat} {v : V}, RDs g α H ds vs → vs[i]? = some v → ∃ d, ds[i]? = some d ∧ RD g α H d v
  | [], vs, i, d, h, e => by rw [RDs] at h; subst h; simp at e
  | x :: ds, vs, i, d, h, e => by
    rw [RDs] at h
    obtain ⟨v, r, rfl, h1, h2⟩ := h
    cases i with
    | zero => simp at e; subst e; exact ⟨x, rfl, h1⟩
    | succ i => simpa using RDs.get' h2 (by simpa using e)
theorem RDs.append : ∀ {ds es : List D} {vs ws : List V}, RDs g α H ds vs → RDs g α H es ws → RDs g α H (ds ++ es) (vs ++ ws)
  | [], es, vs, ws, h, k => by rw [RDs] at h; subst h; exact k
  | d :: ds, es, vs, ws, h, k => by
    rw [RDs] at h
    obtain ⟨v, r, rfl, h1, h2⟩ := h
    exact ⟨v, r ++ ws, rfl, h1, RDs.append h2 k⟩
theorem RDs.nil : RDs g α H [] [] := rfl
theorem RDs.cons {d : D} {v : V} {ds : List D} {vs : List V} (h : RD g α H d v) (k : RDs g α H ds vs) : RDs g α H (d :: ds) (v :: vs) := ⟨v, vs, rfl, h, k⟩
theorem RDs.take : ∀ {ds : List D} {vs : List V} (n : Nat), RDs g α H ds vs → RDs g α H (ds.take n) (vs.take n)
  | [], vs, n, h => by rw [RDs] at h; subst h; simp [RDs]
  | d :: ds, vs, n, h => by
    rw [RDs] at h
    obtain ⟨v, r, rfl, h1, h2⟩ := h
    cases n with
    | zero => simp [RDs]
    | succ n => simpa using RDs.cons h1 (RDs.take n h2)
theorem RDs.drop : ∀ {ds : List D} {vs : List V} (n : Nat), RDs g α H ds vs → RDs g α H (ds.drop n) (vs.drop n)
  | [], vs, n, h => by rw [RDs] at h; subst h; simp [RDs]
  | d :: ds, vs, n, h => by
    rw [RDs] at h
    obtain ⟨v, r, rfl, h1, h2⟩ := h
    cases n with
    | zero => exact RDs.cons h1 h2
    | succ n => simpa using RDs.drop n h2
theorem RDs.set : ∀ {ds : List D} {vs : List V} (n : Nat) {d : D} {v : V}, RDs g α H ds vs → RD g α H d v → RDs g α H (ds.set n d) (vs.set n v)
  | [], vs, n, d, v, h, k => by rw [RDs] at h; subst h; simp [RDs]
  | x :: ds, vs, n, d, v, h, k => by
    rw [RDs] at h
    obtain ⟨y, r, rfl, h1, h2⟩ := h
    cases n with
    | zero => exact RDs.cons k h2
    | succ n => simpa using RDs.cons h1 (RDs.set n h2 k)
end

/-- fields, pairs by one name -/
def RFs (g : Gd) (α : List Addr) (H : Hp) : List (Str × D) → List (Str × V) → Prop
  | [], fs => fs = []
  | p :: ps, fs => ∃ v r, fs = (p.1, v) :: r ∧ RD g α H p.2 v ∧ RFs g α H ps r
def RKs (g : Gd) (α : List Addr) (H : Hp) : List (Key × D) → List (Key × V) → Prop
  | [], fs => fs = []
  | p :: ps, fs => ∃ v r, fs = (p.1, v) :: r ∧ RD g α H p.2 v ∧ RKs g α H ps r
theorem RFs.mono {g : Gd} {α α' : List Addr} {H H' : Hp} (e : Ext α H α' H') : ∀ {ds : List (Str × D)} {vs : List (Str × V)}, RFs g α H ds vs → RFs g α' H' ds vs
  | [], vs, h => by simpa [RFs] using h
  | d :: ds, vs, h => by
    rw [RFs] at h ⊢
    obtain ⟨v, r, rfl, h1, h2⟩ := h
    exact ⟨v, r, rfl, RD.mono e h1, RFs.mono e h2⟩
theorem RKs.mono {g : Gd} {α α' : List Addr} {H H' : Hp} (e : Ext α H α' H') : ∀ {ds : List (Key × D)} {vs : List (Key × V)}, RKs g α H ds vs → RKs g α' H' ds vs
  | [], vs, h => by simpa [RKs] using h
  | d :: ds, vs, h => by
    rw [RKs] at h ⊢
    obtain ⟨v, r, rfl, h1, h2⟩ := h
    exact ⟨v, r, rfl, RD.mono e h1, RKs.mono e h2⟩

/-- an object of the store, as it stands in the heap -/
def OR (g : Gd) (α : List Addr) (H : Hp) (a : Addr) : Ob → Prop
  | .lst ds => ∃ vs, H a = some (.lst vs) ∧ RDs g α H ds vs
  | .frz ds => ∃ o vs, H a = some (.frz o (.lst vs)) ∧ RDs g α H ds vs
  | .dic kvs => ∃ vs, H a = some (.dK vs) ∧ RKs g α H kvs vs
  | .ins c fs => ∃ C dx vs, g.ca c = some C ∧ H a = some (.ins C dx vs) ∧ RFs g α H fs vs
structure StR (g : Gd) (α : List Addr) (st : Sto) (H : Hp) : Prop where
  len : α.length = st.length
  nd : α.Nodup
  ob : ∀ (n : Nat) (a : Addr) (o : Ob), α[n]? = some a → st[n]? = some o → OR g α H a o
/-- the names' values -/
abbrev Env := List (Option D)
structure EnvR (g : Gd) (α : List Addr) (H : Hp) (env : Env) (σ : L2.St) : Prop where
  len : env.length = σ.length
  val : ∀ (i : Nat) (d : D), env[i]? = some (some d) → ∃ v, σ[i]? = some (some v) ∧ RD g α H d v
theorem EnvR.mono {g : Gd} {α α' : List Addr} {H H' : Hp} {env : Env} {σ : L2.St} (e : Ext α H α' H') (h : EnvR g α H env σ) : EnvR g α' H' env σ :=
  ⟨h.len, fun i d q => let ⟨v, h1, h2⟩ := h.val i d q; ⟨v, h1, RD.mono e h2⟩⟩
theorem EnvR.set {g : Gd} {α : List Addr} {H : Hp} {env : Env} {σ : L2.St} (h : EnvR g α H env σ) (i : Nat) {d : D} {v : V} (r : RD g α H d v) : EnvR g α H (env.set i (some d)) (σ.set i (some v)) := by
  refine ⟨by simp [h.len], fun j x q => ?_⟩
  by_cases hj : i = j
  · subst hj
    have hl : i < env.length := by
      have := (List.getElem?_eq_some_iff.mp q).1
      simpa using this
    rw [List.getElem?_set_self hl] at q
    cases q
    exact ⟨v, List.getElem?_set_self (by rw [← h.len]; exact hl), r⟩
  · rw [List.getElem?_set_ne hj] at q
    obtain ⟨u, h1, h2⟩ := h.val j x q
    exact ⟨u, by rw [List.getElem?_set_ne hj]; exact h1, h2⟩

/-- an exception in the air -/
def XR (g : Gd) (α : List Addr) (H : Hp) (c : Nat) (fs : List (Str × D)) (cls : Value) (dx : Option Addr) : Prop :=
  ∃ C, g.ca c = some C ∧ cls = .ref C ∧ ((fs = [] ∧ dx = none) ∨ ∃ d vs, dx = some d ∧ H d = some (.xd vs) ∧ RFs g α H fs vs)

/-- what a result wants -/
def Post {β : Type} (g : Gd) (W : WX) (σ : L2.St) (α : List Addr) (H : Hp) (r : R β) (Q : β → Sto → List Addr → Hp → Prop) : Prop := match r with
  | .ok b st => ∀ α' H', Ext α H α' H' → StR g α' st H' → Q b st α' H'
  | .exc c fs st => ∀ α' H' cls dx, Ext α H α' H' → StR g α' st H' → XR g α' H' c fs cls dx → W cls dx σ H'
  | .stuck => False
section
variable {g : Gd} {W : WX} {σ : L2.St} {α α' : List Addr} {H H' : Hp}
theorem Post.imp {β : Type} {r : R β} {Q Q' : β → Sto → List Addr → Hp → Prop} (h : Post g W σ α H r Q) (k : ∀ b st α' H', Ext α H α' H' → StR g α' st H' → Q b st α' H' → Q' b st α' H') : Post g W σ α H r Q' := by
  cases r with
  | ok b st => exact fun α' H' e s => k b st α' H' e s (h α' H' e s)
  | exc c fs st => exact h
  | stuck => exact h
theorem Post.mono {β : Type} {r : R β} {Q : β → Sto → List Addr → Hp → Prop} (e : Ext α H α' H') (h : Post g W σ α H r Q) : Post g W σ α' H' r Q := by
  cases r with
  | ok b st => exact fun α2 H2 f s => h α2 H2 (e.trans f) s
  | exc c fs st => exact fun α2 H2 cls dx f s x => h α2 H2 cls dx (e.trans f) s x
  | stuck => exact h
theorem Post.bind {β γ : Type} {r : R β} {k : β → Sto → R γ} {Q : γ → Sto → List Addr → Hp → Prop} (h : Post g W σ α H (r.bind k) Q) :
    Post g W σ α H r (fun b st α' H' => Post g W σ α' H' (k b st) Q) := by
  cases r with
  | ok b st => exact fun α' H' e s => Post.mono e h
  | exc c fs st => exact h
  | stuck => exact h
theorem Post.ok {β : Type} {b : β} {st : Sto} {Q : β → Sto → List Addr → Hp → Prop} (h : Post g W σ α H (.ok b st) Q) (s : StR g α st H) : Q b st α H := h α H (Ext.refl α H) s
end

abbrev DE := Env → Sto → R D
abbrev DT := Env → Sto → R Bool
abbrev DA := Env → Sto → R (List D)
def tE (g : Gd) (W : WX) (F : DE) : TE := fun σ H Q => ∃ α env st, EnvR g α H env σ ∧ StR g α st H ∧ Post g W σ α H (F env st) fun d _ α' H' => ∀ v, RD g α' H' d v → Q v H'
def tT (g : Gd) (W : WX) (F : DT) : TT := fun σ H Q => ∃ α env st, EnvR g α H env σ ∧ StR g α st H ∧ Post g W σ α H (F env st) fun b _ _ H' => Q b H'
def tA (g : Gd) (W : WX) (F : DA) : TA := fun σ H Q => ∃ α env st, EnvR g α H env σ ∧ StR g α st H ∧ Post g W σ α H (F env st) fun ds _ α' H' => ∀ vs, RDs g α' H' ds vs → Q vs H'
/-- an expression, a test, an argument list mean F -/
def OE (g : Gd) (X : Cx) (W : WX) (e : Expr) (F : DE) : Prop := PE X e (tE g W F)
def OT (g : Gd) (X : Cx) (W : WX) (e : Expr) (F : DT) : Prop := PT X e (tT g W F)
def OA (g : Gd) (X : Cx) (W : WX) (es : List Expr) (F : DA) : Prop := PA X es (tA g W F)
theorem ofE {X : Cx} {e : Expr} {t t' : TE} (h : PE X e t) (w : ∀ σ H Q, t' σ H Q → t σ H Q) : PE X e t' := ⟨fun pins s σ H Q I q => h.run pins s σ H Q I (w σ H Q q)⟩
theorem ofT {X : Cx} {e : Expr} {t t' : TT} (h : PT X e t) (w : ∀ σ H Q, t' σ H Q → t σ H Q) : PT X e t' := ⟨fun pins s σ H Q I q => h.run pins s σ H Q I (w σ H Q q)⟩
theorem ofW {X : Cx} {e : Expr} {t t' : TT} (h : PW X e t) (w : ∀ σ H Q, t' σ H Q → t σ H Q) : PW X e t' := ⟨fun o pins s σ H Q I q => h.run o pins s σ H Q I (w σ H Q q)⟩
theorem ofA {X : Cx} {es : List Expr} {t t' : TA} (h : PA X es t) (w : ∀ σ H Q, t' σ H Q → t σ H Q) : PA X es t' := ⟨fun p pins s σ H Q I q => h.run p pins s σ H Q I (w σ H Q q)⟩
theorem ofSs {X : Cx} {e : List Stmt} {t t' : TS} (h : PSs X e t) (w : ∀ D σ H, t' D σ H → t D σ H) : PSs X e t' := ⟨fun pins s σ H D I q => h.run pins s σ H D I (w D σ H q)⟩
theorem ofS {X : Cx} {e : Stmt} {t t' : TS} (h : PS X e t) (w : ∀ D σ H, t' D σ H → t D σ H) : PS X e t' := ⟨fun pins s σ H D I q => h.run pins s σ H D I (w D σ H q)⟩
end Mi

namespace Mi
open PySem L2

/-! ### the store's steps -/
section
variable {g : Gd} {α α' : List Addr} {H H' : Hp} {st : Sto}
theorem OR.some {a : Addr} {o : Ob} (h : OR g α H a o) : ∃ u, H a = some u := by
  cases o with
  | lst ds => obtain ⟨vs, h, _⟩ := h; exact ⟨_, h⟩
  | frz ds => obtain ⟨_, vs, h, _⟩ := h; exact ⟨_, h⟩
  | dic ds => obtain ⟨vs, h, _⟩ := h; exact ⟨_, h⟩
  | ins c fs => obtain ⟨_, _, vs, _, h, _⟩ := h; exact ⟨_, h⟩
theorem StR.mem (s : StR g α st H) {a : Addr} (h : a ∈ α) : ∃ u, H a = some u := by
  obtain ⟨n, hn, e⟩ := List.getElem_of_mem h
  have h1 : α[n]? = some a := by rw [List.getElem?_eq_getElem hn, e]
  have h2 : n < st.length := by rw [← s.len]; exact hn
  exact (s.ob n a st[n] h1 (List.getElem?_eq_getElem h2)).some
theorem StR.notin (s : StR g α st H) {p : Addr} (h : H p = none) : p ∉ α := fun q => by
  obtain ⟨u, e⟩ := s.mem q
  rw [h] at e
  cases e
theorem ext_new (s : StR g α st H) {p : Addr} (h : H p = none) (o : HO) : Ext α H α (upd H p o) :=
  ⟨⟨[], by simp⟩, fun b u e _ => by rw [upd_ne (ne_of_none e h)]; exact e, fun b h n => absurd h n, fun b xs e => by rw [upd_ne (ne_of_none e h)]; exact e, fun b w u e => by rw [upd_ne (ne_of_none e h)]; exact e⟩
/-- an object's relation behind a change elsewhere -/
theorem OR.away {a : Addr} {o : Ob} (e : Ext α H α' H') (k : H' a = H a) (h : OR g α H a o) : OR g α' H' a o := by
  cases o with
  | lst ds => obtain ⟨vs, h, r⟩ := h; exact ⟨vs, k.trans h, r.mono e⟩
  | frz ds => obtain ⟨o, vs, h, r⟩ := h; exact ⟨o, vs, k.trans h, r.mono e⟩
  | dic ds => obtain ⟨vs, h, r⟩ := h; exact ⟨vs, k.trans h, r.mono e⟩
  | ins c fs => obtain ⟨C, dx, vs, h0, h, r⟩ := h; exact ⟨C, dx, vs, h0, k.trans h, r.mono e⟩
/-- an untracked new thing -/
theorem StR.temp (s : StR g α st H) {p : Addr} (h : H p = none) (o : HO) : StR g α st (upd H p o) := by
  refine ⟨s.len, s.nd, fun n a u h1 h2 => (s.ob n a u h1 h2).away (ext_new s h o) (upd_ne ?_)⟩
  rintro rfl
  exact s.notin h (List.mem_of_getElem? h1)
theorem ext_alloc (s : StR g α st H) {p : Addr} (h : H p = none) (o : HO) : Ext α H (α ++ [p]) (upd H p o) :=
  ⟨⟨[p], rfl⟩, fun b u e _ => by rw [upd_ne (ne_of_none e h)]; exact e, fun b hb n => by
    have : b = p := by simpa [n] using hb
    subst this; exact h, fun b xs e => by rw [upd_ne (ne_of_none e h)]; exact e, fun b w u e => by rw [upd_ne (ne_of_none e h)]; exact e⟩
theorem StR.alloc (s : StR g α st H) {p : Addr} (h : H p = none) {u : HO} {o : Ob} (new : OR g (α ++ [p]) (upd H p u) p o) : StR g (α ++ [p]) (st ++ [o]) (upd H p u) := by
  have hp := s.notin h
  refine ⟨by simp [s.len], by
    rw [List.nodup_append]
    refine ⟨s.nd, by simp, fun a ha b hb => ?_⟩
    rintro rfl
    have : a = p := by simpa using hb
    subst this
    exact hp ha, fun n a x h1 h2 => ?_⟩
  by_cases hn : n < α.length
  · rw [List.getElem?_append_left hn] at h1
    rw [List.getElem?_append_left (by rw [← s.len]; exact hn)] at h2
    refine (s.ob n a x h1 h2).away (ext_alloc s h u) (upd_ne ?_)
    rintro rfl
    exact hp (List.mem_of_getElem? h1)
  · have hn' : n = α.length := by
      have := (List.getElem?_eq_some_iff.mp h1).1
      simp at this
      omega
    subst hn'
    simp at h1
    rw [s.len] at h2
    simp at h2
    subst h1 h2
    exact new
theorem alloc_at (s : StR g α st H) (p : Addr) : (α ++ [p])[st.length]? = some p := by rw [← s.len]; simp
/-- an object that is changed -/
theorem ext_write (s : StR g α st H) {n : Nat} {a : Addr} (ha : α[n]? = some a) {u : HO} (old : ∃ x, H a = some x ∧ (∀ xs, x ≠ .tup xs) ∧ ∀ o y, x ≠ .frz o y) : Ext α H α (upd H a u) := by
  obtain ⟨x, hx, h1, h2⟩ := old
  have hm : a ∈ α := List.mem_of_getElem? ha
  refine ⟨⟨[], by simp⟩, fun b o e nb => ?_, fun b h n => absurd h n, fun b xs e => ?_, fun b o y e => ?_⟩
  · rw [upd_ne (fun q => nb (by rw [q]; exact hm))]; exact e
  · rw [upd_ne]; exact e
    rintro rfl
    rw [hx] at e
    exact h1 xs (Option.some.inj e)
  · rw [upd_ne]; exact e
    rintro rfl
    rw [hx] at e
    exact h2 o y (Option.some.inj e)
theorem StR.write (s : StR g α st H) {n : Nat} {a : Addr} (ha : α[n]? = some a) {u : HO} {o : Ob} (e : Ext α H α (upd H a u)) (new : OR g α (upd H a u) a o) : StR g α (st.set n o) (upd H a u) := by
  refine ⟨by simp [s.len], s.nd, fun m b x h1 h2 => ?_⟩
  by_cases hm : n = m
  · subst hm
    rw [ha] at h1
    cases h1
    have hl : n < st.length := by
      have := (List.getElem?_eq_some_iff.mp h2).1
      simpa using this
    rw [List.getElem?_set_self hl] at h2
    cases h2
    exact new
  · rw [List.getElem?_set_ne hm] at h2
    refine (s.ob m b x h1 h2).away e (upd_ne ?_)
    rintro rfl
    apply hm
    obtain ⟨q1, e1⟩ := List.getElem?_eq_some_iff.mp ha
    obtain ⟨q2, e2⟩ := List.getElem?_eq_some_iff.mp h1
    exact (List.getElem_inj s.nd).mp (e1.trans e2.symm)
theorem StR.at (s : StR g α st H) {n : Nat} {o : Ob} (h : st[n]? = some o) : ∃ a, α[n]? = some a ∧ OR g α H a o := by
  have hn : n < α.length := by rw [s.len]; exact (List.getElem?_eq_some_iff.mp h).1
  exact ⟨α[n], List.getElem?_eq_getElem hn, s.ob n _ o (List.getElem?_eq_getElem hn) h⟩
end

def new (o : Ob) (st : Sto) : R D := .ok (.obj st.length) (st ++ [o])

section
variable {g : Gd} {X : Cx} {W : WX} {σ : L2.St} {α : List Addr} {H : Hp} {env : Env} {st : Sto}
theorem tE.run {F : DE} {Q : VK} (hE : EnvR g α H env σ) (hS : StR g α st H) (p : Post g W σ α H (F env st) fun d _ α' H' => ∀ v, RD g α' H' d v → Q v H') : tE g W F σ H Q := ⟨α, env, st, hE, hS, p⟩
theorem tT.run {F : DT} {Q : Bool → Hp → Prop} (hE : EnvR g α H env σ) (hS : StR g α st H) (p : Post g W σ α H (F env st) fun b _ _ H' => Q b H') : tT g W F σ H Q := ⟨α, env, st, hE, hS, p⟩
theorem tA.run {F : DA} {Q : List V → Hp → Prop} (hE : EnvR g α H env σ) (hS : StR g α st H) (p : Post g W σ α H (F env st) fun d _ α' H' => ∀ v, RDs g α' H' d v → Q v H') : tA g W F σ H Q := ⟨α, env, st, hE, hS, p⟩
end

/-! ### names, constants -/
def eVar (i : Nat) : DE := fun env st => match env[i]? with | some (some d) => .ok d st | _ => .stuck
def eC (d : D) : DE := fun _ st => .ok d st
section
variable {g : Gd} {X : Cx} {W : WX}
theorem oe_var (i : Nat) {x : Str} {pos : Pos} (hN : X.N[i]? = some x := by rfl) (hv : Vis X.env.scope x := by first | exact Or.inl rfl | exact Or.inr (Or.inl rfl) | exact Or.inr (Or.inr rfl)) (hd : (x == ("__debug__" : Str)) = false := by decide)
    (hcd : (x == ("__classdict__" : Str)) = false := by decide) : OE g X W (.Name x pos) (eVar i) :=
  ofE (pe_var hN hv hd hcd) fun σ H Q ⟨α, env, st, hE, hS, p⟩ => by
    unfold eVar at p
    cases h : env[i]? with
    | none => rw [h] at p; exact p.elim
    | some o =>
      cases o with
      | none => rw [h] at p; exact p.elim
      | some d =>
        rw [h] at p
        obtain ⟨v, h1, h2⟩ := hE.val i d h
        exact ⟨v, h1, p.ok hS v h2⟩
theorem oe_c {e : Expr} {v : V} {d : D} (h : PE X e (tC v)) (r : ∀ α H, RD g α H d v) : OE g X W e (eC d) :=
  ofE h fun σ H Q ⟨α, env, st, hE, hS, p⟩ => p.ok hS v (r α H)
theorem oe_int {i j pos} : OE g X W (.Constant (.int i) j pos) (eC (.int i)) := oe_c pe_int fun _ _ => rfl
theorem oe_bl {b j pos} : OE g X W (.Constant (.bool b) j pos) (eC (.bl b)) := oe_c pe_bl fun _ _ => rfl
theorem oe_non {j pos} : OE g X W (.Constant .none j pos) (eC .non) := oe_c pe_non fun _ _ => rfl
theorem oe_str {x j pos} : OE g X W (.Constant (.str x) j pos) (eC (.str x)) := oe_c pe_str fun _ _ => rfl
end

/-! ### a new list that nothing else holds, as an operand -/
def RV (g : Gd) (α : List Addr) (H : Hp) (d : D) (v : V) : Prop := RD g α H d v ∨ ∃ ds a vs, d = .ev ds ∧ v = .ref a ∧ a ∉ α ∧ H a = some (.lst vs) ∧ RDs g α H ds vs
theorem RV.mono {g : Gd} {α α' : List Addr} {H H' : Hp} (e : Ext α H α' H') {d : D} {v : V} (h : RV g α H d v) : RV g α' H' d v := by
  rcases h with h | ⟨ds, a, vs, rfl, rfl, hn, ha, r⟩
  · exact .inl (h.mono e)
  · refine .inr ⟨ds, a, vs, rfl, rfl, fun hm => ?_, e.keep _ _ ha hn, r.mono e⟩
    have := e.new a hm hn
    rw [ha] at this
    cases this
theorem RV.rd {g : Gd} {α : List Addr} {H : Hp} {d : D} {v : V} (h : RV g α H d v) (n : ∀ ds, d ≠ .ev ds) : RD g α H d v := by
  rcases h with h | ⟨ds, a, vs, rfl, _⟩
  · exact h
  · exact absurd rfl (n ds)
theorem RV.ev {g : Gd} {α : List Addr} {H : Hp} {ds : List D} {v : V} (h : RV g α H (.ev ds) v) : ∃ a vs, v = .ref a ∧ a ∉ α ∧ H a = some (.lst vs) ∧ RDs g α H ds vs := by
  rcases h with h | ⟨ds, a, vs, e, h⟩
  · exact h.elim
  · cases e
    exact ⟨a, vs, h⟩
def tV (g : Gd) (W : WX) (F : DE) : TE := fun σ H Q => ∃ α env st, EnvR g α H env σ ∧ StR g α st H ∧ Post g W σ α H (F env st) fun d _ α' H' => ∀ v, RV g α' H' d v → Q v H'
def OV (g : Gd) (X : Cx) (W : WX) (e : Expr) (F : DE) : Prop := PE X e (tV g W F)
theorem OE.v {g : Gd} {X : Cx} {W : WX} {e : Expr} {F : DE} (h : OE g X W e F) : OV g X W e F := ofE h fun σ H Q ⟨α, env, st, hE, hS, p⟩ => ⟨α, env, st, hE, hS, p.imp fun d st1 α1 H1 x1 s1 q v r => q v (.inl r)⟩
theorem tV.run {g : Gd} {W : WX} {σ : L2.St} {α : List Addr} {H : Hp} {env : Env} {st : Sto} {F : DE} {Q : VK} (hE : EnvR g α H env σ) (hS : StR g α st H) (p : Post g W σ α H (F env st) fun d _ α' H' => ∀ v, RV g α' H' d v → Q v H') : tV g W F σ H Q := ⟨α, env, st, hE, hS, p⟩

/-! ### operators -/
def e2 (o : D → D → Sto → R D) (Fa Fb : DE) : DE := fun env st => (Fa env st).bind fun a st1 => (Fb env st1).bind fun b st2 => o a b st2
def e1 (o : D → Sto → R D) (Fa : DE) : DE := fun env st => (Fa env st).bind fun a st1 => o a st1
def PD (g : Gd) (W : WX) (σ : L2.St) (α : List Addr) (H : Hp) (r : R D) (Q : VK) : Prop := Post g W σ α H r fun d _ α' H' => ∀ v, RD g α' H' d v → Q v H'
def Op2 (g : Gd) (X : Cx) (W : WX) (f : Value → Value → Sem Value) (o : D → D → Sto → R D) : Prop :=
  ∀ (σ : L2.St) (α : List Addr) (H : Hp) (st : Sto) (a b : D) (x y : V) (Q : VK), StR g α st H → RV g α H a x → RV g α H b y → PD g W σ α H (o a b st) Q → ∃ r, OpR X f r ∧ r x y H Q
def Op1 (g : Gd) (X : Cx) (W : WX) (f : Value → Sem Value) (o : D → Sto → R D) : Prop :=
  ∀ (σ : L2.St) (α : List Addr) (H : Hp) (st : Sto) (a : D) (x : V) (Q : VK), StR g α st H → RD g α H a x → PD g W σ α H (o a st) Q → ∃ r, UnR X f r ∧ r x H Q
/-- an operator that takes no such list -/
theorem op2_of {g : Gd} {X : Cx} {W : WX} {f : Value → Value → Sem Value} {o : D → D → Sto → R D} (h1 : ∀ ds b st, o (.ev ds) b st = .stuck) (h2 : ∀ a ds st, o a (.ev ds) st = .stuck)
    (h : ∀ (σ : L2.St) (α : List Addr) (H : Hp) (st : Sto) (a b : D) (x y : V) (Q : VK), StR g α st H → RD g α H a x → RD g α H b y → PD g W σ α H (o a b st) Q → ∃ r, OpR X f r ∧ r x y H Q) : Op2 g X W f o := by
  intro σ α H st a b x y Q s ra rb p
  refine h σ α H st a b x y Q s (ra.rd fun ds e => ?_) (rb.rd fun ds e => ?_) p
  · subst e; rw [h1] at p; exact p.elim
  · subst e; rw [h2] at p; exact p.elim
theorem any2 {X : Cx} {f : Value → Value → Sem Value} : OpR X f (fun x y H Q => ∃ r, OpR X f r ∧ r x y H Q) :=
  fun pins s σ H x y v u Q I rx ry ⟨_, h, q⟩ => h pins s σ H x y v u Q I rx ry q
theorem any1 {X : Cx} {f : Value → Sem Value} : UnR X f (fun x H Q => ∃ r, UnR X f r ∧ r x H Q) :=
  fun pins s σ H x v Q I rx ⟨_, h, q⟩ => h pins s σ H x v Q I rx q
section
variable {g : Gd} {X : Cx} {W : WX} {a b : Expr} {Fa Fb : DE} {pos : Pos}
theorem two {f : Value → Value → Sem Value} {o : D → D → Sto → R D} (h : Op2 g X W f o) : ∀ σ H Q, tE g W (e2 o Fa Fb) σ H Q → tOp (fun x y H Q => ∃ r, OpR X f r ∧ r x y H Q) (tV g W Fa) (tV g W Fb) σ H Q :=
  fun σ H Q ⟨α, env, st, hE, hS, p⟩ => by
    refine tV.run hE hS (p.bind.imp fun d1 st1 α1 H1 x1 s1 q v1 r1 => ?_)
    refine tV.run (hE.mono x1) s1 (q.bind.imp fun d2 st2 α2 H2 x2 s2 q2 v2 r2 => ?_)
    exact h σ α2 H2 st2 d1 d2 v1 v2 Q s2 (r1.mono x2) r2 q2
theorem oe_bin {op : Operator} {o : D → D → Sto → R D} (h : Op2 g X W (binaryOp op) o) (ha : OV g X W a Fa) (hb : OV g X W b Fb) : OE g X W (.BinOp a op b pos) (e2 o Fa Fb) :=
  ofE (pe_op any2 ha hb) (two h)
theorem oe_cmp {op : CmpOp} {o : D → D → Sto → R D} (h : Op2 g X W (compareOp op) o) (ha : OV g X W a Fa) (hb : OV g X W b Fb) (hm : behindInMarks op b = false := by rfl) : OE g X W (.Compare a [op] [b] pos) (e2 o Fa Fb) :=
  ofE (pe_cmpR any2 ha hb hm) (two h)
theorem oe_un {op : UnaryOp} {o : D → Sto → R D} (h : Op1 g X W (unaryOp op) o) (ha : OE g X W a Fa) : OE g X W (.UnaryOp op a pos) (e1 o Fa) :=
  ofE (pe_un any1 ha) fun σ H Q ⟨α, env, st, hE, hS, p⟩ => by
    refine tE.run hE hS (p.bind.imp fun d1 st1 α1 H1 x1 s1 q v1 r1 => ?_)
    exact h σ α1 H1 st1 d1 v1 Q s1 r1 q
end
end Mi

namespace Mi
open PySem PySem.Spec PyProof.Rows L2
/-! ### more of tuple * int, of str * int, of == by lengths -/
theorem tuple_mul_same (l : Addr) (items : Array Value) (n : Nat) (dd : Option Addr) (sl : Array (Option Value)) (x : Int) (u : Tok) (c0 : (decide (x < -(2 ^ 63)) || decide (x ≥ 2 ^ 63)) = false) (c1 : (items.isEmpty || x == 1) = true) :
    Meets (Builtin.«tuple.__mul__» ⟨[.ref l, .int x u], []⟩) (fun _ R s => s.heap.get? l = some { cls := .type "tuple", dict := dd, data := .seq items n, slots := sl } ∧ R (.ok (.ret (Value.ref l))) s) :=
  .of_wp fun prog w A R s h => by
    obtain ⟨hp, g, d, tk, os⟩ := s
    obtain ⟨hl, h⟩ := h
    have f1 := AutoSeq1.idx_int
    wp_walk using wpAny_loadPart' hl
    repeat (first
      | (refine wpAny_ite_false (decide_eq_false (by rw [c0]; exact Bool.false_ne_true)) ?_; wp_walk using wpAny_loadPart' hl)
      | (refine wpAny_ite_true (decide_eq_true c1) ?_; wp_walk using wpAny_loadPart' hl))
    exact ⟨_, rfl, h⟩
theorem tuple_mul_none (l : Addr) (items : Array Value) (n : Nat) (dd : Option Addr) (sl : Array (Option Value)) (x : Int) (u : Tok) (c0 : (decide (x < -(2 ^ 63)) || decide (x ≥ 2 ^ 63)) = false) (c1 : (items.isEmpty || x == 1) = false) (c2 : (decide (x ≤ 0) || items.isEmpty) = true) :
    Meets (Builtin.«tuple.__mul__» ⟨[.ref l, .int x u], []⟩) (fun _ R s => s.heap.get? l = some { cls := .type "tuple", dict := dd, data := .seq items n, slots := sl } ∧
      R (.ok (.ret (Value.ref s.heap.objs.size))) { s with heap := s.heap.push { cls := Value.type "tuple", data := Data.seq #[] }, toks := s.toks }) :=
  .of_wp fun prog w A R s h => by
    obtain ⟨hp, g, d, tk, os⟩ := s
    obtain ⟨hl, h⟩ := h
    have f1 := AutoSeq1.idx_int
    wp_walk using wpAny_loadPart' hl
    repeat (first
      | (refine wpAny_ite_false (decide_eq_false (by rw [c0]; exact Bool.false_ne_true)) ?_; wp_walk using wpAny_loadPart' hl)
      | (refine wpAny_ite_false (decide_eq_false (by rw [c1]; exact Bool.false_ne_true)) ?_; wp_walk using wpAny_loadPart' hl)
      | (refine wpAny_ite_true (decide_eq_true c2) ?_; wp_walk using wpAny_loadPart' hl))
    exact ⟨_, rfl, h⟩
def rRepSame (K : PySem.W.Frag) : R2 := fun x y H Q => ∃ l k xs, x = .ref l ∧ y = .int k ∧ SqT K H l xs ∧ (xs = [] ∨ k = 1) ∧ -(2 ^ 63) ≤ k ∧ k < 2 ^ 63 ∧ Q (.ref l) H
def rRepNone (K : PySem.W.Frag) : R2 := fun x y H Q => ∃ l k xs, x = .ref l ∧ y = .int k ∧ SqT K H l xs ∧ xs ≠ [] ∧ k ≤ 0 ∧ -(2 ^ 63) ≤ k ∧ ∀ p, H p = none → Q (.ref p) (upd H p (.tup []))
section
variable {X : Cx}
theorem op_repSame : OpR X (binaryOp .Mult) (rRepSame X.K) := by
  intro pins s σ H x y v u Q I rx ry h
  obtain ⟨l, k, xs, rfl, rfl, hT, hne, h1, h2, q⟩ := h
  cases rx
  obtain ⟨t, rfl⟩ := ry
  obtain ⟨its, r, ⟨⟨cls, dd, data, sl⟩, ho, hc, n, hd⟩, hs⟩ := I.tuple hT
  simp only at hc hd
  subst hc hd
  have hle : its.length = xs.length := r.length.symm
  have c0 : (decide (k < -(2 ^ 63)) || decide (k ≥ 2 ^ 63)) = false := by
    rw [decide_eq_false (by omega), decide_eq_false (by omega)] <;> rfl
  have c1 : (its.toArray.isEmpty || k == 1) = true := by
    rcases hne with rfl | rfl
    · have : its = [] := List.eq_nil_of_length_eq_zero hle
      subst this
      rfl
    · simp
  exact wpAny_binaryOp_repeat_ref (T := "tuple") (U := "int") (by decide) ⟨_, ho, rfl⟩ (fun s' => typeIs_int s' k t) noFill_tuple_mul F.fills_int_mul F.slot_int_rmul repeat_tuple F.slot_int_index.lookup
    (call_meets F.slot_int_rmul (typeIs_int s k t) F.entry_int_rmul (F.args_int_rmul_2 _ _) (int_rmul_tuple k t l its.toArray n dd sl)
      ⟨ho, rfl, ⟨_, ho, rfl⟩, call_meets F.slot_tuple_mul ⟨_, ho, rfl⟩ F.entry_tuple_mul (F.args_tuple_mul_2 _ _) (tuple_mul_same l its.toArray n dd sl k t c0 c1) ⟨ho, .ref l, H, I, rfl, q⟩⟩)
theorem op_repNone : OpR X (binaryOp .Mult) (rRepNone X.K) := by
  intro pins s σ H x y v u Q I rx ry h
  obtain ⟨l, k, xs, rfl, rfl, hT, hne, h1, h2, q⟩ := h
  cases rx
  obtain ⟨t, rfl⟩ := ry
  obtain ⟨its, r, ⟨⟨cls, dd, data, sl⟩, ho, hc, n, hd⟩, hs⟩ := I.tuple hT
  simp only at hc hd
  subst hc hd
  have hle : its.length = xs.length := r.length.symm
  have c0 : (decide (k < -(2 ^ 63)) || decide (k ≥ 2 ^ 63)) = false := by
    rw [decide_eq_false (by omega), decide_eq_false (by omega)] <;> rfl
  have hi : its.toArray.isEmpty = false := by
    cases its with
    | nil => exact absurd (List.eq_nil_of_length_eq_zero hle.symm) hne
    | cons a b => rfl
  have c1 : (its.toArray.isEmpty || k == 1) = false := by
    rw [hi, Bool.false_or]
    exact beq_eq_false_iff_ne.mpr (by omega)
  have c2 : (decide (k ≤ 0) || its.toArray.isEmpty) = true := by
    rw [decide_eq_true h1, Bool.true_or]
  refine wpAny_binaryOp_repeat_ref (T := "tuple") (U := "int") (by decide) ⟨_, ho, rfl⟩ (fun s' => typeIs_int s' k t) noFill_tuple_mul F.fills_int_mul F.slot_int_rmul repeat_tuple F.slot_int_index.lookup
    (call_meets F.slot_int_rmul (typeIs_int s k t) F.entry_int_rmul (F.args_int_rmul_2 _ _) (int_rmul_tuple k t l its.toArray n dd sl)
      ⟨ho, rfl, ⟨_, ho, rfl⟩, call_meets F.slot_tuple_mul ⟨_, ho, rfl⟩ F.entry_tuple_mul (F.args_tuple_mul_2 _ _) (tuple_mul_none l its.toArray n dd sl k t c0 c1 c2) ⟨ho, ?_⟩⟩)
  refine ⟨.ref s.heap.objs.size, _, I.laid (t' := s.toks) (o := .tup []) (fun b ob q => Heap.get?_push_of_some _ q) (Nat.le_refl _) ?_, rfl, q _ (I.hok.fresh (Nat.le_refl _))⟩
  exact ⟨Nat.zero_le _, [], Paired.nil, IsTup.new _ _⟩
/-- tuple * int, for longer tuples -/
def rRepL (K : PySem.W.Frag) : R2 := fun x y H Q => ∃ l k xs, x = .ref l ∧ y = .int k ∧ SqT K H l xs ∧ xs ≠ [] ∧ 2 ≤ k ∧ k ≤ 1000 ∧ xs.length ≤ 10000 ∧ ∀ p, H p = none → Q (.ref p) (upd H p (.tup (List.replicate k.toNat xs).flatten))
theorem op_repL : OpR X (binaryOp .Mult) (rRepL X.K) := by
  intro pins s σ H x y v u Q I rx ry h
  obtain ⟨l, k, xs, rfl, rfl, hT, hne, h1, h2, hz, q⟩ := h
  cases rx
  obtain ⟨t, rfl⟩ := ry
  obtain ⟨its, r, ⟨⟨cls, dd, data, sl⟩, ho, hc, n, hd⟩, hs⟩ := I.tuple hT
  simp only at hc hd
  subst hc hd
  have hle : its.length = xs.length := r.length.symm
  have hi : its.toArray.isEmpty = false := by
    cases its with
    | nil => exact absurd (List.eq_nil_of_length_eq_zero hle.symm) hne
    | cons a b => rfl
  have kz : k.toNat * xs.length ≤ 1000 * 10000 := Nat.mul_le_mul (by omega) hz
  have hm : ((its.toArray.size : Nat) : Int) * k ≤ 10000000 := by
    rw [List.size_toArray, hle]
    have e1 : ((k.toNat * xs.length : Nat) : Int) = (xs.length : Int) * k := by
      rw [Int.natCast_mul, Int.mul_comm]
      have : ((k.toNat : Nat) : Int) = k := by omega
      rw [this]
    omega
  have flen : (List.replicate k.toNat its).flatten.length ≤ sizeLine := by
    rw [PyProof.Rows.lm_len_rep_flat, hle, sizeLine_eq]
    omega
  have c0 : (decide (k < -(2 ^ 63)) || decide (k ≥ 2 ^ 63)) = false := by
    rw [decide_eq_false (by omega), decide_eq_false (by omega)] <;> rfl
  have c1 : (its.toArray.isEmpty || k == 1) = false := by
    rw [hi, Bool.false_or]
    exact beq_eq_false_iff_ne.mpr (by omega)
  have c2 : (decide (k ≤ 0) || its.toArray.isEmpty) = false := by
    rw [hi, Bool.or_false]
    exact decide_eq_false (by omega)
  have c4 : Builtin.Tuple.tupleTooMany (((its.toArray.size : Nat) : Int) * k) = false := by
    unfold Builtin.Tuple.tupleTooMany
    rw [sizeLine_eq]
    exact decide_eq_false (by omega)
  refine wpAny_binaryOp_repeat_ref (T := "tuple") (U := "int") (by decide) ⟨_, ho, rfl⟩ (fun s' => typeIs_int s' k t) noFill_tuple_mul F.fills_int_mul F.slot_int_rmul repeat_tuple F.slot_int_index.lookup
    (call_meets F.slot_int_rmul (typeIs_int s k t) F.entry_int_rmul (F.args_int_rmul_2 _ _) (int_rmul_tuple k t l its.toArray n dd sl)
      ⟨ho, rfl, ⟨_, ho, rfl⟩, call_meets F.slot_tuple_mul ⟨_, ho, rfl⟩ F.entry_tuple_mul (F.args_tuple_mul_2 _ _) (tuple_mulW l its.toArray n dd sl k t c0 c1 c2 (by omega) c4 (by rw [size_rep, List.size_toArray]; exact flen)) ⟨ho, ?_⟩⟩)
  rw [size_rep]
  refine ⟨.ref s.heap.objs.size, _, I.laid (t' := s.toks) (o := .tup (List.replicate k.toNat xs).flatten) (fun b ob q => Heap.get?_push_of_some _ q) (Nat.le_refl _) ?_, rfl, q _ (I.hok.fresh (Nat.le_refl _))⟩
  exact ⟨by rw [PyProof.Rows.lm_len_rep_flat, sizeLine_eq]; omega, _, r.rep k.toNat, IsTup.new _ _⟩
/-- a text, so many times -/
def repS (x : Str) (k : Nat) : Str := ⟨(List.replicate k x.cps.toList).flatten.toArray⟩
theorem repS_arr (x : Array Nat) : ∀ (n : Nat) (a : Array Nat), (List.replicate n x).foldl (· ++ ·) a = a ++ (List.replicate n x.toList).flatten.toArray
  | 0, a => by simp
  | n + 1, a => by
    rw [List.replicate_succ, List.foldl_cons, repS_arr x n, List.replicate_succ, List.flatten_cons]
    apply Array.ext'
    simp
theorem mul_repS (x : Str) (n : Int) : Txt.mul x n = repS x n.toNat := by
  unfold Txt.mul
  split
  · rename_i h
    have : n.toNat = 0 := by omega
    rw [this]; rfl
  · split
    · rename_i h1 h
      rw [Bool.or_eq_true] at h
      rcases h with h | h
      · have : n = 1 := by simpa using h
        subst this
        unfold repS
        simp
      · have h0 : x.cps.toList = [] := by
          have : x.length = 0 := by simpa using h
          exact List.eq_nil_of_length_eq_zero this
        unfold repS
        rw [h0]
        have : (List.replicate n.toNat ([] : List Nat)).flatten = [] := by simp
        rw [this]
        cases x
        simp at h0
        subst h0
        rfl
    · unfold repS
      rw [repS_arr]
      simp
theorem op_mulStr : OpR X (binaryOp .Mult) (fun x y H Q => ∃ z k, x = .str z ∧ y = .int k ∧ k ≤ 1000000 ∧ -1000000 ≤ k ∧ z.length * k.toNat ≤ sizeLine ∧ Q (.str (repS z k.toNat)) H) := by
  intro pins s σ H x y v u Q I rx ry h
  obtain ⟨z, k, rfl, rfl, h1, h2, h3, q⟩ := h
  obtain ⟨t, rfl⟩ := rx
  obtain ⟨t', rfl⟩ := ry
  refine SB.mul ⟨?_, fun a b => ?_, fun _ _ => ?_⟩ fun t' n => ⟨.str _, H, I.tok _, ⟨t', by rw [mul_repS]⟩, q⟩
  · rw [decide_eq_false (by omega), decide_eq_false (by omega)]; rfl
  · have hs := sizeLine_eq
    intro hgt
    have hk : 0 < k := by omega
    have := Int.ediv_mul_le (2 ^ 63 - 1) (b := k) (by omega)
    have e1 : ((z.length * k.toNat : Nat) : Int) = (z.length : Int) * k := by
      rw [Int.natCast_mul]
      have : ((k.toNat : Nat) : Int) = k := by omega
      rw [this]
    have h4 : (2 ^ 63 - 1 : Int) < (z.length : Int) * k := by
      have := Int.lt_mul_of_ediv_lt hk hgt
      exact this
    have : ((sizeLine : Nat) : Int) < 2 ^ 63 - 1 := by rw [hs]; decide
    omega
  · unfold Builtin.Str.tooLong
    exact decide_eq_false (by omega)
/-! == by lengths alone -/
def rEqLen (K : PySem.W.Frag) (t f : Bool) : R2 := fun x y H Q => ∃ a b vs ws, x = .ref a ∧ y = .ref b ∧ ((SqL K H a vs ∧ SqL K H b ws) ∧ (vs.length ≠ ws.length ∧ Q (.bl f) H ∨ vs = [] ∧ ws = [] ∧ Q (.bl t) H) ∨
  (SqT K H a vs ∧ SqT K H b ws) ∧ (vs = [] ∧ ws ≠ [] ∧ Q (.bl f) H ∨ vs ≠ [] ∧ ws = [] ∧ Q (.bl f) H ∨ vs = [] ∧ ws = [] ∧ Q (.bl t) H))
theorem op_eqLen (hu : X.A.units < cLine) : OpR X (compareOp .Eq) (rEqLen X.K true false) := by
  intro pins s σ H x y v u Q I rx ry h
  obtain ⟨a, b, vs, ws, rfl, rfl, h⟩ := h
  cases rx
  cases ry
  rcases h with ⟨⟨h1, h2⟩, h⟩ | ⟨⟨h1, h2⟩, h⟩
  · obtain ⟨its, r1, ⟨o, n, ho, hc, _, hd⟩, _⟩ := I.list h1
    obtain ⟨its', r2, ⟨o', n', ho', hc', _, hd'⟩, _⟩ := I.list h2
    have l1 := r1.length
    have l2 := r2.length
    rcases h with ⟨hn, q⟩ | ⟨rfl, rfl, q⟩
    · exact SeqAt.RcAt.lists_lengths ⟨o, ho, hc, _, hd⟩ ⟨o', ho', hc', _, hd'⟩ (by simp; omega) hu _ _ _ _ ⟨.bl false, H, I, rfl, q⟩
    · have e1 : its = [] := List.eq_nil_of_length_eq_zero l1.symm
      have e2 : its' = [] := List.eq_nil_of_length_eq_zero l2.symm
      subst e1 e2
      exact SeqAt.RcAt.lists (e := fun _ => true) ⟨o, ho, hc, _, hd⟩ ⟨o', ho', hc', _, hd'⟩ rfl hu (fun j h1 => absurd h1 (by simp)) _ _ _ _ ⟨.bl true, H, I, rfl, q⟩
  · obtain ⟨its, r1, ⟨o, ho, hc, n, hd⟩, _⟩ := I.tuple h1
    obtain ⟨its', r2, ⟨o', ho', hc', n', hd'⟩, _⟩ := I.tuple h2
    have l1 := r1.length
    have l2 := r2.length
    rcases h with ⟨rfl, hn, q⟩ | ⟨hn, rfl, q⟩ | ⟨rfl, rfl, q⟩
    · have e1 : its = [] := List.eq_nil_of_length_eq_zero l1.symm
      subst e1
      cases its' with
      | nil => exact absurd (List.eq_nil_of_length_eq_zero l2) hn
      | cons z zs => exact SeqAt.RcAt.tuples (e := fun _ => true) ⟨o, ho, hc, _, hd⟩ ⟨o', ho', hc', _, hd'⟩ hu (fun j h1 => absurd h1 (by simp)) _ _ _ _ ⟨.bl false, H, I, rfl, q⟩
    · have e1 : its' = [] := List.eq_nil_of_length_eq_zero l2.symm
      subst e1
      cases its with
      | nil => exact absurd (List.eq_nil_of_length_eq_zero l1) hn
      | cons z zs => exact SeqAt.RcAt.tuples (e := fun _ => true) ⟨o, ho, hc, _, hd⟩ ⟨o', ho', hc', _, hd'⟩ hu (fun j _ h1 => absurd h1 (by simp)) _ _ _ _ ⟨.bl false, H, I, rfl, q⟩
    · have e1 : its = [] := List.eq_nil_of_length_eq_zero l1.symm
      have e2 : its' = [] := List.eq_nil_of_length_eq_zero l2.symm
      subst e1 e2
      exact SeqAt.RcAt.tuples (e := fun _ => true) ⟨o, ho, hc, _, hd⟩ ⟨o', ho', hc', _, hd'⟩ hu (fun j h1 => absurd h1 (by simp)) _ _ _ _ ⟨.bl true, H, I, rfl, q⟩
theorem op_neLen (hu : X.A.units < cLine) : OpR X (compareOp .NotEq) (rEqLen X.K false true) := by
  intro pins s σ H x y v u Q I rx ry h
  obtain ⟨a, b, vs, ws, rfl, rfl, h⟩ := h
  cases rx
  cases ry
  rcases h with ⟨⟨h1, h2⟩, h⟩ | ⟨⟨h1, h2⟩, h⟩
  · obtain ⟨its, r1, ⟨o, n, ho, hc, _, hd⟩, _⟩ := I.list h1
    obtain ⟨its', r2, ⟨o', n', ho', hc', _, hd'⟩, _⟩ := I.list h2
    have l1 := r1.length
    have l2 := r2.length
    rcases h with ⟨hn, q⟩ | ⟨rfl, rfl, q⟩
    · exact SeqAt.RcNeAt.lists_lengths ⟨o, ho, hc, _, hd⟩ ⟨o', ho', hc', _, hd'⟩ (by simp; omega) hu _ _ _ _ ⟨.bl true, H, I, rfl, q⟩
    · have e1 : its = [] := List.eq_nil_of_length_eq_zero l1.symm
      have e2 : its' = [] := List.eq_nil_of_length_eq_zero l2.symm
      subst e1 e2
      exact SeqAt.RcNeAt.lists (e := fun _ => true) ⟨o, ho, hc, _, hd⟩ ⟨o', ho', hc', _, hd'⟩ rfl hu (fun j h1 => absurd h1 (by simp)) _ _ _ _ ⟨.bl false, H, I, rfl, q⟩
  · obtain ⟨its, r1, ⟨o, ho, hc, n, hd⟩, _⟩ := I.tuple h1
    obtain ⟨its', r2, ⟨o', ho', hc', n', hd'⟩, _⟩ := I.tuple h2
    have l1 := r1.length
    have l2 := r2.length
    rcases h with ⟨rfl, hn, q⟩ | ⟨hn, rfl, q⟩ | ⟨rfl, rfl, q⟩
    · have e1 : its = [] := List.eq_nil_of_length_eq_zero l1.symm
      subst e1
      cases its' with
      | nil => exact absurd (List.eq_nil_of_length_eq_zero l2) hn
      | cons z zs => exact SeqAt.RcNeAt.tuples (e := fun _ => true) ⟨o, ho, hc, _, hd⟩ ⟨o', ho', hc', _, hd'⟩ hu (fun j h1 => absurd h1 (by simp)) _ _ _ _ ⟨.bl true, H, I, rfl, q⟩
    · have e1 : its' = [] := List.eq_nil_of_length_eq_zero l2.symm
      subst e1
      cases its with
      | nil => exact absurd (List.eq_nil_of_length_eq_zero l1) hn
      | cons z zs => exact SeqAt.RcNeAt.tuples (e := fun _ => true) ⟨o, ho, hc, _, hd⟩ ⟨o', ho', hc', _, hd'⟩ hu (fun j _ h1 => absurd h1 (by simp)) _ _ _ _ ⟨.bl true, H, I, rfl, q⟩
    · have e1 : its = [] := List.eq_nil_of_length_eq_zero l1.symm
      have e2 : its' = [] := List.eq_nil_of_length_eq_zero l2.symm
      subst e1 e2
      exact SeqAt.RcNeAt.tuples (e := fun _ => true) ⟨o, ho, hc, _, hd⟩ ⟨o', ho', hc', _, hd'⟩ hu (fun j h1 => absurd h1 (by simp)) _ _ _ _ ⟨.bl false, H, I, rfl, q⟩
end
/-! ### xs[::-1] of lists and of tuples -/
theorem rev_places (n : Nat) : Builtin.Slice.sliceAdjust none none (-1) (n : Int) = ((n : Int) - 1, -1) := by
  unfold Builtin.Slice.sliceAdjust
  simp
theorem rev_count (n : Nat) : Builtin.Slice.slicePlaces ((n : Int) - 1) (-1) (-1) = n := by
  unfold Builtin.Slice.slicePlaces
  simp
  omega
theorem fm_congr {α β : Type} {f g : α → Option β} : ∀ l : List α, (∀ a ∈ l, f a = g a) → l.filterMap f = l.filterMap g
  | [], _ => rfl
  | a :: l, h => by rw [List.filterMap_cons, List.filterMap_cons, h a List.mem_cons_self, fm_congr l fun b hb => h b (List.mem_cons_of_mem _ hb)]
theorem rev_pick (xs : Array Value) : ((List.range xs.size).filterMap fun (k : Nat) => xs[(((xs.size : Int) - 1) + (k : Int) * (-1)).toNat]?).toArray = xs.toList.reverse.toArray := by
  rw [← PySem.W.krv_pick]
  unfold slicePick
  rw [PySem.W.krv_bounds]
  show _ = ((sliceRange ((xs.size : Int) - 1) (-1) (-1)).filterMap (xs[·]?)).toArray
  rw [PySem.W.krv_sliceRange, List.filterMap_map]
  congr 1
  refine fm_congr _ fun k hk => ?_
  have := List.mem_range.mp hk
  show xs[(((xs.size : Int) - 1) + (k : Int) * (-1)).toNat]? = xs[xs.size - 1 - k]?
  congr 1
  omega
section
variable {prog : Program} {w : World} {A : Around} {E : Value → Shared → Prop} {s : Shared}
theorem rev_applied {sl : Addr} {vl vu vk : Value} {n : Nat} {Q : Int × Int × Nat → Shared → Prop} (hs : s.heap.IsSliceOf sl vl vu vk) (pl : IsPart vl none) (pu : IsPart vu none) (pk : IsPart vk (some (-1)))
    (h : Q ((n : Int) - 1, -1, n) s) : wpAny (model prog w) A (Builtin.Slice.sliceApplied (.ref sl) (pure (n : Int))) Q E s := by
  obtain ⟨os, hos, hcs, hds⟩ := id hs
  unfold Builtin.Slice.sliceApplied Builtin.Slice.sliceFields
  refine wpAny_bind (wpAny_bind (wpAny_field hos hds (x := vl) rfl (wpAny_bind (wpAny_field hos hds (x := vu) rfl (wpAny_bind (wpAny_field hos hds (x := vk) rfl (wpAny_pure ?_)))))))
  refine wpAny_bind (HT.slicePart_ pk ?_)
  show wpAny _ _ (if ((-1 : Int) == 0) = true then _ else _) _ _ s
  rw [if_neg (by decide)]
  refine wpAny_bind (HT.slicePart_ pl (wpAny_bind (HT.slicePart_ pu (wpAny_bind (wpAny_pure ?_)))))
  show wpAny _ _ (match Builtin.Slice.sliceAdjust none none (-1) (n : Int) with | (lo, hi) => pure (lo, (-1 : Int), Builtin.Slice.slicePlaces lo hi (-1))) _ _ s
  rw [rev_places]
  show wpAny _ _ (pure ((n : Int) - 1, (-1 : Int), Builtin.Slice.slicePlaces ((n : Int) - 1) (-1) (-1))) _ _ s
  rw [rev_count]
  exact wpAny_pure h
theorem rev_item {t sl : Addr} {items : Array Value} {vl vu vk : Value} {Q : Value → Shared → Prop} (ht : IsTup s.heap t items) (hs : s.heap.IsSliceOf sl vl vu vk) (pl : IsPart vl none) (pu : IsPart vu none) (pk : IsPart vk (some (-1)))
    (h : Q (.ref s.heap.objs.size) { s with heap := s.heap.push { cls := .type "tuple", data := .seq items.toList.reverse.toArray } }) (hsz : items.size ≤ sizeLine) : wpAny (model prog w) A (getItem (.ref t) (.ref sl)) Q E s := by
  have ok : sizeOk (.seq items.toList.reverse.toArray) := by
    show items.toList.reverse.toArray.size ≤ sizeLine
    rw [List.size_toArray, List.length_reverse, Array.length_toList]
    exact hsz
  obtain ⟨os, hos, hcs, hds⟩ := id hs
  have hTs : s.TypeIs (.ref sl) "slice" := ⟨os, hos, hcs⟩
  unfold getItem
  try with_reducible refine wpAny_holding ?_
  first | refine wpAny_bind (wpAny_pure ?_) | skip
  refine wpAny_bind (wpAny_sequenceKey ht.typeIs (by decide) ?_)
  refine wpAny_bind (wpAny_callSpecial?_slot (name := Str.ofString "__getitem__") ht.typeIs PyProof.Rows.slot_tuple_getitem (wpAny_call_entry PyProof.Rows.slot_tuple_getitem ht.typeIs entry_tuple_getitem ?_ (args_tuple_getitem _ _)))
  show wpAny _ _ (Builtin.Tuple.tupleItemsOf (.ref t) >>= _) _ _ s
  refine wpAny_bind (tupleItemsOf_ ht (wpAny_bind (wpAny_typeOf hTs ?_)))
  rw [if_pos (by decide)]
  refine wpAny_bind (rev_applied hs pl pu pk ?_)
  have hno : ¬ ((((items.size : Int) - 1) == 0 && (-1 : Int) == 1 && items.size == items.size) = true) := by simp
  show wpAny _ _ (if ((((items.size : Int) - 1) == 0 && (-1 : Int) == 1 && items.size == items.size) = true) then _ else _) _ _ s
  rw [if_neg hno, rev_pick]
  first
    | exact wpAny_bind (wpAny_newObj_type (wpAny_pure ⟨_, rfl, wpAny_pure h⟩) ok)
    | exact wpAny_bind (wpAny_bind (wpAny_newObj_type (wpAny_pure ⟨_, rfl, wpAny_pure h⟩) ok))
    | exact wpAny_bind (wpAny_pure (wpAny_bind (wpAny_newObj_type (wpAny_pure ⟨_, rfl, wpAny_pure h⟩) ok)))
end
section
variable {X : Cx}
def tRevA (K : PySem.W.Frag) (te : TE) : TE := fun σ H Q => te σ H fun x H1 => ∃ a xs, x = .ref a ∧ ((SqL K H1 a xs ∧ ∀ p, H1 p = none → Q (.ref p) (upd H1 p (.lst xs.reverse))) ∨ (SqT K H1 a xs ∧ ∀ p, H1 p = none → Q (.ref p) (upd H1 p (.tup xs.reverse))))
theorem pe_revA {e : Expr} {te : TE} {k : Nat} {p1 p2 p3 pos : Pos} (he : PE X e te) : PE X (.Subscript e (.Slice none none (some (.UnaryOp .USub (.Constant (.int 1) k p1) p2)) p3) pos) (tRevA X.K te) := by
  refine ⟨fun pins s σ H Q I h => Subscript_ (thn (he.run pins s σ H _ I h) fun v s1 ⟨x, H1, I1, r1, a, xs, ex, q⟩ => ?_)⟩
  subst ex
  cases r1
  have hst : PO X (some (.UnaryOp .USub (.Constant (.int 1) k p1) p2)) (tPart (tUn (rU fun i => .int (-i)) (tC (.int 1)))) := po_some (pe_un un_neg pe_int)
  refine wpAny_Slice (thn (po_none.run pins s1 σ H1 (fun o J => o = none ∧ J = H1) I1 ⟨rfl, rfl⟩) fun vl s2 ⟨l, H2, I2, pl, el, e2⟩ => ?_)
  subst el e2
  refine thn (po_none.run pins s2 σ H2 (fun o J => o = none ∧ J = H2) I2 ⟨rfl, rfl⟩) fun vu s3 ⟨u, H3, I3, pu, eu, e3⟩ => ?_
  subst eu e3
  refine thn (hst.run pins s3 σ H3 (fun o J => o = some (-1) ∧ J = H3) I3 ⟨1, rfl, -1, rfl, rfl, rfl⟩) fun vk s4 ⟨o, H4, I4, pk, eo, e4⟩ => ?_
  subst eo e4
  have I5 : Inv X pins σ H4 { s4 with heap := s4.heap.push { cls := .type "slice", data := .fields #[vl, vu, vk] } } := I4.kept (t' := s4.toks) fun b ob q => Heap.get?_push_of_some _ q
  show wpAny (model X.prog X.w) X.A (subscriptTail e (.Slice none none (some (.UnaryOp .USub (.Constant (.int 1) k p1) p2)) p3) (.ref a) (.ref s4.heap.objs.size)) (EP X pins σ Q) X.xe { s4 with heap := s4.heap.push { cls := .type "slice", data := .fields #[vl, vu, vk] } }
  rcases q with ⟨hx, q⟩ | ⟨hx, q⟩
  · obtain ⟨its, r, ht, hz⟩ := I5.list hx
    have hl := r.length
    refine tail_any (ops := [.ref a, .ref s4.heap.objs.size]) ht.isList.typeIs (PySem.slot_list_getitem.lookup) ?_ (by with_unfolding_all rfl)
    refine wpAny_getItem_list_slice ht.isList (Heap.IsSliceOf.new _ vl vu vk) pl pu pk (by decide) ?_ (by rw [List.size_toArray]; omega)
    rw [PySem.W.krv_pick]
    exact ⟨.ref _, _, I5.laid (t' := s4.toks) (o := .lst xs.reverse) (fun b ob q => Heap.get?_push_of_some _ q) (Nat.le_refl _) ⟨by rw [List.length_reverse]; exact hz, _, 0, r.reverse, Heap.get?_push_size _ rfl⟩, rfl, q _ (I5.hok.fresh (Nat.le_refl _))⟩
  · obtain ⟨its, r, ht, hz⟩ := I5.tuple hx
    have hl := r.length
    refine tail_any (ops := [.ref a, .ref s4.heap.objs.size]) ht.typeIs (PyProof.Rows.slot_tuple_getitem.lookup) ?_ (by with_unfolding_all rfl)
    refine rev_item ht (Heap.IsSliceOf.new _ vl vu vk) pl pu pk ?_ (by rw [List.size_toArray]; omega)
    exact ⟨.ref _, _, I5.laid (t' := s4.toks) (o := .tup xs.reverse) (fun b ob q => Heap.get?_push_of_some _ q) (Nat.le_refl _) ⟨by rw [List.length_reverse]; exact hz, _, r.reverse, IsTup.new _ _⟩, rfl, q _ (I5.hok.fresh (Nat.le_refl _))⟩
end
end Mi

namespace Mi
open PySem L2

/-- where one stands -/
structure Ck (g : Gd) (X : Cx) (W : WX) : Prop where
  hK : X.K = g.K
  hmg : X.mg = g.mg
  hP : X.prog = g.P
  hw : X.w = g.w
  hb : X.base = g.base
  calm : X.calm = true
  nd : X.N.Nodup
  tk : Takes X W
  gd : X.A.guards = some []
  hu : X.A.units + 200 < cLine
  pw : PassesOwn (model X.prog X.w) X.A X.env X.xe

/-! ### arithmetic -/
def addD : D → D → Sto → R D
  | .int i, .int j, st => .ok (.int (i + j)) st
  | .str x, .str y, st => if x.length + y.length ≤ sizeLine then .ok (.str (x ++ y)) st else .stuck
  | .tup xs, .tup ys, st => if xs.length + ys.length ≤ sizeLine then .ok (.tup (xs ++ ys)) st else .stuck
  | .obj m, .obj n, st => match st[m]?, st[n]? with
    | some (.lst xs), some (.lst ys) => if xs.length + ys.length ≤ sizeLine then new (.lst (xs ++ ys)) st else .stuck
    | _, _ => .stuck
  | .obj m, .ev ys, st => match st[m]? with
    | some (.lst xs) => if xs.length + ys.length ≤ sizeLine then new (.lst (xs ++ ys)) st else .stuck
    | _ => .stuck
  | .ev xs, .obj m, st => match st[m]? with
    | some (.lst ys) => if xs.length + ys.length ≤ sizeLine then new (.lst (xs ++ ys)) st else .stuck
    | _ => .stuck
  | .ev xs, .ev ys, st => if xs.length + ys.length ≤ sizeLine then new (.lst (xs ++ ys)) st else .stuck
  | _, _, _ => .stuck
def subD : D → D → Sto → R D
  | .int i, .int j, st => .ok (.int (i - j)) st
  | _, _, _ => .stuck
def mulD : D → D → Sto → R D
  | .int i, .int j, st => if i.natAbs.log2 + j.natAbs.log2 < 1000000 then .ok (.int (i * j)) st else .stuck
  | .obj m, .int k, st => match st[m]? with
    | some (.lst xs) => if -(2 ^ 63) ≤ k ∧ k < 2 ^ 63 ∧ xs.length * k.toNat ≤ sizeLine then new (.lst (List.replicate k.toNat xs).flatten) st else .stuck
    | _ => .stuck
  | .ev xs, .int k, st => if -(2 ^ 63) ≤ k ∧ k < 2 ^ 63 ∧ xs.length * k.toNat ≤ sizeLine then new (.lst (List.replicate k.toNat xs).flatten) st else .stuck
  | .tup xs, .int k, st => if xs ≠ [] ∧ 2 ≤ k ∧ k ≤ 1000 ∧ xs.length ≤ 10000 then .ok (.tup (List.replicate k.toNat xs).flatten) st
    else if (xs = [] ∨ k = 1) ∧ -(2 ^ 63) ≤ k ∧ k < 2 ^ 63 then .ok (.tup xs) st else if xs ≠ [] ∧ k ≤ 0 ∧ -(2 ^ 63) ≤ k then .ok (.tup []) st else .stuck
  | .str x, .int k, st => if k ≤ 1000000 ∧ -1000000 ≤ k ∧ x.length * k.toNat ≤ sizeLine then .ok (.str (repS x k.toNat)) st else .stuck
  | _, _, _ => .stuck
def modD : D → D → Sto → R D
  | .int i, .int j, st => if 0 < j then .ok (.int (i % j)) st else .stuck
  | _, _, _ => .stuck
def fdivD : D → D → Sto → R D
  | .int i, .int j, st => if 0 < j ∧ j.natAbs.log2 < 9000 then .ok (.int (i / j)) st else .stuck
  | _, _, _ => .stuck
def powD : D → D → Sto → R D
  | .int i, .int j, st => if 0 ≤ j ∧ j ≤ 1000000 ∧ i.natAbs < 2 ^ 64 then .ok (.int (i ^ j.toNat)) st else .stuck
  | _, _, _ => .stuck
def negD : D → Sto → R D
  | .int i, st => .ok (.int (-i)) st
  | _, _ => .stuck

section
variable {g : Gd} {X : Cx} {W : WX} {σ : L2.St} {α : List Addr} {H : Hp} {st : Sto}
theorem PD.ok {d : D} {Q : VK} {v : V} (p : PD g W σ α H (.ok d st) Q) (s : StR g α st H) (r : RD g α H d v) : Q v H := Post.ok p s v r
/-- a new tuple -/
theorem PD.tup {ds : List D} {vs : List V} {Q : VK} (p : PD g W σ α H (.ok (.tup ds) st) Q) (s : StR g α st H) (r : RDs g α H ds vs) : ∀ q, H q = none → Q (.ref q) (upd H q (.tup vs)) := fun q hq =>
  p α _ (ext_new s hq _) (s.temp hq _) _ ⟨q, vs, rfl, .inl (.inl upd_same), r.mono (ext_new s hq _)⟩
/-- a new list -/
theorem PD.lst {ds : List D} {vs : List V} {Q : VK} (p : PD g W σ α H (new (.lst ds) st) Q) (s : StR g α st H) (r : RDs g α H ds vs) : ∀ q, H q = none → Q (.ref q) (upd H q (.lst vs)) := fun q hq =>
  p (α ++ [q]) _ (ext_alloc s hq _) (s.alloc hq ⟨vs, upd_same, r.mono (ext_alloc s hq _)⟩) _ ⟨q, rfl, alloc_at s q⟩
theorem RD.int' {i : Int} {v : V} (h : RD g α H (.int i) v) : v = .int i := h
theorem RD.str' {i : Str} {v : V} (h : RD g α H (.str i) v) : v = .str i := h
theorem RD.bl' {i : Bool} {v : V} (h : RD g α H (.bl i) v) : v = .bl i := h
theorem RD.tup' {ds : List D} {v : V} (h : RD g α H (.tup ds) v) : ∃ a vs, v = .ref a ∧ SqT g.K H a vs ∧ RDs g α H ds vs := h
theorem RD.obj' {n : Nat} {v : V} (h : RD g α H (.obj n) v) : ∃ a, v = .ref a ∧ α[n]? = some a := h
/-- a list of the store, by its value -/
theorem StR.lst (s : StR g α st H) {n : Nat} {v : V} {ds : List D} (h : RD g α H (.obj n) v) (e : st[n]? = some (.lst ds)) : ∃ a vs, v = .ref a ∧ α[n]? = some a ∧ H a = some (.lst vs) ∧ RDs g α H ds vs := by
  obtain ⟨a, rfl, ha⟩ := h
  obtain ⟨vs, h1, h2⟩ := s.ob n a _ ha e
  exact ⟨a, vs, rfl, ha, h1, h2⟩
def seqOf (st : Sto) (n : Nat) : Option (List D) := match st[n]? with
  | some (.lst ds) => some ds
  | some (.frz ds) => some ds
  | _ => none
theorem StR.seq (s : StR g α st H) {n : Nat} {v : V} {ds : List D} (h : RD g α H (.obj n) v) (e : seqOf st n = some ds) : ∃ a vs, v = .ref a ∧ α[n]? = some a ∧ SqL g.K H a vs ∧ RDs g α H ds vs := by
  obtain ⟨a, rfl, ha⟩ := h
  unfold seqOf at e
  split at e
  · rename_i xs e'
    cases e
    obtain ⟨vs, h1, h2⟩ := s.ob n a _ ha e'
    exact ⟨a, vs, rfl, ha, .inl (.inl h1), h2⟩
  · rename_i xs e'
    cases e
    obtain ⟨o, vs, h1, h2⟩ := s.ob n a _ ha e'
    exact ⟨a, vs, rfl, ha, .inl (.inr ⟨o, h1⟩), h2⟩
  · cases e

theorem op_addD (c : Ck g X W) : Op2 g X W (binaryOp .Add) addD := by
  intro σ α H st a b x y Q s ra rb p
  have lst : ∀ {d : D} {v : V} {n : Nat} {xs : List D}, RV g α H (.obj n) v → st[n]? = some (.lst xs) → ∃ l vs, v = .ref l ∧ H l = some (.lst vs) ∧ RDs g α H xs vs := fun {d v n xs} r e => by
    obtain ⟨l, vs, h1, _, h2, h3⟩ := s.lst (r.rd (fun _ z => nomatch z)) e
    exact ⟨l, vs, h1, h2, h3⟩
  have cat : ∀ {l1 l2 : Addr} {xs ys : List D} {vs ws : List V}, x = .ref l1 → y = .ref l2 → H l1 = some (.lst vs) → H l2 = some (.lst ws) → RDs g α H xs vs → RDs g α H ys ws → xs.length + ys.length ≤ sizeLine → PD g W σ α H (new (.lst (xs ++ ys)) st) Q → ∃ r, OpR X (binaryOp .Add) r ∧ r x y H Q := fun {l1 l2 xs ys vs ws} e1 e2 h1 h2 r1 r2 hl p => by
    rw [r1.length, r2.length] at hl
    exact ⟨_, op_cat, l1, l2, vs, ws, e1, e2, h1, h2, hl, p.lst s (r1.append r2)⟩
  cases a <;> cases b <;> first | exact p.elim | skip
  · cases ra.rd (fun _ z => nomatch z); cases rb.rd (fun _ z => nomatch z)
    exact ⟨_, op_add, _, _, rfl, rfl, p.ok s rfl⟩
  · cases ra.rd (fun _ z => nomatch z); cases rb.rd (fun _ z => nomatch z)
    dsimp only [addD] at p
    split at p
    · exact ⟨_, op_add_str, _, _, rfl, rfl, by assumption, p.ok s rfl⟩
    · exact p.elim
  · obtain ⟨a1, vs, rfl, h1, r1⟩ := ra.rd (fun _ z => nomatch z)
    obtain ⟨a2, ws, rfl, h2, r2⟩ := rb.rd (fun _ z => nomatch z)
    dsimp only [addD] at p
    split at p
    · rename_i hl
      rw [r1.length, r2.length] at hl
      refine ⟨_, op_catA, a1, a2, vs, ws, rfl, rfl, by rw [c.hK]; exact h1, by rw [c.hK]; exact h2, hl, fun e => ?_, fun _ e => ?_, fun _ _ => p.tup s (r1.append r2)⟩
      · subst e
        have e0 := r1.length
        rw [List.length_nil, List.length_eq_zero_iff] at e0
        subst e0
        exact p.ok s ⟨a2, ws, rfl, h2, r2⟩
      · subst e
        have e0 := r2.length
        rw [List.length_nil, List.length_eq_zero_iff] at e0
        subst e0
        rw [List.append_nil] at p
        exact p.ok s ⟨a1, vs, rfl, h1, r1⟩
    · exact p.elim
  · dsimp only [addD] at p
    split at p
    · rename_i e1 e2
      split at p
      · rename_i hl
        obtain ⟨l1, vs, q1, h1, r1⟩ := lst (d := .non) ra e1
        obtain ⟨l2, ws, q2, h2, r2⟩ := lst (d := .non) rb e2
        exact cat q1 q2 h1 h2 r1 r2 hl p
      · exact p.elim
    · exact p.elim
  · dsimp only [addD] at p
    split at p
    · rename_i e1
      split at p
      · rename_i hl
        obtain ⟨l1, vs, q1, h1, r1⟩ := lst (d := .non) ra e1
        obtain ⟨l2, ws, q2, _, h2, r2⟩ := rb.ev
        exact cat q1 q2 h1 h2 r1 r2 hl p
      · exact p.elim
    · exact p.elim
  · dsimp only [addD] at p
    split at p
    · rename_i e1
      split at p
      · rename_i hl
        obtain ⟨l1, vs, q1, _, h1, r1⟩ := ra.ev
        obtain ⟨l2, ws, q2, h2, r2⟩ := lst (d := .non) rb e1
        exact cat q1 q2 h1 h2 r1 r2 hl p
      · exact p.elim
    · exact p.elim
  · dsimp only [addD] at p
    split at p
    · rename_i hl
      obtain ⟨l1, vs, q1, _, h1, r1⟩ := ra.ev
      obtain ⟨l2, ws, q2, _, h2, r2⟩ := rb.ev
      exact cat q1 q2 h1 h2 r1 r2 hl p
    · exact p.elim
theorem op_subD : Op2 g X W (binaryOp .Sub) subD := by
  refine op2_of (fun _ _ _ => rfl) (fun a _ _ => by cases a <;> rfl) ?_
  intro σ α H st a b x y Q s ra rb p
  cases a <;> cases b <;> first | exact p.elim | skip
  cases ra; cases rb
  exact ⟨_, op_sub, _, _, rfl, rfl, p.ok s rfl⟩
theorem RDs.rep : ∀ (k : Nat) {ds : List D} {vs : List V}, RDs g α H ds vs → RDs g α H (List.replicate k ds).flatten (List.replicate k vs).flatten
  | 0, _, _, _ => by simp [RDs]
  | k + 1, ds, vs, h => by
    rw [List.replicate_succ, List.replicate_succ, List.flatten_cons, List.flatten_cons]
    exact h.append (RDs.rep k h)
theorem op_mulD (c : Ck g X W) : Op2 g X W (binaryOp .Mult) mulD := by
  intro σ α H st a b x y Q s ra rb p
  cases a <;> cases b <;> first | exact p.elim | skip
  · cases ra.rd (fun _ z => nomatch z); cases rb.rd (fun _ z => nomatch z)
    dsimp only [mulD] at p
    split at p
    · exact ⟨_, op_mulW, _, _, rfl, rfl, by assumption, p.ok s rfl⟩
    · exact p.elim
  · cases ra.rd (fun _ z => nomatch z); cases rb.rd (fun _ z => nomatch z)
    dsimp only [mulD] at p
    split at p
    · rename_i h
      exact ⟨_, op_mulStr, _, _, rfl, rfl, h.1, h.2.1, h.2.2, p.ok s rfl⟩
    · exact p.elim
  · cases rb.rd (fun _ z => nomatch z)
    dsimp only [mulD] at p
    split at p
    · rename_i h
      obtain ⟨h0, h1, h2, h3⟩ := h
      obtain ⟨a1, vs, rfl, q1, r1⟩ := ra.rd (fun _ z => nomatch z)
      refine ⟨_, op_repL, a1, _, vs, rfl, rfl, by rw [c.hK]; exact q1, fun e => ?_, h1, h2, by rw [← r1.length]; exact h3, p.tup s (r1.rep _)⟩
      subst e
      exact h0 (List.length_eq_zero_iff.mp r1.length)
    · split at p
      · rename_i h
        obtain ⟨a1, vs, rfl, q1, r1⟩ := ra.rd (fun _ z => nomatch z)
        refine ⟨_, op_repSame, a1, _, vs, rfl, rfl, by rw [c.hK]; exact q1, ?_, h.2.1, h.2.2, p.ok s ⟨a1, vs, rfl, q1, r1⟩⟩
        rcases h.1 with e | e
        · subst e
          exact .inl (List.length_eq_zero_iff.mp r1.length.symm)
        · exact .inr e
      · split at p
        · rename_i h
          obtain ⟨a1, vs, rfl, q1, r1⟩ := ra.rd (fun _ z => nomatch z)
          refine ⟨_, op_repNone, a1, _, vs, rfl, rfl, by rw [c.hK]; exact q1, fun e => ?_, h.2.1, h.2.2, p.tup s RDs.nil⟩
          subst e
          exact h.1 (List.length_eq_zero_iff.mp r1.length)
        · exact p.elim
  · cases rb.rd (fun _ z => nomatch z)
    dsimp only [mulD] at p
    split at p
    · rename_i e1
      split at p
      · rename_i h
        obtain ⟨h1, h2, h3⟩ := h
        obtain ⟨a1, vs, rfl, _, q1, r1⟩ := s.lst (ra.rd (fun _ z => nomatch z)) e1
        exact ⟨_, op_rep, a1, _, vs, rfl, rfl, q1, h1, h2, by rw [← r1.length]; exact h3, p.lst s (r1.rep _)⟩
      · exact p.elim
    · exact p.elim
  · cases rb.rd (fun _ z => nomatch z)
    dsimp only [mulD] at p
    split at p
    · rename_i h
      obtain ⟨h1, h2, h3⟩ := h
      obtain ⟨a1, vs, rfl, _, q1, r1⟩ := ra.ev
      exact ⟨_, op_rep, a1, _, vs, rfl, rfl, q1, h1, h2, by rw [← r1.length]; exact h3, p.lst s (r1.rep _)⟩
    · exact p.elim
theorem op_modD : Op2 g X W (binaryOp .Mod) modD := by
  refine op2_of (fun _ _ _ => rfl) (fun a _ _ => by cases a <;> rfl) ?_
  intro σ α H st a b x y Q s ra rb p
  cases a <;> cases b <;> first | exact p.elim | skip
  cases ra; cases rb
  dsimp only [modD] at p
  split at p
  · exact ⟨_, op_mod, _, _, rfl, rfl, by assumption, p.ok s rfl⟩
  · exact p.elim
theorem op_fdivD : Op2 g X W (binaryOp .FloorDiv) fdivD := by
  refine op2_of (fun _ _ _ => rfl) (fun a _ _ => by cases a <;> rfl) ?_
  intro σ α H st a b x y Q s ra rb p
  cases a <;> cases b <;> first | exact p.elim | skip
  cases ra; cases rb
  dsimp only [fdivD] at p
  split at p
  · exact ⟨_, op_fdivW, _, _, rfl, rfl, by assumption, p.ok s rfl⟩
  · exact p.elim
theorem op_powD : Op2 g X W (binaryOp .Pow) powD := by
  refine op2_of (fun _ _ _ => rfl) (fun a _ _ => by cases a <;> rfl) ?_
  intro σ α H st a b x y Q s ra rb p
  cases a <;> cases b <;> first | exact p.elim | skip
  cases ra; cases rb
  dsimp only [powD] at p
  split at p
  · exact ⟨_, op_pow, _, _, rfl, rfl, by assumption, p.ok s rfl⟩
  · exact p.elim
theorem op_negD : Op1 g X W (unaryOp .USub) negD := by
  intro σ α H st a x Q s ra p
  cases a <;> first | exact p.elim | skip
  cases ra
  exact ⟨_, un_neg, _, rfl, p.ok s rfl⟩
end

/-! ### comparisons -/
def strLt (x y : Str) : Bool := decide (x.cps.toList < y.cps.toList)
def cmpD (fi : Int → Int → Bool) (fs : Str → Str → Bool) : D → D → Sto → R D
  | .int i, .int j, st => .ok (.bl (fi i j)) st
  | .str x, .str y, st => .ok (.bl (fs x y)) st
  | .bl p, .bl q, st => .ok (.bl (fi (if p then 1 else 0) (if q then 1 else 0))) st
  | _, _, _ => .stuck
def ltD : D → D → Sto → R D := cmpD (fun i j => decide (i < j)) strLt
def leD : D → D → Sto → R D := cmpD (fun i j => decide (i ≤ j)) fun x y => !strLt y x
def gtD : D → D → Sto → R D := cmpD (fun i j => decide (j < i)) fun x y => strLt y x
def geD : D → D → Sto → R D := cmpD (fun i j => decide (j ≤ i)) fun x y => !strLt x y
def isD : D → D → Sto → R D
  | .ev _, _, _ => .stuck
  | .non, .non, st => .ok (.bl true) st
  | _, .non, st => .ok (.bl false) st
  | _, _, _ => .stuck
def isNotD : D → D → Sto → R D
  | .ev _, _, _ => .stuck
  | .non, .non, st => .ok (.bl false) st
  | _, .non, st => .ok (.bl true) st
  | _, _, _ => .stuck
section
variable {g : Gd} {X : Cx} {W : WX}
abbrev rBB (fi : Int → Int → Bool) : V → V → Hp → VK → Prop := fun x y H Q => ∃ p q : Bool, x = .bl p ∧ y = .bl q ∧ Q (.bl (fi (if p then 1 else 0) (if q then 1 else 0))) H
theorem op_bb {op : CmpOp} {fi : Int → Int → Bool} (h : ∀ {p q : Bool} {s : Shared} {Q : Value → Shared → Prop}, Q (.bool (fi (if p then 1 else 0) (if q then 1 else 0))) s → wpAny (model X.prog X.w) X.A (compareOp op (.bool p) (.bool q)) Q X.xe s) : OpR X (compareOp op) (rBB fi) := by
  intro pins s σ H x y v u Q I rx ry k
  obtain ⟨p, q, rfl, rfl, z⟩ := k
  cases rx
  cases ry
  exact h (fin_bl I z rfl)
theorem op_cmpD {op : CmpOp} {fi : Int → Int → Bool} {fs : Str → Str → Bool} (h1 : OpR X (compareOp op) (rI0 fun i j => .bl (fi i j)))
    (h2 : OpR X (compareOp op) (fun x y H Q => ∃ i j, x = .str i ∧ y = .str j ∧ Q (.bl (fs i j)) H)) (h3 : OpR X (compareOp op) (rBB fi)) : Op2 g X W (compareOp op) (cmpD fi fs) := by
  refine op2_of (fun _ _ _ => rfl) (fun a _ _ => by cases a <;> rfl) ?_
  intro σ α H st a b x y Q s ra rb p
  cases a <;> cases b <;> first | exact p.elim | skip
  · cases ra; cases rb
    exact ⟨_, h3, _, _, rfl, rfl, p.ok s rfl⟩
  · cases ra; cases rb
    exact ⟨_, h1, _, _, rfl, rfl, p.ok s rfl⟩
  · cases ra; cases rb
    exact ⟨_, h2, _, _, rfl, rfl, p.ok s rfl⟩
theorem op_ltD : Op2 g X W (compareOp .Lt) ltD := op_cmpD op_lt op_lt_str (op_bb fun k => PyProof.Rows.lt_bool k)
theorem op_leD : Op2 g X W (compareOp .LtE) leD := op_cmpD op_le op_le_str (op_bb fun k => PyProof.Rows.le_bool k)
theorem op_gtD : Op2 g X W (compareOp .Gt) gtD := op_cmpD op_gt op_gt_str (op_bb fun k => PyProof.Rows.gt_bool k)
theorem op_geD : Op2 g X W (compareOp .GtE) geD := op_cmpD op_ge op_ge_str (op_bb fun k => PyProof.Rows.ge_bool k)
theorem notnon {α : List Addr} {H : Hp} {d : D} {v : V} (h : RD g α H d v) (n : d ≠ .non) : v ≠ .non := by
  rintro rfl
  cases d <;> simp [RD] at h n
theorem op_isD : Op2 g X W (compareOp .Is) isD := by
  refine op2_of (fun _ _ _ => rfl) (fun a _ _ => by cases a <;> rfl) ?_
  intro σ α H st a b x y Q s ra rb p
  cases b <;> first | (cases a <;> exact p.elim) | skip
  cases rb
  refine ⟨_, op_isN, rfl, ?_⟩
  cases a <;> first
    | (exact ra.elim)
    | (cases ra; exact p.ok s rfl)
    | (have n := notnon ra (by intro q; cases q); rw [decide_eq_false n]; exact p.ok s rfl)
theorem op_isNotD : Op2 g X W (compareOp .IsNot) isNotD := by
  refine op2_of (fun _ _ _ => rfl) (fun a _ _ => by cases a <;> rfl) ?_
  intro σ α H st a b x y Q s ra rb p
  cases b <;> first | (cases a <;> exact p.elim) | skip
  cases rb
  refine ⟨_, op_notN, rfl, ?_⟩
  cases a <;> first
    | (exact ra.elim)
    | (cases ra; exact p.ok s rfl)
    | (have n := notnon ra (by intro q; cases q); rw [decide_eq_false n]; exact p.ok s rfl)
end
end Mi

namespace Mi
open PySem L2

/-! ### data as a whole -/
def allO {β γ : Type} (f : β → Option γ) : List β → Option (List γ)
  | [] => some []
  | a :: r => match f a, allO f r with
    | some b, some bs => some (b :: bs)
    | _, _ => none
def toP (st : Sto) : Nat → D → Option PyData
  | _, .non => some .none
  | _, .bl b => some (.bool b)
  | _, .int i => some (.int i)
  | _, .str x => some (.str x)
  | n + 1, .tup ds => match allO (toP st n) ds with | some ps => some (.tuple ps) | none => none
  | n + 1, .obj k => match seqOf st k with
    | some ds => (match allO (toP st n) ds with | some ps => some (.list ps) | none => none)
    | none => none
  | n + 1, .kl ds => match allO (toP st n) ds with | some ps => some (.list ps) | none => none
  | n + 1, .ev ds => match allO (toP st n) ds with | some ps => some (.list ps) | none => none
  | _, _ => none
section
variable {g : Gd} {X : Cx} {W : WX} {σ : L2.St} {α : List Addr} {H : Hp} {st : Sto}
theorem dps {f : D → Option PyData} (hf : ∀ d v p, f d = some p → RD g α H d v → Dp g.K H v p) : ∀ {ds : List D} {vs : List V} {ps : List PyData}, allO f ds = some ps → RDs g α H ds vs → DpAll g.K H vs ps
  | [], vs, ps, e, h => by
    cases e
    cases h
    exact .nil
  | d :: ds, vs, ps, e, h => by
    obtain ⟨v, r, rfl, h1, h2⟩ := h
    rw [allO] at e
    split at e
    · rename_i b bs e1 e2
      cases e
      exact .cons (hf d v _ e1 h1) (dps hf e2 h2)
    · cases e
theorem dp (s : StR g α st H) : ∀ (n : Nat) (d : D) (v : V) (p : PyData), toP st n d = some p → RD g α H d v → Dp g.K H v p := by
  intro n
  induction n with
  | zero =>
    intro d v p e h
    cases d <;> simp only [toP] at e <;> first
      | (cases e; cases h; constructor)
      | cases e
  | succ n ih =>
    intro d v p e h
    cases d with
    | non => cases e; cases h; constructor
    | bl => cases e; cases h; constructor
    | int => cases e; cases h; constructor
    | str => cases e; cases h; constructor
    | tup ds =>
      obtain ⟨a, vs, rfl, h1, h2⟩ := h
      rw [toP] at e
      split at e
      · rename_i ps e'
        cases e
        exact .tup h1 (dps ih e' h2)
      · cases e
    | obj k =>
      rw [toP] at e
      split at e
      · rename_i ds e'
        split at e
        · rename_i ps e2
          cases e
          obtain ⟨a, vs, rfl, _, h1, h2⟩ := s.seq h e'
          exact .lst h1 (dps ih e2 h2)
        · cases e
      · cases e
    | fn => cases e
    | ty => cases e
    | kl ds =>
      obtain ⟨a, vs, rfl, h1, h2⟩ := h
      rw [toP] at e
      split at e
      · rename_i ps e'
        cases e
        exact .lst h1.sq (dps ih e' h2)
      · cases e
    | ev ds => exact h.elim
theorem dpV (s : StR g α st H) (n : Nat) (d : D) (v : V) (p : PyData) (e : toP st n d = some p) (h : RV g α H d v) : Dp g.K H v p := by
  rcases h with h | ⟨ds, a, vs, rfl, rfl, _, ha, r⟩
  · exact dp s n d v p e h
  · cases n with
    | zero => cases e
    | succ n =>
      rw [toP] at e
      split at e
      · rename_i ps e'
        cases e
        exact .lst (.inl (.inl ha)) (dps (fun d v p => dp s n d v p) e' r)
      · cases e
end
def lstOf : D → Sto → Option (List D)
  | .ev ds, _ => some ds
  | .obj n, st => match st[n]? with | some (.lst ds) => some ds | _ => none
  | _, _ => none
def eqLen (a b : D) (st : Sto) : Option Bool := match lstOf a st, lstOf b st with
  | some ds, some es => if ds.length ≠ es.length then some false else if ds = [] then some true else none
  | _, _ => match a, b with
    | .tup ds, .tup es => if ds = [] ∧ es ≠ [] then some false else if ds ≠ [] ∧ es = [] then some false else if ds = [] ∧ es = [] then some true else none
    | _, _ => none
def eqG (a b : D) (st : Sto) : Option Bool := match toP st 66 a, toP st 66 b with
  | some p, some q => if (SeqAt.shaped p && SeqAt.shaped q) = true then some (PyData.eqv p q) else eqLen a b st
  | _, _ => eqLen a b st
def eqO : D → D → Sto → Option Bool
  | .int i, .int j, _ => some (decide (i = j))
  | .str x, .str y, _ => some (decide (x = y))
  | a, b, st => eqG a b st
def eqD (a b : D) (st : Sto) : R D := match eqO a b st with | some c => .ok (.bl c) st | none => .stuck
def neD (a b : D) (st : Sto) : R D := match eqO a b st with | some c => .ok (.bl (!c)) st | none => .stuck
section
variable {g : Gd} {X : Cx} {W : WX}
theorem lst_of {α : List Addr} {H : Hp} {st : Sto} {a : D} {x : V} {ds : List D} (s : StR g α st H) (ra : RV g α H a x) (e : lstOf a st = some ds) : ∃ a1 vs, x = .ref a1 ∧ SqL g.K H a1 vs ∧ RDs g α H ds vs := by
  cases a with
  | ev es =>
    cases e
    obtain ⟨a1, vs, rfl, _, q, r⟩ := ra.ev
    exact ⟨a1, vs, rfl, .inl (.inl q), r⟩
  | obj n =>
    unfold lstOf at e
    dsimp only at e
    split at e
    · rename_i es e1
      cases e
      obtain ⟨a1, vs, rfl, _, q, r⟩ := s.lst (ra.rd (fun _ z => nomatch z)) e1
      exact ⟨a1, vs, rfl, .inl (.inl q), r⟩
    · cases e
  | _ => cases e
theorem eqO_ok (c : Ck g X W) {α : List Addr} {H : Hp} {st : Sto} {a b : D} {x y : V} {k : Bool} (s : StR g α st H) (ra : RV g α H a x) (rb : RV g α H b y) (h : eqO a b st = some k) :
    (∀ Q : VK, Q (.bl k) H → ∃ r, OpR X (compareOp .Eq) r ∧ r x y H Q) ∧ ∀ Q : VK, Q (.bl (!k)) H → ∃ r, OpR X (compareOp .NotEq) r ∧ r x y H Q := by
  have gen0 : eqLen a b st = some k → (∀ Q : VK, Q (.bl k) H → ∃ r, OpR X (compareOp .Eq) r ∧ r x y H Q) ∧ ∀ Q : VK, Q (.bl (!k)) H → ∃ r, OpR X (compareOp .NotEq) r ∧ r x y H Q := fun h => by
    have hu : X.A.units < cLine := by have := c.hu; omega
    unfold eqLen at h
    split at h
    · rename_i ds es e1 e2
      obtain ⟨a1, vs, rfl, l1, r1⟩ := lst_of s ra e1
      obtain ⟨b1, ws, rfl, l2, r2⟩ := lst_of s rb e2
      have n1 := r1.length
      have n2 := r2.length
      rw [← c.hK] at l1 l2
      split at h
      · cases h
        exact ⟨fun Q q0 => ⟨_, op_eqLen hu, a1, b1, vs, ws, rfl, rfl, .inl ⟨⟨l1, l2⟩, .inl ⟨by omega, q0⟩⟩⟩, fun Q q0 => ⟨_, op_neLen hu, a1, b1, vs, ws, rfl, rfl, .inl ⟨⟨l1, l2⟩, .inl ⟨by omega, q0⟩⟩⟩⟩
      · rename_i hn
        split at h
        · rename_i hd
          cases h
          subst hd
          have e1 : vs = [] := List.eq_nil_of_length_eq_zero (by rw [← n1]; rfl)
          have e2 : ws = [] := List.eq_nil_of_length_eq_zero (by rw [← n2]; simp at hn; simp [← hn])
          exact ⟨fun Q q0 => ⟨_, op_eqLen hu, a1, b1, vs, ws, rfl, rfl, .inl ⟨⟨l1, l2⟩, .inr ⟨e1, e2, q0⟩⟩⟩, fun Q q0 => ⟨_, op_neLen hu, a1, b1, vs, ws, rfl, rfl, .inl ⟨⟨l1, l2⟩, .inr ⟨e1, e2, q0⟩⟩⟩⟩
        · cases h
    · split at h
      · rename_i ds es _ _ _
        obtain ⟨a1, vs, rfl, l1, r1⟩ := ra.rd (fun _ z => nomatch z)
        obtain ⟨b1, ws, rfl, l2, r2⟩ := rb.rd (fun _ z => nomatch z)
        have n1 := r1.length
        have n2 := r2.length
        rw [← c.hK] at l1 l2
        have em : ∀ {xs : List D} {ys : List V}, xs.length = ys.length → (xs = [] ↔ ys = []) := fun h => by rw [← List.length_eq_zero_iff, ← List.length_eq_zero_iff, h]
        split at h
        · rename_i hh
          cases h
          exact ⟨fun Q q0 => ⟨_, op_eqLen hu, a1, b1, vs, ws, rfl, rfl, .inr ⟨⟨l1, l2⟩, .inl ⟨(em n1).mp hh.1, fun e => hh.2 ((em n2).mpr e), q0⟩⟩⟩, fun Q q0 => ⟨_, op_neLen hu, a1, b1, vs, ws, rfl, rfl, .inr ⟨⟨l1, l2⟩, .inl ⟨(em n1).mp hh.1, fun e => hh.2 ((em n2).mpr e), q0⟩⟩⟩⟩
        · split at h
          · rename_i hh
            cases h
            exact ⟨fun Q q0 => ⟨_, op_eqLen hu, a1, b1, vs, ws, rfl, rfl, .inr ⟨⟨l1, l2⟩, .inr (.inl ⟨fun e => hh.1 ((em n1).mpr e), (em n2).mp hh.2, q0⟩)⟩⟩, fun Q q0 => ⟨_, op_neLen hu, a1, b1, vs, ws, rfl, rfl, .inr ⟨⟨l1, l2⟩, .inr (.inl ⟨fun e => hh.1 ((em n1).mpr e), (em n2).mp hh.2, q0⟩)⟩⟩⟩
          · split at h
            · rename_i hh
              cases h
              exact ⟨fun Q q0 => ⟨_, op_eqLen hu, a1, b1, vs, ws, rfl, rfl, .inr ⟨⟨l1, l2⟩, .inr (.inr ⟨(em n1).mp hh.1, (em n2).mp hh.2, q0⟩)⟩⟩, fun Q q0 => ⟨_, op_neLen hu, a1, b1, vs, ws, rfl, rfl, .inr ⟨⟨l1, l2⟩, .inr (.inr ⟨(em n1).mp hh.1, (em n2).mp hh.2, q0⟩)⟩⟩⟩
            · cases h
      · cases h
  have gen : eqG a b st = some k → (∀ Q : VK, Q (.bl k) H → ∃ r, OpR X (compareOp .Eq) r ∧ r x y H Q) ∧ ∀ Q : VK, Q (.bl (!k)) H → ∃ r, OpR X (compareOp .NotEq) r ∧ r x y H Q := fun h => by
    unfold eqG at h
    split at h
    · rename_i p q e1 e2
      split at h
      · rename_i hs
        cases h
        rw [Bool.and_eq_true] at hs
        have hu : X.A.units + 64 < cLine := by have := c.hu; omega
        have d1 := dpV s _ _ _ _ e1 ra
        have d2 := dpV s _ _ _ _ e2 rb
        rw [← c.hK] at d1 d2
        exact ⟨fun Q q0 => ⟨_, op_eqD hu, p, q, d1, d2, hs.1, hs.2, q0⟩, fun Q q0 => ⟨_, op_neD hu, p, q, d1, d2, hs.1, hs.2, q0⟩⟩
      · exact gen0 h
    · exact gen0 h
  cases a <;> cases b <;> first
    | exact gen h
    | (cases ra.rd (fun _ z => nomatch z); cases rb.rd (fun _ z => nomatch z); cases h
       refine ⟨fun Q q => ⟨_, op_eq, rfl, ?_⟩, fun Q q => ⟨_, op_ne, rfl, ?_⟩⟩ <;> simpa using q)
theorem op_eqQ (c : Ck g X W) : Op2 g X W (compareOp .Eq) eqD := by
  intro σ α H st a b x y Q s ra rb p
  unfold eqD at p
  split at p
  · rename_i k e
    exact (eqO_ok c s ra rb e).1 Q (p.ok s rfl)
  · exact p.elim
theorem op_neQ (c : Ck g X W) : Op2 g X W (compareOp .NotEq) neD := by
  intro σ α H st a b x y Q s ra rb p
  unfold neD at p
  split at p
  · rename_i k e
    exact (eqO_ok c s ra rb e).2 Q (p.ok s rfl)
  · exact p.elim
end

/-! ### in -/
def toV : D → Option V
  | .non => some .non
  | .bl b => some (.bl b)
  | .int i => some (.int i)
  | .str x => some (.str x)
  | _ => none
def inO : D → D → Sto → Option Bool
  | .str c, .str z, _ => if c.cps.size = 1 then some (decide (c.cps.getD 0 0 ∈ z.cps.toList)) else some (!(Builtin.Str.occurrences z c 0 z.length 1).isEmpty)
  | a, .tup ds, _ => match toV a, allO toV ds with | some x, some xs => some (inV x xs) | _, _ => none
  | a, .obj n, st => match seqOf st n with
    | some ds => (match toV a, allO toV ds with | some x, some xs => some (inV x xs) | _, _ => none)
    | none => none
  | a, .ev ds, _ => match toV a, allO toV ds with | some x, some xs => some (inV x xs) | _, _ => none
  | _, _, _ => none
def inD (a b : D) (st : Sto) : R D := match inO a b st with | some c => .ok (.bl c) st | none => .stuck
def notInD (a b : D) (st : Sto) : R D := match inO a b st with | some c => .ok (.bl (!c)) st | none => .stuck
section
variable {g : Gd} {X : Cx} {W : WX} {α : List Addr} {H : Hp} {st : Sto}
theorem toV_ok {d : D} {v x : V} (h : RD g α H d v) (e : toV d = some x) : v = x ∧ flatV x = true := by
  cases d <;> first | (cases e; cases h; exact ⟨rfl, rfl⟩) | cases e
theorem toVs_ok : ∀ {ds : List D} {vs xs : List V}, RDs g α H ds vs → allO toV ds = some xs → vs = xs ∧ xs.all flatV = true
  | [], vs, xs, h, e => by cases e; cases h; exact ⟨rfl, rfl⟩
  | d :: ds, vs, xs, h, e => by
    obtain ⟨v, r, rfl, h1, h2⟩ := h
    rw [allO] at e
    split at e
    · rename_i b bs e1 e2
      cases e
      obtain ⟨rfl, f1⟩ := toV_ok h1 e1
      obtain ⟨rfl, f2⟩ := toVs_ok h2 e2
      exact ⟨rfl, by rw [List.all_cons, f1, f2]; rfl⟩
    · cases e
theorem one_sign {c : Str} (h : c.cps.size = 1) : c = ⟨#[c.cps.getD 0 0]⟩ := by
  obtain ⟨⟨l⟩⟩ := c
  simp at h
  match l, h with
  | [x], _ => rfl
theorem inO_ok (c : Ck g X W) {a b : D} {x y : V} {k : Bool} (s : StR g α st H) (ra : RV g α H a x) (rb : RV g α H b y) (h : inO a b st = some k) :
    (∀ Q : VK, Q (.bl k) H → ∃ r, OpR X (compareOp .In) r ∧ r x y H Q) ∧ ∀ Q : VK, Q (.bl (!k)) H → ∃ r, OpR X (compareOp .NotIn) r ∧ r x y H Q := by
  have sq : ∀ {p : Addr} {ds : List D} {vs : List V}, (SqL X.K H p vs ∨ SqT X.K H p vs) → RDs g α H ds vs → (match toV a, allO toV ds with | some x, some xs => some (inV x xs) | _, _ => none) = some k → y = .ref p →
      (∀ Q : VK, Q (.bl k) H → ∃ r, OpR X (compareOp .In) r ∧ r x y H Q) ∧ ∀ Q : VK, Q (.bl (!k)) H → ∃ r, OpR X (compareOp .NotIn) r ∧ r x y H Q := fun {p ds vs} hq rd e ey => by
    split at e
    · rename_i z xs e1 e2
      cases e
      obtain ⟨rfl, f1⟩ := toV_ok (ra.rd fun ds z => by subst z; cases e1) e1
      obtain ⟨rfl, f2⟩ := toVs_ok rd e2
      subst ey
      exact ⟨fun Q q => ⟨_, op_in_seq, p, _, rfl, hq, f1, f2, q⟩, fun Q q => ⟨_, op_notIn_seq, p, _, rfl, hq, f1, f2, q⟩⟩
    · cases e
  cases b with
  | str z =>
    cases a <;> first | cases h | skip
    rename_i cc
    cases ra.rd (fun _ z => nomatch z); cases rb.rd (fun _ z => nomatch z)
    dsimp only [inO] at h
    split at h
    · rename_i h1
      cases h
      have e := one_sign h1
      exact ⟨fun Q q => ⟨_, op_in_sign, cc.cps.getD 0 0, z, congrArg V.str e, rfl, q⟩, fun Q q => ⟨_, op_notIn_sign, cc.cps.getD 0 0, z, congrArg V.str e, rfl, q⟩⟩
    · cases h
      exact ⟨fun Q q => ⟨_, op_in_str, _, _, rfl, rfl, q⟩, fun Q q => ⟨_, op_notIn_str, _, _, rfl, rfl, q⟩⟩
  | tup ds =>
    obtain ⟨p, vs, rfl, h1, h2⟩ := rb.rd (fun _ z => nomatch z)
    have h' : (match toV a, allO toV ds with | some x, some xs => some (inV x xs) | _, _ => none) = some k := by cases a <;> exact h
    exact sq (p := p) (.inr (by rw [c.hK]; exact h1)) h2 h' rfl
  | obj n =>
    have h' : (match seqOf st n with | some ds => (match toV a, allO toV ds with | some x, some xs => some (inV x xs) | _, _ => none) | none => none) = some k := by cases a <;> exact h
    split at h'
    · rename_i ds e'
      obtain ⟨p, vs, rfl, _, h1, h2⟩ := s.seq (rb.rd (fun _ z => nomatch z)) e'
      exact sq (p := p) (.inl (by rw [c.hK]; exact h1)) h2 h' rfl
    · cases h'
  | ev ds =>
    obtain ⟨p, vs, rfl, _, h1, h2⟩ := rb.ev
    have h' : (match toV a, allO toV ds with | some x, some xs => some (inV x xs) | _, _ => none) = some k := by cases a <;> exact h
    exact sq (p := p) (.inl (.inl (.inl h1))) h2 h' rfl
  | _ => cases a <;> cases h
theorem op_inQ (c : Ck g X W) : Op2 g X W (compareOp .In) inD := by
  intro σ α H st a b x y Q s ra rb p
  unfold inD at p
  split at p
  · rename_i k e
    exact (inO_ok c s ra rb e).1 Q (p.ok s rfl)
  · exact p.elim
theorem op_notInQ (c : Ck g X W) : Op2 g X W (compareOp .NotIn) notInD := by
  intro σ α H st a b x y Q s ra rb p
  unfold notInD at p
  split at p
  · rename_i k e
    exact (inO_ok c s ra rb e).2 Q (p.ok s rfl)
  · exact p.elim
end

/-! ### subscripts, slices -/
def ofO (o : Option D) (st : Sto) : R D := match o with | some d => .ok d st | none => .stuck
def ixD : D → D → Sto → R D
  | .tup ds, .int i, st => ofO (atI ds i) st
  | .str z, .int i, st => if z.length ≤ sizeLine then ofO ((atI z.cps.toList i).map fun c => .str ⟨#[c]⟩) st else .stuck
  | .obj n, .int i, st => match seqOf st n with | some ds => ofO (atI ds i) st | none => .stuck
  | .kl ds, .int i, st => ofO (atI ds i) st
  | .ev ds, .int i, st => ofO (atI ds i) st
  | _, _, _ => .stuck
def cutG {β : Type} (xs : List β) (lo hi : Option Int) : List β := (xs.drop (HT.sIx xs.length 0 lo)).take (HT.sIx xs.length xs.length hi - HT.sIx xs.length 0 lo)
def slD (d : D) (lo hi : Option Int) (st : Sto) : R D := match d with
  | .tup ds => .ok (.tup (cutG ds lo hi)) st
  | .str z => if z.length ≤ sizeLine then .ok (.str (cutS z lo hi)) st else .stuck
  | .obj n => (match seqOf st n with | some ds => new (.lst (cutG ds lo hi)) st | none => .stuck)
  | .kl ds => new (.lst (cutG ds lo hi)) st
  | _ => .stuck
abbrev DO := Env → Sto → R (Option Int)
def eNo : DO := fun _ st => .ok none st
def ePart (F : DE) : DO := fun env st => (F env st).bind fun d st1 => match d with | .int i => .ok (some i) st1 | _ => .stuck
def eSl (Fa : DE) (Fl Fh : DO) : DE := fun env st => (Fa env st).bind fun a st1 => (Fl env st1).bind fun lo st2 => (Fh env st2).bind fun hi st3 => slD a lo hi st3
def tO (g : Gd) (W : WX) (F : DO) : TO := fun σ H Q => ∃ α env st, EnvR g α H env σ ∧ StR g α st H ∧ Post g W σ α H (F env st) fun o _ _ H' => Q o H'
def OO (g : Gd) (X : Cx) (W : WX) (e : Option Expr) (F : DO) : Prop := PO X e (tO g W F)
theorem anyIx {X : Cx} : IxR X (fun x y H Q => ∃ r, IxR X r ∧ r x y H Q) := fun value slice pins s σ H x y v u Q I rx ry ⟨_, h, q⟩ hs => h value slice pins s σ H x y v u Q I rx ry q hs
theorem anySl {X : Cx} : SlR X (fun x lo hi H Q => ∃ r, SlR X r ∧ r x lo hi H Q) := fun pins s σ H x v vl vu lo hi sl Q I rx hs pl pu ⟨_, h, q⟩ => h pins s σ H x v vl vu lo hi sl Q I rx hs pl pu q
section
variable {g : Gd} {X : Cx} {W : WX} {α : List Addr} {H : Hp} {st : Sto}
theorem RDs.atI {ds : List D} {vs : List V} {i : Int} {d : D} (h : RDs g α H ds vs) (e : L2.atI ds i = some d) : ∃ v, L2.atI vs i = some v ∧ RD g α H d v := by
  unfold L2.atI at e ⊢
  rw [← h.length]
  cases q : ixN ds.length i with
  | none => rw [q] at e; cases e
  | some j =>
    rw [q] at e
    exact h.get e
theorem RDs.cut {ds : List D} {vs : List V} (lo hi : Option Int) (h : RDs g α H ds vs) : RDs g α H (cutG ds lo hi) (cutV vs lo hi) := by
  unfold cutG cutV
  rw [h.length]
  exact (h.drop _).take _
theorem ixD_ok (c : Ck g X W) {σ : L2.St} {a b : D} {x y : V} {Q : VK} (s : StR g α st H) (ra : RV g α H a x) (rb : RD g α H b y) (p : PD g W σ α H (ixD a b st) Q) : ∃ r, IxR X r ∧ r x y H Q := by
  cases b <;> first | (cases a <;> exact p.elim) | skip
  cases rb
  cases a <;> first | exact p.elim | skip
  · cases ra.rd (fun _ z => nomatch z)
    dsimp only [ixD] at p
    split at p
    · rename_i i z h
      cases e : L2.atI z.cps.toList i with
      | none => rw [e] at p; exact p.elim
      | some cc =>
        rw [e] at p
        exact ⟨_, ix_str, z, i, cc, rfl, rfl, h, e, PD.ok p s rfl⟩
    · exact p.elim
  · obtain ⟨a1, vs, rfl, h1, r1⟩ := ra.rd (fun _ z => nomatch z)
    dsimp only [ixD] at p
    rename_i i ds
    cases e : L2.atI ds i with
    | none => rw [e] at p; exact p.elim
    | some d =>
      rw [e] at p
      obtain ⟨v, e2, r2⟩ := r1.atI e
      exact ⟨_, ix_tup, a1, vs, i, v, rfl, rfl, by rw [c.hK]; exact h1, e2, PD.ok p s r2⟩
  · dsimp only [ixD] at p
    rename_i i n
    cases e' : seqOf st n with
    | none => rw [e'] at p; exact p.elim
    | some ds =>
      rw [e'] at p
      obtain ⟨a1, vs, rfl, _, h1, r1⟩ := s.seq (ra.rd (fun _ z => nomatch z)) e'
      dsimp only at p
      cases e : L2.atI ds i with
      | none => rw [e] at p; exact p.elim
      | some d =>
        rw [e] at p
        obtain ⟨v, e2, r2⟩ := r1.atI e
        exact ⟨_, ix_list, a1, vs, i, v, rfl, rfl, by rw [c.hK]; exact h1, e2, PD.ok p s r2⟩
  · obtain ⟨a1, vs, rfl, h1, r1⟩ := ra.rd (fun _ z => nomatch z)
    dsimp only [ixD] at p
    rename_i i ds
    cases e : L2.atI ds i with
    | none => rw [e] at p; exact p.elim
    | some d =>
      rw [e] at p
      obtain ⟨v, e2, r2⟩ := r1.atI e
      exact ⟨_, ix_list, a1, vs, i, v, rfl, rfl, by rw [c.hK]; exact h1.sq, e2, PD.ok p s r2⟩
  · obtain ⟨a1, vs, rfl, hna, h1, r1⟩ := ra.ev
    dsimp only [ixD] at p
    rename_i i ds
    cases e : L2.atI ds i with
    | none => rw [e] at p; exact p.elim
    | some d =>
      rw [e] at p
      obtain ⟨v, e2, r2⟩ := r1.atI e
      exact ⟨_, ix_list, a1, vs, i, v, rfl, rfl, .inl (.inl h1), e2, PD.ok p s r2⟩
theorem oe_ix (c : Ck g X W) {a b : Expr} {Fa Fb : DE} {pos : Pos} (ha : OV g X W a Fa) (hb : OE g X W b Fb) (hs : PlainIx b := by exact fun _ _ => rfl) : OE g X W (.Subscript a b pos) (e2 ixD Fa Fb) :=
  ofE (pe_ix anyIx ha hb hs) fun σ H Q ⟨α, env, st, hE, hS, p⟩ => by
    refine tV.run hE hS (p.bind.imp fun d1 st1 α1 H1 x1 s1 q v1 r1 => ?_)
    refine tE.run (hE.mono x1) s1 (q.bind.imp fun d2 st2 α2 H2 x2 s2 q2 v2 r2 => ?_)
    exact ixD_ok c s2 (r1.mono x2) r2 q2
theorem oo_no : OO g X W none eNo := ⟨fun pins s σ H Q I ⟨α, env, st, hE, hS, p⟩ => po_none.run pins s σ H Q I (p.ok hS)⟩
theorem oo_part {e : Expr} {F : DE} (h : OE g X W e F) : OO g X W (some e) (ePart F) := ⟨fun pins s σ H Q I ⟨α, env, st, hE, hS, p⟩ => (po_some h).run pins s σ H Q I (by
    refine tE.run hE hS (p.bind.imp fun d1 st1 α1 H1 x1 s1 q v1 r1 => ?_)
    cases d1 <;> first | exact q.elim | skip
    cases r1
    exact ⟨_, rfl, q.ok s1⟩)⟩
theorem slD_ok (c : Ck g X W) {σ : L2.St} {a : D} {lo hi : Option Int} {x : V} {Q : VK} (s : StR g α st H) (ra : RD g α H a x) (p : PD g W σ α H (slD a lo hi st) Q) : ∃ r, SlR X r ∧ r x lo hi H Q := by
  cases a <;> first | exact p.elim | skip
  · cases ra
    dsimp only [slD] at p
    split at p
    · rename_i h
      exact ⟨_, sl_str, _, rfl, h, PD.ok p s rfl⟩
    · exact p.elim
  · obtain ⟨a1, vs, rfl, h1, r1⟩ := ra
    refine ⟨_, sl_tupA, a1, vs, rfl, by rw [c.hK]; exact h1, fun e => ?_, fun _ => PD.tup p s (r1.cut lo hi)⟩
    refine PD.ok p s ⟨a1, vs, rfl, h1, ?_⟩
    have := r1.cut lo hi
    have q : cutV vs lo hi = vs := by
      unfold cutV
      rw [e.1, e.2]
      simp
    rw [q] at this
    exact this
  · dsimp only [slD] at p
    rename_i n
    cases e' : seqOf st n with
    | none => rw [e'] at p; exact p.elim
    | some ds =>
      rw [e'] at p
      obtain ⟨a1, vs, rfl, _, h1, r1⟩ := s.seq ra e'
      exact ⟨_, sl_list, a1, vs, rfl, by rw [c.hK]; exact h1, PD.lst p s (r1.cut lo hi)⟩
  · obtain ⟨a1, vs, rfl, h1, r1⟩ := ra
    exact ⟨_, sl_list, a1, vs, rfl, by rw [c.hK]; exact h1.sq, PD.lst p s (r1.cut lo hi)⟩
theorem oe_sl (c : Ck g X W) {a : Expr} {lo hi : Option Expr} {Fa : DE} {Fl Fh : DO} {p2 pos : Pos} (ha : OE g X W a Fa) (hl : OO g X W lo Fl) (hh : OO g X W hi Fh) : OE g X W (.Subscript a (.Slice lo hi none p2) pos) (eSl Fa Fl Fh) :=
  ofE (pe_slice anySl ha hl hh) fun σ H Q ⟨α, env, st, hE, hS, p⟩ => by
    refine tE.run hE hS (p.bind.imp fun d1 st1 α1 H1 x1 s1 q v1 r1 => ?_)
    refine ⟨α1, env, st1, hE.mono x1, s1, q.bind.imp fun lo st2 α2 H2 x2 s2 q2 => ?_⟩
    refine ⟨α2, env, st2, (hE.mono x1).mono x2, s2, q2.bind.imp fun hi st3 α3 H3 x3 s3 q3 => ?_⟩
    exact slD_ok c s3 ((r1.mono x2).mono x3) q3
end

/-! ### argument lists, displays -/
def aNil : DA := fun _ st => .ok [] st
def aCons (F : DE) (G : DA) : DA := fun env st => (F env st).bind fun d st1 => (G env st1).bind fun ds st2 => .ok (d :: ds) st2
def eTup (G : DA) : DE := fun env st => (G env st).bind fun ds st1 => if ds.length ≤ sizeLine then .ok (.tup ds) st1 else .stuck
def eLst (G : DA) : DE := fun env st => (G env st).bind fun ds st1 => if ds.length ≤ sizeLine then new (.lst ds) st1 else .stuck
section
variable {g : Gd} {X : Cx} {W : WX}
theorem oa_nil : OA g X W [] aNil := ofA pa_nil fun σ H Q ⟨α, env, st, hE, hS, p⟩ => p.ok hS [] RDs.nil
theorem oa_cons {e : Expr} {es : List Expr} {F : DE} {G : DA} (h : OE g X W e F) (k : OA g X W es G) (hs : starEach (e :: es) X.env = (false, eval e X.env) :: starEach es X.env := by rfl) : OA g X W (e :: es) (aCons F G) :=
  ofA (pa_cons h k hs) fun σ H Q ⟨α, env, st, hE, hS, p⟩ => by
    refine tE.run hE hS (p.bind.imp fun d1 st1 α1 H1 x1 s1 q v1 r1 => ?_)
    refine tA.run (hE.mono x1) s1 (q.bind.imp fun d2 st2 α2 H2 x2 s2 q2 v2 r2 => ?_)
    exact q2.ok s2 _ (.cons (r1.mono x2) r2)
theorem oe_tup {es : List Expr} {G : DA} {k : Nat} {pos : Pos} (h : OA g X W es G) : OE g X W (.Tuple es k pos) (eTup G) :=
  ofE (pe_tup h) fun σ H Q ⟨α, env, st, hE, hS, p⟩ => by
    refine tA.run hE hS (p.bind.imp fun ds st1 α1 H1 x1 s1 q vs r => ?_)
    split at q
    · rename_i hl
      exact ⟨by rw [← r.length]; exact hl, PD.tup q s1 r⟩
    · exact q.elim
theorem oe_lst {es : List Expr} {G : DA} {pos : Pos} (h : OA g X W es G) : OE g X W (.List es pos) (eLst G) :=
  ofE (pe_lst h) fun σ H Q ⟨α, env, st, hE, hS, p⟩ => by
    refine tA.run hE hS (p.bind.imp fun ds st1 α1 H1 x1 s1 q vs r => ?_)
    split at q
    · rename_i hl
      exact ⟨by rw [← r.length]; exact hl, PD.lst q s1 r⟩
    · exact q.elim
end

/-! ### truth -/
def truD : D → Sto → Option Bool
  | .non, _ => some false
  | .bl b, _ => some b
  | .int i, _ => some (i != 0)
  | .str x, _ => if x.length ≤ sizeLine then some ((x.length : Int) != 0) else none
  | .tup ds, _ => some (!ds.isEmpty)
  | .obj n, st => match seqOf st n with
    | some ds => some (!ds.isEmpty)
    | none => (match st[n]? with | some (.dic kvs) => some (!kvs.isEmpty) | _ => none)
  | .kl ds, _ => some (!ds.isEmpty)
  | _, _ => none
def eAnd (Fa Fb : DE) : DE := fun env st => (Fa env st).bind fun a st1 => match truD a st1 with | some true => Fb env st1 | some false => .ok a st1 | none => .stuck
def eOr (Fa Fb : DE) : DE := fun env st => (Fa env st).bind fun a st1 => match truD a st1 with | some true => .ok a st1 | some false => Fb env st1 | none => .stuck
def eNot (Fa : DE) : DE := fun env st => (Fa env st).bind fun a st1 => match truD a st1 with | some b => .ok (.bl (!b)) st1 | none => .stuck
def tst (Fa : DE) : DT := fun env st => (Fa env st).bind fun a st1 => match truD a st1 with | some b => .ok b st1 | none => .stuck
def tstB (Fa : DE) : DT := fun env st => (Fa env st).bind fun a st1 => match a with | .bl b => .ok b st1 | _ => .stuck
def bAnd (Fa Fb : DT) : DT := fun env st => (Fa env st).bind fun a st1 => if a = true then Fb env st1 else .ok false st1
def bOr (Fa Fb : DT) : DT := fun env st => (Fa env st).bind fun a st1 => if a = true then .ok true st1 else Fb env st1
def bNot (Fa : DT) : DT := fun env st => (Fa env st).bind fun a st1 => .ok (!a) st1
def eIf (Fc : DT) (Fa Fb : DE) : DE := fun env st => (Fc env st).bind fun c st1 => if c = true then Fa env st1 else Fb env st1
def eChain (o o' : D → D → Sto → R D) (Fa Fb Fc : DE) : DE := fun env st => (Fa env st).bind fun a st1 => (Fb env st1).bind fun b st2 => (o a b st2).bind fun k st3 => match k with
  | .bl true => (Fc env st3).bind fun c st4 => o' b c st4
  | .bl false => .ok (.bl false) st3
  | _ => .stuck
section
variable {g : Gd} {X : Cx} {W : WX} {α : List Addr} {H : Hp} {st : Sto}
theorem RKs.empty : ∀ {ds : List (Key × D)} {vs : List (Key × V)}, RKs g α H ds vs → ds.isEmpty = vs.isEmpty
  | [], vs, h => by cases h; rfl
  | d :: ds, vs, h => by obtain ⟨v, r, rfl, _⟩ := h; rfl
theorem RDs.empty : ∀ {ds : List D} {vs : List V}, RDs g α H ds vs → ds.isEmpty = vs.isEmpty
  | [], vs, h => by cases h; rfl
  | d :: ds, vs, h => by obtain ⟨v, r, rfl, _⟩ := h; rfl
theorem tru_v (s : StR g α st H) {d : D} {v : V} {b : Bool} (h : RD g α H d v) (e : truD d st = some b) : TruV g.K v H b := by
  cases d with
  | non => cases e; cases h; rfl
  | bl => cases e; cases h; rfl
  | int => cases e; cases h; rfl
  | str x =>
    cases h
    dsimp only [truD] at e
    split at e
    · rename_i hl
      cases e
      exact ⟨hl, rfl⟩
    · cases e
  | tup ds =>
    cases e
    obtain ⟨a, vs, rfl, h1, h2⟩ := h
    exact .inr (.inl ⟨vs, h1, by rw [h2.empty]⟩)
  | obj n =>
    dsimp only [truD] at e
    split at e
    · rename_i ds e'
      cases e
      obtain ⟨a, vs, rfl, _, h1, h2⟩ := s.seq h e'
      exact .inl ⟨vs, h1, by rw [h2.empty]⟩
    · split at e
      · rename_i kvs e'
        cases e
        obtain ⟨a, rfl, ha⟩ := h
        obtain ⟨vs, h1, h2⟩ := s.ob n a _ ha e'
        exact .inr (.inr ⟨vs, h1, by rw [h2.empty]⟩)
      · cases e
  | fn => cases e
  | ty => cases e
  | kl ds =>
    cases e
    obtain ⟨a, vs, rfl, h1, h2⟩ := h
    exact .inl ⟨vs, h1.sq, by rw [h2.empty]⟩
  | ev ds => exact h.elim
variable {a b c0 : Expr} {rest : List Expr} {Fa Fb Fc : DE} {pos : Pos}
theorem oe_and (c : Ck g X W) (ha : OE g X W a Fa) (hb : OE g X W (.BoolOp .And (b :: rest) pos) Fb) : OE g X W (.BoolOp .And (a :: b :: rest) pos) (eAnd Fa Fb) :=
  ofE (pe_andT ha hb) fun σ H Q ⟨α, env, st, hE, hS, p⟩ => by
    refine tE.run hE hS (p.bind.imp fun d1 st1 α1 H1 x1 s1 q v1 r1 => ?_)
    split at q
    · rename_i e
      exact ⟨true, by rw [c.hK]; exact tru_v s1 r1 e, by rw [if_pos rfl]; exact tE.run (hE.mono x1) s1 q⟩
    · rename_i e
      exact ⟨false, by rw [c.hK]; exact tru_v s1 r1 e, by rw [if_neg Bool.false_ne_true]; exact q.ok s1 _ r1⟩
    · exact q.elim
theorem oe_or (c : Ck g X W) (ha : OE g X W a Fa) (hb : OE g X W (.BoolOp .Or (b :: rest) pos) Fb) : OE g X W (.BoolOp .Or (a :: b :: rest) pos) (eOr Fa Fb) :=
  ofE (pe_orT ha hb) fun σ H Q ⟨α, env, st, hE, hS, p⟩ => by
    refine tE.run hE hS (p.bind.imp fun d1 st1 α1 H1 x1 s1 q v1 r1 => ?_)
    split at q
    · rename_i e
      exact ⟨true, by rw [c.hK]; exact tru_v s1 r1 e, by rw [if_pos rfl]; exact q.ok s1 _ r1⟩
    · rename_i e
      exact ⟨false, by rw [c.hK]; exact tru_v s1 r1 e, by rw [if_neg Bool.false_ne_true]; exact tE.run (hE.mono x1) s1 q⟩
    · exact q.elim
theorem oe_one {op : BoolOp} (ha : OE g X W a Fa) : OE g X W (.BoolOp op [a] pos) Fa := pe_one ha
theorem oe_not (c : Ck g X W) (ha : OE g X W a Fa) : OE g X W (.UnaryOp .Not a pos) (eNot Fa) :=
  ofE (pe_notT ha) fun σ H Q ⟨α, env, st, hE, hS, p⟩ => by
    refine tE.run hE hS (p.bind.imp fun d1 st1 α1 H1 x1 s1 q v1 r1 => ?_)
    split at q
    · rename_i k e
      exact ⟨k, by rw [c.hK]; exact tru_v s1 r1 e, q.ok s1 _ rfl⟩
    · exact q.elim
theorem oe_chain {op op' : CmpOp} {o o' : D → D → Sto → R D} (h : Op2 g X W (compareOp op) o) (h' : Op2 g X W (compareOp op') o') (ha : OV g X W a Fa) (hb : OV g X W b Fb) (hc : OV g X W c0 Fc)
    (hm : lastMarks [op, op'] [b, c0] = false := by with_unfolding_all rfl) : OE g X W (.Compare a [op, op'] [b, c0] pos) (eChain o o' Fa Fb Fc) :=
  ofE (pe_chain any2 any2 ha hb hc hm) fun σ H Q ⟨α, env, st, hE, hS, p⟩ => by
    refine tV.run hE hS (p.bind.imp fun d1 st1 α1 H1 x1 s1 q v1 r1 => ?_)
    refine tV.run (hE.mono x1) s1 (q.bind.imp fun d2 st2 α2 H2 x2 s2 q2 v2 r2 => ?_)
    refine h σ α2 H2 st2 d1 d2 v1 v2 _ s2 (r1.mono x2) r2 (q2.bind.imp fun k st3 α3 H3 x3 s3 q3 v3 r3 => ?_)
    split at q3
    · cases r3
      refine ⟨true, rfl, ?_⟩
      rw [if_pos rfl]
      refine tV.run (((hE.mono x1).mono x2).mono x3) s3 (q3.bind.imp fun d4 st4 α4 H4 x4 s4 q4 v4 r4 => ?_)
      exact h' σ α4 H4 st4 d2 d4 v2 v4 Q s4 ((r2.mono x3).mono x4) r4 q4
    · cases r3
      refine ⟨false, rfl, ?_⟩
      rw [if_neg Bool.false_ne_true]
      exact q3.ok s3 _ rfl
    · exact q3.elim
/-! tests -/
theorem ot_val (c : Ck g X W) (ha : OE g X W a Fa) (he : ∀ whole, isTrue a X.env whole = (do let v ← whole; standAt a.pos; holding [v] (truthy v)) := by intro _; rfl) : OT g X W a (tst Fa) :=
  ofT (pt_truth ha he) fun σ H Q ⟨α, env, st, hE, hS, p⟩ => by
    refine tE.run hE hS (p.bind.imp fun d1 st1 α1 H1 x1 s1 q v1 r1 => ?_)
    split at q
    · rename_i k e
      exact ⟨k, by rw [c.hK]; exact tru_v s1 r1 e, q.ok s1⟩
    · exact q.elim
theorem ot_cmp {op : CmpOp} {o : D → D → Sto → R D} (h : Op2 g X W (compareOp op) o) (ha : OV g X W a Fa) (hb : OV g X W b Fb) (hm : behindInMarks op b = false := by rfl) : OT g X W (.Compare a [op] [b] pos) (tstB (e2 o Fa Fb)) :=
  ofT (pt_cmpR any2 ha hb hm) fun σ H Q ⟨α, env, st, hE, hS, p⟩ => two h σ H _ (tE.run hE hS (p.bind.imp fun d1 st1 α1 H1 x1 s1 q v1 r1 => by
    cases d1 <;> first | exact q.elim | skip
    cases r1
    exact ⟨_, rfl, q.ok s1⟩))
theorem ot_chain {op op' : CmpOp} {o o' : D → D → Sto → R D} (h : Op2 g X W (compareOp op) o) (h' : Op2 g X W (compareOp op') o') (ha : OV g X W a Fa) (hb : OV g X W b Fb) (hc : OV g X W c0 Fc)
    (hm : lastMarks [op, op'] [b, c0] = false := by with_unfolding_all rfl) : OT g X W (.Compare a [op, op'] [b, c0] pos) (tstB (eChain o o' Fa Fb Fc)) :=
  ofT (pt_chain any2 any2 ha hb hc hm) fun σ H Q ⟨α, env, st, hE, hS, p⟩ => by
    have p1 : tE g W (eChain o o' Fa Fb Fc) σ H fun v H' => ∃ k, v = .bl k ∧ Q k H' := tE.run hE hS (p.bind.imp fun d1 st1 α1 H1 x1 s1 q v1 r1 => by
      cases d1 <;> first | exact q.elim | skip
      cases r1
      exact ⟨_, rfl, q.ok s1⟩)
    obtain ⟨α, env, st, hE, hS, p⟩ := p1
    refine tV.run hE hS (p.bind.imp fun d1 st1 α1 H1 x1 s1 q v1 r1 => ?_)
    refine tV.run (hE.mono x1) s1 (q.bind.imp fun d2 st2 α2 H2 x2 s2 q2 v2 r2 => ?_)
    refine h σ α2 H2 st2 d1 d2 v1 v2 _ s2 (r1.mono x2) r2 (q2.bind.imp fun k st3 α3 H3 x3 s3 q3 v3 r3 => ?_)
    split at q3
    · cases r3
      refine ⟨true, rfl, ?_⟩
      rw [if_pos rfl]
      refine tV.run (((hE.mono x1).mono x2).mono x3) s3 (q3.bind.imp fun d4 st4 α4 H4 x4 s4 q4 v4 r4 => ?_)
      exact h' σ α4 H4 st4 d2 d4 v2 v4 _ s4 ((r2.mono x3).mono x4) r4 q4
    · cases r3
      refine ⟨false, rfl, ?_⟩
      rw [if_neg Bool.false_ne_true]
      exact q3.ok s3 _ rfl
    · exact q3.elim
def OW (g : Gd) (X : Cx) (W : WX) (e : Expr) (F : DT) : Prop := PW X e (tT g W F)
variable {Ga Gb : DT}
theorem OW.ot (h : OW g X W a Ga) : OT g X W a Ga := PW.pt h
theorem ow_and1 (ha : OT g X W a Ga) : OW g X W (.BoolOp .And [a] pos) Ga := pw_and1 ha
theorem ow_or1 (ha : OT g X W a Ga) : OW g X W (.BoolOp .Or [a] pos) Ga := pw_or1 ha
theorem ow_and (ha : OT g X W a Ga) (hb : OW g X W (.BoolOp .And (b :: rest) pos) Gb) : OW g X W (.BoolOp .And (a :: b :: rest) pos) (bAnd Ga Gb) :=
  ofW (pw_and ha hb) fun σ H Q ⟨α, env, st, hE, hS, p⟩ => by
    refine tT.run hE hS (p.bind.imp fun k st1 α1 H1 x1 s1 q => ?_)
    split at q
    · rename_i e
      rw [if_pos e]
      exact tT.run (hE.mono x1) s1 q
    · rename_i e
      rw [if_neg e]
      exact q.ok s1
theorem ow_or (ha : OT g X W a Ga) (hb : OW g X W (.BoolOp .Or (b :: rest) pos) Gb) : OW g X W (.BoolOp .Or (a :: b :: rest) pos) (bOr Ga Gb) :=
  ofW (pw_or ha hb) fun σ H Q ⟨α, env, st, hE, hS, p⟩ => by
    refine tT.run hE hS (p.bind.imp fun k st1 α1 H1 x1 s1 q => ?_)
    split at q
    · rename_i e
      rw [if_pos e]
      exact q.ok s1
    · rename_i e
      rw [if_neg e]
      exact tT.run (hE.mono x1) s1 q
theorem ot_not (ha : OT g X W a Ga) : OT g X W (.UnaryOp .Not a pos) (bNot Ga) :=
  ofT (pt_not ha) fun σ H Q ⟨α, env, st, hE, hS, p⟩ => tT.run hE hS (p.bind.imp fun k st1 α1 H1 x1 s1 q => q.ok s1)
theorem oe_if {c1 : Expr} (hc : OT g X W c1 Ga) (ha : OE g X W a Fa) (hb : OE g X W b Fb) : OE g X W (.IfExp c1 a b pos) (eIf Ga Fa Fb) :=
  ofE (pe_ifExp hc ha hb) fun σ H Q ⟨α, env, st, hE, hS, p⟩ => by
    refine tT.run hE hS (p.bind.imp fun k st1 α1 H1 x1 s1 q => ?_)
    split at q
    · rename_i e
      rw [if_pos e]
      exact tE.run (hE.mono x1) s1 q
    · rename_i e
      rw [if_neg e]
      exact tE.run (hE.mono x1) s1 q
end
end Mi

namespace Mi
open PySem L2

/-! ### likeness of data, as written -/
mutual
def beqD : D → D → Bool
  | .non, .non => true
  | .bl a, .bl b => a == b
  | .int a, .int b => decide (a = b)
  | .str a, .str b => decide (a = b)
  | .tup a, .tup b => beqDs a b
  | .obj a, .obj b => decide (a = b)
  | .fn a, .fn b => decide (a = b)
  | .ty a, .ty b => decide (a = b)
  | .kl a, .kl b => beqDs a b
  | .ev a, .ev b => beqDs a b
  | _, _ => false
def beqDs : List D → List D → Bool
  | [], [] => true
  | a :: as, b :: bs => beqD a b && beqDs as bs
  | _, _ => false
end
mutual
theorem beqD_eq : ∀ {a b : D}, beqD a b = true → a = b
  | .non, b, h => by cases b <;> simp [beqD] at h; rfl
  | .bl x, b, h => by cases b <;> simp [beqD] at h; subst h; rfl
  | .int x, b, h => by cases b <;> simp [beqD] at h; subst h; rfl
  | .str x, b, h => by cases b <;> simp [beqD] at h; subst h; rfl
  | .tup x, b, h => by cases b <;> simp [beqD] at h; rw [beqDs_eq h]
  | .obj x, b, h => by cases b <;> simp [beqD] at h; subst h; rfl
  | .fn x, b, h => by cases b <;> simp [beqD] at h; subst h; rfl
  | .ty x, b, h => by cases b <;> simp [beqD] at h; subst h; rfl
  | .kl x, b, h => by cases b <;> simp [beqD] at h; rw [beqDs_eq h]
  | .ev x, b, h => by cases b <;> simp [beqD] at h; rw [beqDs_eq h]
theorem beqDs_eq : ∀ {a b : List D}, beqDs a b = true → a = b
  | [], b, h => by cases b <;> simp [beqDs] at h; rfl
  | x :: xs, b, h => by
    cases b with
    | nil => simp [beqDs] at h
    | cons y ys =>
      simp [beqDs] at h
      rw [beqD_eq h.1, beqDs_eq h.2]
end
mutual
theorem beqD_refl : ∀ a : D, beqD a a = true
  | .non => rfl
  | .bl x => by simp [beqD]
  | .int x => by simp [beqD]
  | .str x => by simp [beqD]
  | .tup x => by simp [beqD, beqDs_refl x]
  | .obj x => by simp [beqD]
  | .fn x => by simp [beqD]
  | .ty x => by simp [beqD]
  | .kl x => by simp [beqD, beqDs_refl x]
  | .ev x => by simp [beqD, beqDs_refl x]
theorem beqDs_refl : ∀ a : List D, beqDs a a = true
  | [] => rfl
  | x :: xs => by simp [beqDs, beqD_refl x, beqDs_refl xs]
end
/-- lists that must stay while they are walked -/
abbrev Wat := List (Nat × List D)
def okW : Wat → Sto → Bool
  | [], _ => true
  | (n, ds) :: r, st => (match seqOf st n with | some es => beqDs ds es | none => false) && okW r st
theorem okW_one {n : Nat} {ds : List D} {r : Wat} {st : Sto} (h : okW ((n, ds) :: r) st = true) : seqOf st n = some ds ∧ okW r st = true := by
  rw [okW, Bool.and_eq_true] at h
  refine ⟨?_, h.2⟩
  have h1 := h.1
  split at h1
  · rename_i es e
    rw [e, beqDs_eq h1]
  · cases h1
theorem okW_nil (st : Sto) : okW [] st = true := rfl
theorem okW_of {n : Nat} {ds : List D} {st : Sto} (h : seqOf st n = some ds) : okW [(n, ds)] st = true := by
  rw [okW, h]
  simp [beqDs_refl, okW]

/-! ### statements -/
inductive RS where
  | nx (env : Env) (st : Sto)
  | rt (d : D) (st : Sto)
  | bk (env : Env) (st : Sto)
  | ct (env : Env) (st : Sto)
  | exc (c : Nat) (fs : List (Str × D)) (env : Env) (st : Sto)
  | stuck
def PostS (g : Gd) (W : WX) (α : List Addr) (H : Hp) (r : RS) (E : Ends) : Prop := match r with
  | .nx env st => ∀ α' H' σ', Ext α H α' H' → StR g α' st H' → EnvR g α' H' env σ' → E.nx σ' H'
  | .rt d st => ∀ α' H' v, Ext α H α' H' → StR g α' st H' → RD g α' H' d v → E.rt v H'
  | .bk env st => ∀ α' H' σ', Ext α H α' H' → StR g α' st H' → EnvR g α' H' env σ' → E.bk σ' H'
  | .ct env st => ∀ α' H' σ', Ext α H α' H' → StR g α' st H' → EnvR g α' H' env σ' → E.ct σ' H'
  | .exc c fs env st => ∀ α' H' cls dx σ', Ext α H α' H' → StR g α' st H' → EnvR g α' H' env σ' → XR g α' H' c fs cls dx → W cls dx σ' H'
  | .stuck => False
abbrev DS := Env → Sto → RS
def tS (g : Gd) (W : WX) (F : DS) : TS := fun E σ H => ∃ α env st, EnvR g α H env σ ∧ StR g α st H ∧ PostS g W α H (F env st) E
def OS (g : Gd) (X : Cx) (W : WX) (s : Stmt) (F : DS) : Prop := PS X s (tS g W F)
def OSs (g : Gd) (X : Cx) (W : WX) (s : List Stmt) (F : DS) : Prop := PSs X s (tS g W F)
def bindS {β : Type} (r : R β) (env : Env) (k : β → Sto → RS) : RS := match r with
  | .ok b st => k b st
  | .exc c fs st => .exc c fs env st
  | .stuck => .stuck
@[simp] theorem bindS_ok {β : Type} (b : β) (st : Sto) (env : Env) (k : β → Sto → RS) : bindS (R.ok b st) env k = k b st := rfl
@[simp] theorem bindS_stuck {β : Type} (env : Env) (k : β → Sto → RS) : bindS (R.stuck : R β) env k = .stuck := rfl
@[simp] theorem bindS_exc {β : Type} (c fs st) (env : Env) (k : β → Sto → RS) : bindS (R.exc c fs st : R β) env k = .exc c fs env st := rfl
section
variable {g : Gd} {W : WX} {α α' : List Addr} {H H' : Hp} {E E' : Ends} {r : RS} {env : Env} {σ : L2.St}
theorem PostS.mono (e : Ext α H α' H') (h : PostS g W α H r E) : PostS g W α' H' r E := by
  cases r with
  | nx env st => exact fun α2 H2 σ2 f => h α2 H2 σ2 (e.trans f)
  | rt d st => exact fun α2 H2 σ2 f => h α2 H2 σ2 (e.trans f)
  | bk env st => exact fun α2 H2 σ2 f => h α2 H2 σ2 (e.trans f)
  | ct env st => exact fun α2 H2 σ2 f => h α2 H2 σ2 (e.trans f)
  | exc c fs env st => exact fun α2 H2 cls dx σ2 f => h α2 H2 cls dx σ2 (e.trans f)
  | stuck => exact h
theorem PostS.bind {β : Type} {q : R β} {k : β → Sto → RS} (hE : EnvR g α H env σ) (h : PostS g W α H (bindS q env k) E) :
    Post g W σ α H q (fun b st α' H' => PostS g W α' H' (k b st) E) := by
  cases q with
  | ok b st => exact fun α' H' e s => PostS.mono e h
  | exc c fs st => exact fun α' H' cls dx e s x => h α' H' cls dx σ e s (hE.mono e) x
  | stuck => exact h
end
def sNil : DS := fun env st => .nx env st
def sSeq (F G : DS) : DS := fun env st => match F env st with
  | .nx env1 st1 => G env1 st1
  | r => r
def sRet (F : DE) : DS := fun env st => bindS (F env st) env fun d st1 => .rt d st1
def sRetN : DS := fun env st => .rt .non st
def sIf (c : DT) (F G : DS) : DS := fun env st => bindS (c env st) env fun b st1 => if b = true then F env st1 else G env st1
def sExpr (F : DE) : DS := fun env st => bindS (F env st) env fun _ st1 => .nx env st1
def sBreak : DS := fun env st => .bk env st
def sCont : DS := fun env st => .ct env st
section
variable {g : Gd} {X : Cx} {W : WX} {s : Stmt} {ss : List Stmt} {F G : DS} {pos : Pos}
theorem os_nil : OSs g X W [] sNil := ofSs pss_nil fun E σ H ⟨α, env, st, hE, hS, p⟩ => p α H σ (Ext.refl α H) hS hE
theorem os_cons (h : OS g X W s F) (k : OSs g X W ss G) : OSs g X W (s :: ss) (sSeq F G) :=
  ofSs (pss_cons h k) fun E σ H ⟨α, env, st, hE, hS, p⟩ => by
    refine ⟨α, env, st, hE, hS, ?_⟩
    unfold sSeq at p
    cases q : F env st with
    | nx env1 st1 =>
      rw [q] at p
      exact fun α' H' σ' e s r => ⟨α', env1, st1, r, s, PostS.mono e p⟩
    | rt d st1 => rw [q] at p; exact p
    | bk env1 st1 => rw [q] at p; exact p
    | ct env1 st1 => rw [q] at p; exact p
    | exc c fs env1 st1 => rw [q] at p; exact p
    | stuck => rw [q] at p; exact p
theorem os_pass : OS g X W (.Pass pos) sNil := ofS ps_pass fun E σ H ⟨α, env, st, hE, hS, p⟩ => p α H σ (Ext.refl α H) hS hE
theorem os_break : OS g X W (.Break pos) sBreak := ofS ps_break fun E σ H ⟨α, env, st, hE, hS, p⟩ => p α H σ (Ext.refl α H) hS hE
theorem os_cont : OS g X W (.Continue pos) sCont := ofS ps_continue fun E σ H ⟨α, env, st, hE, hS, p⟩ => p α H σ (Ext.refl α H) hS hE
theorem os_ret {e : Expr} {F : DE} (h : OE g X W e F) : OS g X W (.Return (some e) pos) (sRet F) :=
  ofS (ps_ret h) fun E σ H ⟨α, env, st, hE, hS, p⟩ => tE.run hE hS ((p.bind hE).imp fun d st1 α1 H1 x1 s1 q v r => q α1 H1 v (Ext.refl _ _) s1 r)
theorem os_retN : OS g X W (.Return none pos) sRetN := ofS ps_retN fun E σ H ⟨α, env, st, hE, hS, p⟩ => p α H .non (Ext.refl _ _) hS rfl
theorem os_if {c : Expr} {C : DT} {a b : List Stmt} (hc : OT g X W c C) (ha : OSs g X W a F) (hb : OSs g X W b G) : OS g X W (.If c a b pos) (sIf C F G) :=
  ofS (ps_if hc ha hb) fun E σ H ⟨α, env, st, hE, hS, p⟩ => tT.run hE hS ((p.bind hE).imp fun k st1 α1 H1 x1 s1 q => by
    split at q
    · rename_i e
      rw [if_pos e]
      exact ⟨α1, env, st1, hE.mono x1, s1, q⟩
    · rename_i e
      rw [if_neg e]
      exact ⟨α1, env, st1, hE.mono x1, s1, q⟩)
theorem os_expr {e : Expr} {F : DE} (h : OE g X W e F) (hs : swapsWith e none pos.line X.env = pure false := by rfl) : OS g X W (.Expr e pos) (sExpr F) :=
  ofS (ps_expr h hs) fun E σ H ⟨α, env, st, hE, hS, p⟩ => tE.run hE hS ((p.bind hE).imp fun d st1 α1 H1 x1 s1 q v r => q α1 H1 σ (Ext.refl _ _) s1 (hE.mono x1))
end

/-! ### targets: a name, some names -/
inductive Tg where
  | nm (i : Nat)
  | tp (is : List Nat)
def setAll {β : Type} (env : List (Option β)) : List Nat → List β → List (Option β)
  | i :: is, d :: ds => setAll (env.set i (some d)) is ds
  | _, _ => env
def bindT : Tg → D → Env → Option Env
  | .nm i, d, env => some (env.set i (some d))
  | .tp is, .tup ds, env => if ds.length = is.length then some (setAll env is ds) else none
  | _, _, _ => none
def gNames : List Nat → TGs
  | [] => gNil
  | i :: is => gCons (gName i) (gNames is)
def tgV (K : PySem.W.Frag) : Tg → TG
  | .nm i => gName i
  | .tp is => gTup K is.length (gNames is)
def Tg.slots : Tg → List Nat
  | .nm i => [i]
  | .tp is => is
theorem wipe_get (σ : L2.St) (j : Nat) : ∀ vs : List Nat, (wipe σ vs)[j]? = if j ∈ vs ∧ j < σ.length then some none else σ[j]?
  | [] => by simp [wipe]
  | v :: vs => by
    have ih := wipe_get σ j vs
    unfold wipe
    by_cases h : v = j
    · subst h
      by_cases hl : v < σ.length
      · rw [List.getElem?_set_self (by rw [wipe_length]; exact hl)]
        simp [hl]
      · rw [List.getElem?_eq_none (by rw [List.length_set, wipe_length]; omega)]
        simp [hl]
    · rw [List.getElem?_set_ne h, ih]
      have : (j ∈ v :: vs) ↔ j ∈ vs := by simp [Ne.symm h]
      simp only [this]
theorem wipe_set {σ : L2.St} {i : Nat} {x : Option V} {vs : List Nat} (h : i ∈ vs) : wipe (σ.set i x) vs = wipe σ vs := by
  apply List.ext_getElem?
  intro j
  rw [wipe_get, wipe_get, List.length_set]
  by_cases hj : i = j
  · subst hj
    by_cases hl : i < σ.length
    · simp [h, hl]
    · simp [hl]
  · rw [List.getElem?_set_ne hj]
theorem wipe_setAll : ∀ (is : List Nat) (xs : List V) {σ : L2.St} {vs : List Nat}, (∀ i ∈ is, i ∈ vs) → wipe (setAll σ is xs) vs = wipe σ vs
  | [], _, _, _, _ => by simp [setAll]
  | i :: is, [], _, _, _ => by simp [setAll]
  | i :: is, x :: xs, σ, vs, h => by
    rw [setAll, wipe_setAll is xs fun j hj => h j (List.mem_cons_of_mem _ hj), wipe_set (h i List.mem_cons_self)]
section
variable {g : Gd} {α : List Addr} {H : Hp} {env : Env} {σ : L2.St}
theorem setAll_r : ∀ (is : List Nat) {ds : List D} {vs : List V} {env : Env} {σ : L2.St}, EnvR g α H env σ → RDs g α H ds vs → ds.length = is.length → EnvR g α H (setAll env is ds) (setAll σ is vs) ∧ ∀ Q, Q (setAll σ is vs) H → gNames is vs σ H Q
  | [], ds, vs, env, σ, hE, h, hl => by
    have : ds = [] := List.length_eq_zero_iff.mp hl
    subst this
    cases h
    exact ⟨hE, fun Q q => ⟨rfl, q⟩⟩
  | i :: is, ds, vs, env, σ, hE, h, hl => by
    cases ds with
    | nil => cases hl
    | cons d ds =>
      obtain ⟨v, r, rfl, h1, h2⟩ := h
      obtain ⟨k1, k2⟩ := setAll_r is (hE.set i h1) h2 (by simpa using hl)
      exact ⟨k1, fun Q q => ⟨v, r, rfl, k2 Q q⟩⟩
theorem bindT_ok {K : PySem.W.Frag} (hK : K = g.K) {t : Tg} {d : D} {v : V} {env1 : Env} (hE : EnvR g α H env σ) (h : RD g α H d v) (e : bindT t d env = some env1) :
    ∃ σ1, EnvR g α H env1 σ1 ∧ (∀ Q, Q σ1 H → tgV K t v σ H Q) ∧ ∀ vs : List Nat, (∀ i ∈ t.slots, i ∈ vs) → wipe σ1 vs = wipe σ vs := by
  cases t with
  | nm i =>
    cases e
    exact ⟨_, hE.set i h, fun Q q => q, fun vs hv => wipe_set (hv i (by simp [Tg.slots]))⟩
  | tp is =>
    cases d <;> simp only [bindT] at e <;> try cases e
    rename_i ds
    split at e
    · rename_i hl
      cases e
      obtain ⟨a, vs, rfl, h1, h2⟩ := h
      obtain ⟨k1, k2⟩ := setAll_r is hE h2 hl
      exact ⟨_, k1, fun Q q => ⟨a, vs, rfl, by rw [hK]; exact h1, by rw [← h2.length]; exact hl, k2 Q q⟩, fun vs' hv => wipe_setAll is vs hv⟩
    · cases e
end
def OG (X : Cx) (e : Expr) (t : Tg) : Prop := PG X e (tgV X.K t)
def OGs (X : Cx) (es : List Expr) (is : List Nat) : Prop := PGs X es (gNames is)
section
variable {X : Cx} {pos : Pos}
theorem og_nm {i : Nat} {x : Str} (hN : X.N.Nodup) (hi : X.N[i]? = some x := by rfl) (hx : Loc X.env.scope x := by first | exact Or.inl rfl | exact Or.inr rfl) (hf : X.fn x = true ∨ X.env.scope.names.lookup x = some .local := by first | exact .inl rfl | exact .inr rfl) : OG X (.Name x pos) (.nm i) := pg_name hN hi hx hf
theorem ogs_nil : OGs X [] [] := pgs_nil
theorem ogs_cons {i : Nat} {x : Str} {es : List Expr} {is : List Nat} (hN : X.N.Nodup) (h : OGs X es is) (hi : X.N[i]? = some x := by rfl) (hx : Loc X.env.scope x := by first | exact Or.inl rfl | exact Or.inr rfl)
    (hf : X.fn x = true ∨ X.env.scope.names.lookup x = some .local := by first | exact .inl rfl | exact .inr rfl) (hs : (assignEach (.Name x pos :: es) X.env).map (·.2) = assign (.Name x pos) X.env :: (assignEach es X.env).map (·.2) := by rfl) : OGs X (.Name x pos :: es) (i :: is) :=
  pgs_cons (pg_name hN hi hx hf) h hs
theorem og_tp {es : List Expr} {is : List Nat} {k : Nat} (hc : X.calm = true) (h : OGs X es is) (hn : (assignEach es X.env).length = is.length := by rfl) (hst : (assignEach es X.env).findIdx? (·.1) = none := by rfl) : OG X (.Tuple es k pos) (.tp is) :=
  pg_tup hc h hn hst
end
def sAsg (t : Tg) (F : DE) : DS := fun env st => bindS (F env st) env fun d st1 => match bindT t d env with | some env1 => .nx env1 st1 | none => .stuck
section
variable {g : Gd} {X : Cx} {W : WX} {pos : Pos}
theorem asg_step (c : Ck g X W) {t : Tg} {F : DE} : ∀ E σ H, tS g W (sAsg t F) E σ H → tAsg (tE g W F) (tgV X.K t) E σ H := fun E σ H ⟨α, env, st, hE, hS, p⟩ => by
  refine tE.run hE hS ((p.bind hE).imp fun d st1 α1 H1 x1 s1 q v r => ?_)
  split at q
  · rename_i env1 e
    obtain ⟨σ1, k1, k2, _⟩ := bindT_ok c.hK (hE.mono x1) r e
    exact k2 _ (q α1 H1 σ1 (Ext.refl _ _) s1 k1)
  · exact q.elim
theorem os_set (c : Ck g X W) {i : Nat} {x : Str} {e : Expr} {F : DE} {pos' : Pos} (h : OE g X W e F) (hi : X.N[i]? = some x := by rfl) (hx : Loc X.env.scope x := by first | exact Or.inl rfl | exact Or.inr rfl)
    (hs : swapsWith e (some (.Name x pos')) pos.line X.env = pure false := by rfl) (hf : X.fn x = true ∨ X.env.scope.names.lookup x = some .local := by first | exact .inl rfl | exact .inr rfl) : OS g X W (.Assign [.Name x pos'] e pos) (sAsg (.nm i) F) :=
  ofS (ps_set c.nd hi hx h hs hf) (asg_step c)
theorem os_asg (c : Ck g X W) {tg e : Expr} {t : Tg} {F : DE} (h : OE g X W e F) (k : OG X tg t) (hs : swapsWithSole [tg] e pos.line X.env = pure false := by rfl) (hw : swappedStores [tg] e X.env = pure none := by rfl)
    (h1 : (assignEach [tg] X.env).map (·.2) = [assign tg X.env] := by rfl) : OS g X W (.Assign [tg] e pos) (sAsg t F) :=
  ofS (ps_asg h k hs hw h1) (asg_step c)
end
end Mi

namespace Mi
open PySem L2

/-! ### what is walked -/
structure ItR (g : Gd) (J : It) (ds : List D) (w : Wat) (α0 : List Addr) (H0 : Hp) : Prop where
  go : ∀ i α H st, Ext α0 H0 α H → StR g α st H → okW w st = true → i < ds.length → J.go i H
  yl : ∀ i α H st x H', Ext α0 H0 α H → StR g α st H → okW w st = true → J.yld i H x H' → ∀ d, ds[i]? = some d → Ext α H α H' ∧ StR g α st H' ∧ RD g α H' d x
  stop : ∀ i α H st, Ext α0 H0 α H → StR g α st H → okW w st = true → ds.length ≤ i → J.stop i H
abbrev DIt := Env → Sto → R (List D × Wat)
def tI (g : Gd) (W : WX) (F : DIt) : TI := fun σ H S => ∃ α env st, EnvR g α H env σ ∧ StR g α st H ∧ Post g W σ α H (F env st) fun p _ α' H' => ∀ J, ItR g J p.1 p.2 α' H' → S J H'
def OI (g : Gd) (X : Cx) (W : WX) (tg e : Expr) (F : DIt) : Prop := PI X tg e (tI g W F)
def signs (x : Str) : List D := x.cps.toList.map fun c => .str ⟨#[c]⟩
def iterD : D → Sto → Option (List D × Wat)
  | .tup ds, _ => some (ds, [])
  | .str x, _ => some (signs x, [])
  | .obj n, st => match seqOf st n with | some ds => some (ds, [(n, ds)]) | none => none
  | .kl ds, _ => some (ds, [])
  | _, _ => none
def iVal (F : DE) : DIt := fun env st => (F env st).bind fun d st1 => match iterD d st1 with | some p => .ok p st1 | none => .stuck
/-- an expression that makes a new list of items; one that tells a list or a tuple of items -/
def tL (g : Gd) (W : WX) (F : DA) : TE := fun σ H Q => ∃ α env st, EnvR g α H env σ ∧ StR g α st H ∧ Post g W σ α H (F env st) fun ds _ α' H' => ∀ a vs, H a = none → a ∉ α' → H' a = some (.lst vs) → RDs g α' H' ds vs → Q (.ref a) H'
def OL (g : Gd) (X : Cx) (W : WX) (e : Expr) (F : DA) : Prop := PE X e (tL g W F)
def eEv (F : DA) : DE := fun env st => (F env st).bind fun ds st1 => .ok (.ev ds) st1
theorem OL.v {g : Gd} {X : Cx} {W : WX} {e : Expr} {F : DA} (h : OL g X W e F) : OV g X W e (eEv F) := ofE h fun σ H Q ⟨α, env, st, hE, hS, p⟩ =>
  ⟨α, env, st, hE, hS, p.bind.imp fun ds st1 α1 H1 x1 s1 q a vs _ hn ha r => q.ok s1 _ (.inr ⟨ds, a, vs, rfl, rfl, hn, ha, r⟩)⟩
def iEph (F : DA) : DIt := fun env st => (F env st).bind fun ds st1 => .ok (ds, []) st1
section
variable {g : Gd} {X : Cx} {W : WX} {tg e : Expr} {F : DE} {α0 : List Addr} {H0 : Hp}
theorem it_tup {a : Addr} {vs : List V} {ds : List D} (h : SqT g.K H0 a vs) (r : RDs g α0 H0 ds vs) : ItR g (Itt g.K a) ds [] α0 H0 where
  go := fun i α H st x s _ hi => ⟨vs, vs[i]'(by rw [← r.length]; exact hi), x.sqt h, List.getElem?_eq_getElem _⟩
  yl := fun i α H st v H' x s _ ⟨e, y⟩ d hd => by
    subst e
    obtain ⟨u, h1, h2⟩ := r.get hd
    have := y vs (x.sqt h)
    rw [h1] at this
    cases this
    exact ⟨Ext.refl _ _, s, h2.mono x⟩
  stop := fun i α H st x s _ hi => ⟨vs, x.sqt h, by rw [← r.length]; exact hi⟩
theorem it_str (x : Str) : ItR g (Its x) (signs x) [] α0 H0 where
  go := fun i α H st _ s _ hi => by
    simp [signs] at hi
    exact hi
  yl := fun i α H st v H' _ s _ ⟨e, cc, h1, h2⟩ d hd => by
    subst e h2
    refine ⟨Ext.refl _ _, s, ?_⟩
    have : (signs x)[i]? = some (.str ⟨#[cc]⟩) := by
      unfold signs
      rw [List.getElem?_map, Array.getElem?_toList, h1]
      rfl
    rw [this] at hd
    cases hd
    rfl
  stop := fun i α H st _ s _ hi => by
    simp [signs] at hi
    exact hi
theorem it_obj {n : Nat} {a : Addr} {ds : List D} (ha : α0[n]? = some a) : ItR g (Itl g.K a) ds [(n, ds)] α0 H0 where
  go := fun i α H st x s ok hi => by
    obtain ⟨b, vs, e1, _, h1, r⟩ := s.seq (v := .ref a) ⟨a, rfl, x.at ha⟩ (okW_one ok).1
    cases e1
    exact ⟨vs, vs[i]'(by rw [← r.length]; exact hi), h1, List.getElem?_eq_getElem _⟩
  yl := fun i α H st v H' x s ok ⟨e, y⟩ d hd => by
    subst e
    obtain ⟨b, vs, e1, _, h1, r⟩ := s.seq (v := .ref a) ⟨a, rfl, x.at ha⟩ (okW_one ok).1
    cases e1
    obtain ⟨u, h2, h3⟩ := r.get hd
    have := y vs h1
    rw [h2] at this
    cases this
    exact ⟨Ext.refl _ _, s, h3⟩
  stop := fun i α H st x s ok hi => by
    obtain ⟨b, vs, e1, _, h1, r⟩ := s.seq (v := .ref a) ⟨a, rfl, x.at ha⟩ (okW_one ok).1
    cases e1
    exact ⟨vs, h1, by rw [← r.length]; exact hi⟩
theorem it_eph {a : Addr} {vs : List V} {ds : List D} (ha : H0 a = some (.lst vs)) (hn : a ∉ α0) (r : RDs g α0 H0 ds vs) : ItR g (Itl g.K a) ds [] α0 H0 where
  go := fun i α H st x s ok hi => ⟨vs, vs[i]'(by rw [← r.length]; exact hi), .inl (.inl (x.keep _ _ ha hn)), List.getElem?_eq_getElem _⟩
  yl := fun i α H st v H' x s ok ⟨e, y⟩ d hd => by
    subst e
    obtain ⟨u, h2, h3⟩ := r.get hd
    have := y vs (.inl (.inl (x.keep _ _ ha hn)))
    rw [h2] at this
    cases this
    exact ⟨Ext.refl _ _, s, h3.mono x⟩
  stop := fun i α H st x s ok hi => ⟨vs, .inl (.inl (x.keep _ _ ha hn)), by rw [← r.length]; exact hi⟩
theorem it_kl {a : Addr} {vs : List V} {ds : List D} (h : KL g.K H0 a vs) (r : RDs g α0 H0 ds vs) : ItR g (Itl g.K a) ds [] α0 H0 := by
  have k : ∀ {α : List Addr} {H : Hp}, Ext α0 H0 α H → SqL g.K H a vs := fun {α H} x => by
    rcases h with ⟨o, q⟩ | q
    · exact .inl (.inr ⟨o, x.frz _ _ _ q⟩)
    · exact KL.sq (.inr q)
  exact ⟨fun i α H st x s ok hi => ⟨vs, vs[i]'(by rw [← r.length]; exact hi), k x, List.getElem?_eq_getElem _⟩, fun i α H st v H' x s ok ⟨e, y⟩ d hd => by
    subst e
    obtain ⟨u, h2, h3⟩ := r.get hd
    have := y vs (k x)
    rw [h2] at this
    cases this
    exact ⟨Ext.refl _ _, s, h3.mono x⟩, fun i α H st x s ok hi => ⟨vs, k x, by rw [← r.length]; exact hi⟩⟩
theorem oi_val (c : Ck g X W) (h : OE g X W e F) : OI g X W tg e (iVal F) := by
  refine ⟨fun pins s σ H S I ⟨α, env, st, hE, hS, p⟩ => ?_⟩
  unfold iVal at p
  cases hF : F env st with
  | stuck => rw [hF] at p; exact p.elim
  | exc cc fs st1 =>
    rw [hF] at p
    exact (pi_list h).run pins s σ H S I ⟨α, env, st, hE, hS, by rw [hF]; exact p⟩
  | ok d st1 =>
    rw [hF] at p
    cases d with
    | tup ds =>
      refine (pi_tup h).run pins s σ H S I ⟨α, env, st, hE, hS, ?_⟩
      rw [hF]
      rintro α1 H1 x1 s1 v ⟨a, vs, rfl, h1, r⟩
      rw [c.hK]
      exact ⟨a, rfl, ⟨vs, h1⟩, p α1 H1 x1 s1 _ (it_tup h1 r)⟩
    | str x =>
      refine (pi_str h).run pins s σ H S I ⟨α, env, st, hE, hS, ?_⟩
      rw [hF]
      rintro α1 H1 x1 s1 v r
      cases r
      exact ⟨x, rfl, p α1 H1 x1 s1 _ (it_str x)⟩
    | obj n =>
      simp only [R.bind_ok, iterD] at p
      cases e' : seqOf st1 n with
      | none => rw [e'] at p; exact p.elim
      | some ds =>
        rw [e'] at p
        refine (pi_list h).run pins s σ H S I ⟨α, env, st, hE, hS, ?_⟩
        rw [hF]
        intro α1 H1 x1 s1 v r
        obtain ⟨a, vs, rfl, ha, h1, r1⟩ := s1.seq r e'
        rw [c.hK]
        exact ⟨a, rfl, ⟨vs, h1⟩, p α1 H1 x1 s1 _ (it_obj ha)⟩
    | non => exact p.elim
    | bl => exact p.elim
    | int => exact p.elim
    | fn => exact p.elim
    | ty => exact p.elim
    | kl ds =>
      refine (pi_list h).run pins s σ H S I ⟨α, env, st, hE, hS, ?_⟩
      rw [hF]
      rintro α1 H1 x1 s1 v ⟨a, vs, rfl, h1, r⟩
      rw [c.hK]
      exact ⟨a, rfl, ⟨vs, h1.sq⟩, p α1 H1 x1 s1 _ (it_kl h1 r)⟩
    | ev => exact p.elim
theorem oi_eph (c : Ck g X W) {F : DA} (h : OL g X W e F) : OI g X W tg e (iEph F) := by
  refine ⟨fun pins s σ H S I ⟨α, env, st, hE, hS, p⟩ => ?_⟩
  refine (pi_list h).run pins s σ H S I ⟨α, env, st, hE, hS, p.bind.imp fun ds st1 α1 H1 x1 s1 q a vs h0 hn ha r => ?_⟩
  rw [c.hK]
  exact ⟨a, rfl, ⟨vs, .inl (.inl ha)⟩, q α1 H1 (Ext.refl _ _) s1 _ (it_eph ha hn r)⟩
end
/-- range -/
def upI (lo : Int) (n : Nat) : List D := (List.range n).map fun (i : Nat) => .int (lo + (i : Int))
def iRange1 (G : DA) : DIt := fun env st => (G env st).bind fun ds st1 => match ds with
  | [.int j] => if -(2 ^ 62) ≤ j ∧ j < 2 ^ 62 then .ok (upI 0 j.toNat, []) st1 else .stuck
  | _ => .stuck
def iRange2 (G : DA) : DIt := fun env st => (G env st).bind fun ds st1 => match ds with
  | [.int i, .int j] => if -(2 ^ 62) ≤ i ∧ i < 2 ^ 62 ∧ -(2 ^ 62) ≤ j ∧ j < 2 ^ 62 then .ok (upI i (j - i).toNat, []) st1 else .stuck
  | _ => .stuck
/-- downwards by ones -/
def dnI (lo : Int) (n : Nat) : List D := (List.range n).map fun (i : Nat) => .int (lo + (i : Int) * (-1))
def iRange3 (G : DA) : DIt := fun env st => (G env st).bind fun ds st1 => match ds with
  | [.int i, .int j, .int c] => if c = -1 ∧ -(2 ^ 62) ≤ i ∧ i < 2 ^ 62 ∧ -(2 ^ 62) ≤ j ∧ j < 2 ^ 62 then .ok (dnI i (i - j).toNat, []) st1 else .stuck
  | _ => .stuck
/-- enumerate of a list -/
def numb (ds : List D) : List D := ds.zipIdx.map fun p => .tup [.int (p.2 : Nat), p.1]
def iEnum' (F : DE) : DIt := fun env st => (F env st).bind fun d st1 => match d with
  | .obj n => (match seqOf st1 n with | some ds => .ok (numb ds, [(n, ds)]) st1 | none => .stuck)
  | _ => .stuck
/-- zip of two lists, of two tuples -/
def pairs (xs ys : List D) : List D := (xs.zip ys).map fun p => .tup [p.1, p.2]
def zipD (a b : D) (st : Sto) : Option (List D × Wat) := match a, b with
  | .tup xs, .tup ys => some (pairs xs ys, [])
  | .obj m, .obj n => (match seqOf st m, seqOf st n with | some xs, some ys => some (pairs xs ys, [(m, xs), (n, ys)]) | _, _ => none)
  | _, _ => none
def iZip' (G : DA) : DIt := fun env st => (G env st).bind fun ds st1 => match ds with
  | [a, b] => (match zipD a b st1 with | some p => .ok p st1 | none => .stuck)
  | _ => .stuck
section
variable {g : Gd} {X : Cx} {W : WX} {tg e e0 e3 : Expr} {F : DE} {G : DA} {α0 : List Addr} {H0 : Hp} {p pos : Pos}
theorem it_upI (lo : Int) (n : Nat) : ItR g (Itr lo n) (upI lo n) [] α0 H0 where
  go := fun i α H st _ s _ hi => by
    simp [upI] at hi
    exact hi
  yl := fun i α H st v H' _ s _ ⟨e, h2⟩ d hd => by
    subst e h2
    refine ⟨Ext.refl _ _, s, ?_⟩
    unfold upI at hd
    rw [List.getElem?_map] at hd
    cases q : (List.range n)[i]? with
    | none => rw [q] at hd; cases hd
    | some j =>
      rw [q] at hd
      obtain ⟨_, rfl⟩ := List.getElem?_eq_some_iff.mp q
      cases hd
      simp [RD]
  stop := fun i α H st _ s _ hi => by
    simp [upI] at hi
    exact hi
theorem it_dnI (lo : Int) (n : Nat) : ItR g (Itc lo (-1) n) (dnI lo n) [] α0 H0 where
  go := fun i α H st _ s _ hi => by
    simp [dnI] at hi
    exact hi
  yl := fun i α H st v H' _ s _ ⟨e, h2⟩ d hd => by
    subst e h2
    refine ⟨Ext.refl _ _, s, ?_⟩
    unfold dnI at hd
    rw [List.getElem?_map] at hd
    cases q : (List.range n)[i]? with
    | none => rw [q] at hd; cases hd
    | some j =>
      rw [q] at hd
      obtain ⟨_, rfl⟩ := List.getElem?_eq_some_iff.mp q
      cases hd
      simp [RD]
  stop := fun i α H st _ s _ hi => by
    simp [dnI] at hi
    exact hi
theorem ints3 {vs : List V} {α : List Addr} {H : Hp} {i j k : Int} (h : RDs g α H [.int i, .int j, .int k] vs) : vs = [.int i, .int j, .int k] := by
  obtain ⟨_, _, rfl, h1, _, _, rfl, h2, _, _, rfl, h3, rfl⟩ := h
  cases h1; cases h2; cases h3; rfl
theorem ints2 {vs : List V} {α : List Addr} {H : Hp} {i j : Int} (h : RDs g α H [.int i, .int j] vs) : vs = [.int i, .int j] := by
  obtain ⟨_, _, rfl, h1, _, _, rfl, h2, rfl⟩ := h
  cases h1; cases h2; rfl
theorem ints1 {vs : List V} {α : List Addr} {H : Hp} {i : Int} (h : RDs g α H [.int i] vs) : vs = [.int i] := by
  obtain ⟨_, _, rfl, h1, rfl⟩ := h
  cases h1; rfl
theorem oi_range1 (c : Ck g X W) (h : OA g X W [e] G) (hm : g.mg "range" = none) (hg : L2.Gl X "range" := by rfl) (hs : starEach [e] X.env = [(false, eval e X.env)] := by rfl) : OI g X W tg (.Call (.Name "range" p) [e] [] pos) (iRange1 G) := by
  refine ⟨fun pins s σ H S I ⟨α, env, st, hE, hS, p⟩ => ?_⟩
  refine (pi_range1 hg (by rw [c.hmg]; exact hm) h hs).run pins s σ H S I (tA.run hE hS (p.bind.imp fun ds st1 α1 H1 x1 s1 q vs r => ?_))
  split at q
  · rename_i j
    split at q
    · rename_i hh
      exact ⟨j, ints1 r, hh.1, hh.2, q α1 H1 (Ext.refl _ _) s1 _ (it_upI 0 _)⟩
    · exact q.elim
  · exact q.elim
theorem oi_range2 (c : Ck g X W) (h : OA g X W [e, e0] G) (hm : g.mg "range" = none) (hg : L2.Gl X "range" := by rfl) (hs : starEach [e, e0] X.env = [(false, eval e X.env), (false, eval e0 X.env)] := by rfl) (hs2 : starEach [e0] X.env = [(false, eval e0 X.env)] := by rfl) :
    OI g X W tg (.Call (.Name "range" p) [e, e0] [] pos) (iRange2 G) := by
  refine ⟨fun pins s σ H S I ⟨α, env, st, hE, hS, p⟩ => ?_⟩
  refine (pi_range2 hg (by rw [c.hmg]; exact hm) h hs hs2).run pins s σ H S I (tA.run hE hS (p.bind.imp fun ds st1 α1 H1 x1 s1 q vs r => ?_))
  split at q
  · rename_i i j
    split at q
    · rename_i hh
      exact ⟨i, j, ints2 r, hh, q α1 H1 (Ext.refl _ _) s1 _ (it_upI i _)⟩
    · exact q.elim
  · exact q.elim
theorem oi_range3 (c : Ck g X W) (h : OA g X W [e, e0, e3] G) (hm : g.mg "range" = none) (hg : L2.Gl X "range" := by rfl) (hs : starEach [e, e0, e3] X.env = (false, eval e X.env) :: starEach [e0, e3] X.env := by rfl) (hpl : (backTo pos (starEach [e0, e3] X.env)).any (·.1) = false := by rfl) :
    OI g X W tg (.Call (.Name "range" p) [e, e0, e3] [] pos) (iRange3 G) := by
  refine ⟨fun pins s σ H S I ⟨α, env, st, hE, hS, p⟩ => ?_⟩
  refine (pi_range3 hg (by rw [c.hmg]; exact hm) h hs hpl).run pins s σ H S I (tA.run hE hS (p.bind.imp fun ds st1 α1 H1 x1 s1 q vs r => ?_))
  split at q
  · rename_i i j k
    split at q
    · rename_i hh
      obtain ⟨rfl, h1, h2, h3, h4⟩ := hh
      exact ⟨i, j, -1, _, ints3 r, RgC.neg h1 h2 h3 h4, q α1 H1 (Ext.refl _ _) s1 _ (it_dnI i _)⟩
    · exact q.elim
  · exact q.elim
theorem numb_get {ds : List D} {i : Nat} {d : D} (h : (numb ds)[i]? = some d) : ∃ x, ds[i]? = some x ∧ d = .tup [.int (i : Nat), x] := by
  unfold numb at h
  rw [List.getElem?_map, List.getElem?_zipIdx] at h
  cases q : ds[i]? with
  | none => rw [q] at h; cases h
  | some x =>
    rw [q] at h
    cases h
    exact ⟨x, rfl, by simp⟩
/-- a new tuple handed out -/
theorem out_tup {α : List Addr} {H : Hp} {st : Sto} {T : Addr} {ds : List D} {vs : List V} (s : StR g α st H) (hT : H T = none) (r : RDs g α H ds vs) : Ext α H α (upd H T (.tup vs)) ∧ StR g α st (upd H T (.tup vs)) ∧ RD g α (upd H T (.tup vs)) (.tup ds) (.ref T) :=
  ⟨ext_new s hT _, s.temp hT _, T, vs, rfl, .inl (.inl upd_same), r.mono (ext_new s hT _)⟩
theorem it_enum {n : Nat} {a : Addr} {ds : List D} (ha : α0[n]? = some a) : ItR g (Ite g.K a) (numb ds) [(n, ds)] α0 H0 where
  go := fun i α H st x s ok hi => by
    obtain ⟨b, vs, e1, _, h1, r⟩ := s.seq (v := .ref a) ⟨a, rfl, x.at ha⟩ (okW_one ok).1
    cases e1
    have hl : i < vs.length := by rw [← r.length]; simpa [numb] using hi
    exact ⟨vs, vs[i], h1, List.getElem?_eq_getElem _⟩
  yl := fun i α H st v H' x s ok ⟨T, y, e1, hT, e2, hy⟩ d hd => by
    subst e1 e2
    obtain ⟨b, vs, e1, _, h1, r⟩ := s.seq (v := .ref a) ⟨a, rfl, x.at ha⟩ (okW_one ok).1
    cases e1
    obtain ⟨z, hz, rfl⟩ := numb_get hd
    obtain ⟨u, h2, h3⟩ := r.get hz
    have := hy vs h1
    rw [h2] at this
    cases this
    exact out_tup s hT (.cons rfl (.cons h3 .nil))
  stop := fun i α H st x s ok hi => by
    obtain ⟨b, vs, e1, _, h1, r⟩ := s.seq (v := .ref a) ⟨a, rfl, x.at ha⟩ (okW_one ok).1
    cases e1
    exact ⟨vs, h1, by rw [← r.length]; simpa [numb] using hi⟩
theorem oi_enum (c : Ck g X W) {elts : List Expr} {kk : Nat} {tpos : Pos} (h : OE g X W e F) (hm : g.mg "enumerate" = none) (hg : L2.Gl X "enumerate" := by rfl) (hs : starEach [e] X.env = [(false, eval e X.env)] := by rfl) :
    OI g X W (.Tuple elts kk tpos) (.Call (.Name "enumerate" p) [e] [] pos) (iEnum' F) := by
  refine ⟨fun pins s σ H S I ⟨α, env, st, hE, hS, p⟩ => ?_⟩
  refine (pi_enum hg (by rw [c.hmg]; exact hm) (pa_cons h pa_nil (by rw [hs]; rfl)) hs).run pins s σ H S I (tE.run hE hS (p.bind.imp fun d st1 α1 H1 x1 s1 q v r => ?_))
  split at q
  · rename_i n
    split at q
    · rename_i ds e'
      obtain ⟨a, vs, rfl, ha, h1, r1⟩ := s1.seq r e'
      rw [c.hK]
      exact ⟨a, vs, rfl, h1, q α1 H1 (Ext.refl _ _) s1 _ (it_enum ha)⟩
    · exact q.elim
  · exact q.elim
theorem pairs_get {xs ys : List D} {i : Nat} {d : D} (h : (pairs xs ys)[i]? = some d) : ∃ x y, xs[i]? = some x ∧ ys[i]? = some y ∧ d = .tup [x, y] := by
  unfold pairs at h
  rw [List.getElem?_map] at h
  cases q : (xs.zip ys)[i]? with
  | none => rw [q] at h; cases h
  | some pr =>
    rw [q] at h
    cases h
    rw [List.getElem?_zip_eq_some] at q
    exact ⟨_, _, q.1, q.2, rfl⟩
theorem pairs_len (xs ys : List D) : (pairs xs ys).length = min xs.length ys.length := by simp [pairs]
theorem it_zip {m n : Nat} {a b : Addr} {xs ys : List D} (ha : α0[m]? = some a) (hb : α0[n]? = some b) : ItR g (Itz g.K a b) (pairs xs ys) [(m, xs), (n, ys)] α0 H0 where
  go := fun i α H st x s ok hi => by
    obtain ⟨o1, o2⟩ := okW_one ok
    obtain ⟨_, vs, e1, _, h1, r⟩ := s.seq (v := .ref a) ⟨a, rfl, x.at ha⟩ o1
    cases e1
    obtain ⟨_, ws, e1, _, h2, r2⟩ := s.seq (v := .ref b) ⟨b, rfl, x.at hb⟩ (okW_one o2).1
    cases e1
    rw [pairs_len, r.length, r2.length] at hi
    exact ⟨vs, ws, vs[i]'(by omega), ws[i]'(by omega), h1, h2, List.getElem?_eq_getElem _, List.getElem?_eq_getElem _⟩
  yl := fun i α H st v H' x s ok ⟨T, y, y2, e1, hT, e2, hy, hy2⟩ d hd => by
    subst e1 e2
    obtain ⟨o1, o2⟩ := okW_one ok
    obtain ⟨_, vs, e1, _, h1, r⟩ := s.seq (v := .ref a) ⟨a, rfl, x.at ha⟩ o1
    cases e1
    obtain ⟨_, ws, e1, _, h2, r2⟩ := s.seq (v := .ref b) ⟨b, rfl, x.at hb⟩ (okW_one o2).1
    cases e1
    obtain ⟨z, z2, hz, hz2, rfl⟩ := pairs_get hd
    obtain ⟨u, q1, h3⟩ := r.get hz
    obtain ⟨u2, q2, h4⟩ := r2.get hz2
    have k1 := hy vs h1
    have k2 := hy2 ws h2
    rw [q1] at k1
    rw [q2] at k2
    cases k1; cases k2
    exact out_tup s hT (.cons h3 (.cons h4 .nil))
  stop := fun i α H st x s ok hi => by
    obtain ⟨o1, o2⟩ := okW_one ok
    obtain ⟨_, vs, e1, _, h1, r⟩ := s.seq (v := .ref a) ⟨a, rfl, x.at ha⟩ o1
    cases e1
    obtain ⟨_, ws, e1, _, h2, r2⟩ := s.seq (v := .ref b) ⟨b, rfl, x.at hb⟩ (okW_one o2).1
    cases e1
    rw [pairs_len, r.length, r2.length] at hi
    exact ⟨vs, ws, h1, h2, by omega⟩
theorem it_zipT {a b : Addr} {vs ws : List V} {xs ys : List D} (h1 : SqT g.K H0 a vs) (h2 : SqT g.K H0 b ws) (r : RDs g α0 H0 xs vs) (r2 : RDs g α0 H0 ys ws) : ItR g (RZ.ItzT g.K a b) (pairs xs ys) [] α0 H0 where
  go := fun i α H st x s ok hi => by
    rw [pairs_len, r.length, r2.length] at hi
    exact ⟨vs, ws, vs[i]'(by omega), ws[i]'(by omega), x.sqt h1, x.sqt h2, List.getElem?_eq_getElem _, List.getElem?_eq_getElem _⟩
  yl := fun i α H st v H' x s ok ⟨T, y, y2, e1, hT, e2, hy, hy2⟩ d hd => by
    subst e1 e2
    obtain ⟨z, z2, hz, hz2, rfl⟩ := pairs_get hd
    obtain ⟨u, q1, h3⟩ := r.get hz
    obtain ⟨u2, q2, h4⟩ := r2.get hz2
    have k1 := hy vs (x.sqt h1)
    have k2 := hy2 ws (x.sqt h2)
    rw [q1] at k1
    rw [q2] at k2
    cases k1; cases k2
    exact out_tup s hT (.cons (h3.mono x) (.cons (h4.mono x) .nil))
  stop := fun i α H st x s ok hi => by
    rw [pairs_len, r.length, r2.length] at hi
    exact ⟨vs, ws, x.sqt h1, x.sqt h2, by omega⟩
theorem oi_zip (c : Ck g X W) {elts : List Expr} {kk : Nat} {tpos : Pos} (h : OA g X W [e, e0] G) (hm : g.mg "zip" = none) (hg : L2.Gl X "zip" := by rfl)
    (hs : starEach [e, e0] X.env = (false, eval e X.env) :: starEach [e0] X.env := by rfl) (hpl : (backTo pos (starEach [e0] X.env)).any (·.1) = false := by rfl) :
    OI g X W (.Tuple elts kk tpos) (.Call (.Name "zip" p) [e, e0] [] pos) (iZip' G) := by
  refine ⟨fun pins s σ H S I ⟨α, env, st, hE, hS, p⟩ => ?_⟩
  refine (RZ.pi_zipA hg (by rw [c.hmg]; exact hm) h hs hpl).run pins s σ H S I (tA.run hE hS (p.bind.imp fun ds st1 α1 H1 x1 s1 q vs r => ?_))
  split at q
  · rename_i d1 d2
    obtain ⟨v1, _, rfl, r1, v2, _, rfl, r2, rfl⟩ := r
    cases d1 <;> cases d2 <;> first | exact q.elim | skip
    · obtain ⟨a, us, rfl, h1, k1⟩ := r1
      obtain ⟨b, ws, rfl, h2, k2⟩ := r2
      rw [c.hK]
      exact ⟨a, b, us, ws, rfl, .inr ⟨h1, h2, q α1 H1 (Ext.refl _ _) s1 _ (it_zipT h1 h2 k1 k2)⟩⟩
    · rename_i m n
      simp only [zipD] at q
      cases e1 : seqOf st1 m with
      | none => rw [e1] at q; exact q.elim
      | some xs =>
        cases e2 : seqOf st1 n with
        | none => rw [e1, e2] at q; exact q.elim
        | some ys =>
          rw [e1, e2] at q
          obtain ⟨a, us, rfl, ha, h1, k1⟩ := s1.seq r1 e1
          obtain ⟨b, ws, rfl, hb, h2, k2⟩ := s1.seq r2 e2
          rw [c.hK]
          exact ⟨a, b, us, ws, rfl, .inl ⟨h1, h2, q α1 H1 (Ext.refl _ _) s1 _ (it_zip ha hb)⟩⟩
  · exact q.elim
end

/-! ### for, while -/
def forL (w : Wat) (t : Tg) (B : DS) : List D → Env → Sto → RS
  | [], env, st => if okW w st = true then .nx env st else .stuck
  | d :: ds, env, st => if okW w st = true then (match bindT t d env with
    | some env1 => (match B env1 st with
      | .nx env2 st2 => forL w t B ds env2 st2
      | .ct env2 st2 => forL w t B ds env2 st2
      | .bk env2 st2 => .nx env2 st2
      | r => r)
    | none => .stuck) else .stuck
def sFor (t : Tg) (I : DIt) (B : DS) : DS := fun env st => bindS (I env st) env fun p st1 => forL p.2 t B p.1 env st1
def whileL (C : DT) (B : DS) : Nat → Env → Sto → RS
  | 0, _, _ => .stuck
  | n + 1, env, st => bindS (C env st) env fun b st1 => if b = true then (match B env st1 with
      | .nx env2 st2 => whileL C B n env2 st2
      | .ct env2 st2 => whileL C B n env2 st2
      | .bk env2 st2 => .nx env2 st2
      | r => r) else .nx env st1
def sWhile (fu : Nat) (C : DT) (B : DS) : DS := fun env st => whileL C B fu env st
section
variable {g : Gd} {X : Cx} {W : WX} {pos : Pos}
theorem os_for (c : Ck g X W) {tg it : Expr} {body : List Stmt} {t : Tg} {I : DIt} {B : DS} (hi : OI g X W tg it I) (hg : OG X tg t) (hb : OSs g X W body B) (hs : ∀ x, foldedSetIterable it X.env x = pure x := by intro _; rfl) : OS g X W (.For tg it body [] pos) (sFor t I B) :=
  ofS (ps_for c.pw c.calm hi hg hb hs) fun E σ H ⟨α, env, st, hE, hS, p⟩ => by
    refine ⟨α, env, st, hE, hS, (p.bind hE).imp fun pr st1 α1 H1 x1 s1 q J hJ => ?_⟩
    obtain ⟨ds, w⟩ := pr
    dsimp only at q hJ
    refine ⟨fun i m σ' H' => m = ds.length - i ∧ i ≤ ds.length ∧ ∃ α' env' st', Ext α1 H1 α' H' ∧ EnvR g α' H' env' σ' ∧ StR g α' st' H' ∧ PostS g W α' H' (forL w t B (ds.drop i) env' st') E,
      ⟨ds.length, by simp, Nat.zero_le _, α1, env, st1, Ext.refl _ _, hE.mono x1, s1, by simpa using q⟩, ?_⟩
    rintro i m σ' H' ⟨rfl, hi, α', env', st', x', hE', hS', p'⟩
    by_cases hlt : i < ds.length
    · refine .inr ?_
      rw [List.drop_eq_getElem_cons hlt] at p'
      rw [forL] at p'
      split at p'
      · rename_i ok
        refine ⟨hJ.go i α' H' st' x' hS' ok hlt, fun σ2 H2 => (ds.length - (i + 1)) = ds.length - (i + 1) ∧ (i + 1) ≤ ds.length ∧ ∃ α' env' st', Ext α1 H1 α' H2 ∧ EnvR g α' H2 env' σ2 ∧ StR g α' st' H2 ∧ PostS g W α' H2 (forL w t B (ds.drop (i + 1)) env' st') E,
          fun σ2 H2 n2 => ⟨ds.length - (i + 1), by omega, n2⟩, fun y H2 hy => ?_⟩
        obtain ⟨x2, s2, r2⟩ := hJ.yl i α' H' st' y H2 x' hS' ok hy _ (List.getElem?_eq_getElem hlt)
        split at p'
        · rename_i env1 e1
          obtain ⟨σ1, k1, k2, _⟩ := bindT_ok c.hK (hE'.mono x2) r2 e1
          refine k2 _ ⟨α', env1, st', k1, s2, ?_⟩
          have p2 := PostS.mono x2 p'
          cases hB : B env1 st' with
          | nx env2 st2 =>
            rw [hB] at p2
            exact fun α3 H3 σ3 x3 s3 e3 => ⟨rfl, hlt, α3, env2, st2, (x'.trans x2).trans x3, e3, s3, PostS.mono x3 p2⟩
          | ct env2 st2 =>
            rw [hB] at p2
            exact fun α3 H3 σ3 x3 s3 e3 => ⟨rfl, hlt, α3, env2, st2, (x'.trans x2).trans x3, e3, s3, PostS.mono x3 p2⟩
          | bk env2 st2 => rw [hB] at p2; exact p2
          | rt d st2 => rw [hB] at p2; exact p2
          | exc cc fs env2 st2 => rw [hB] at p2; exact p2
          | stuck => rw [hB] at p2; exact p2
        · exact p'.elim
      · exact p'.elim
    · refine .inl ?_
      have e : ds.drop i = [] := List.drop_eq_nil_of_le (by omega)
      rw [e, forL] at p'
      split at p'
      · rename_i ok
        exact ⟨hJ.stop i α' H' st' x' hS' ok (by omega), p' α' H' σ' (Ext.refl _ _) hS' hE'⟩
      · exact p'.elim
theorem os_while (c : Ck g X W) (fu : Nat) {t : Expr} {body : List Stmt} {C : DT} {B : DS} (hc : OT g X W t C) (hb : OSs g X W body B) : OS g X W (.While t body [] pos) (sWhile fu C B) :=
  ofS (ps_while c.pw hc hb) fun E σ H ⟨α, env, st, hE, hS, p⟩ => by
    refine ⟨fun m σ' H' => ∃ α' env' st', EnvR g α' H' env' σ' ∧ StR g α' st' H' ∧ PostS g W α' H' (whileL C B m env' st') E, ⟨fu, α, env, st, hE, hS, p⟩, ?_⟩
    rintro m σ' H' ⟨α', env', st', hE', hS', p'⟩
    cases m with
    | zero => exact p'.elim
    | succ m =>
      rw [whileL] at p'
      refine tT.run hE' hS' ((p'.bind hE').imp fun b st1 α1 H1 x1 s1 q => ?_)
      cases b with
      | false =>
        rw [if_neg Bool.false_ne_true] at q ⊢
        exact q α1 H1 σ' (Ext.refl _ _) s1 (hE'.mono x1)
      | true =>
        rw [if_pos rfl] at q ⊢
        refine ⟨fun σ2 H2 => ∃ α' env' st', EnvR g α' H2 env' σ2 ∧ StR g α' st' H2 ∧ PostS g W α' H2 (whileL C B m env' st') E, fun σ2 H2 n2 => ⟨m, Nat.lt_succ_self m, n2⟩, α1, env', st1, hE'.mono x1, s1, ?_⟩
        cases hB : B env' st1 with
        | nx env2 st2 =>
          rw [hB] at q
          exact fun α3 H3 σ3 x3 s3 e3 => ⟨α3, env2, st2, e3, s3, PostS.mono x3 q⟩
        | ct env2 st2 =>
          rw [hB] at q
          exact fun α3 H3 σ3 x3 s3 e3 => ⟨α3, env2, st2, e3, s3, PostS.mono x3 q⟩
        | bk env2 st2 => rw [hB] at q; exact q
        | rt d st2 => rw [hB] at q; exact q
        | exc cc fs env2 st2 => rw [hB] at q; exact q
        | stuck => rw [hB] at q; exact q
end
end Mi

namespace Mi
open PySem L2


/-! ### what a tree is read from stays -/
section
variable {g : Gd} {α : List Addr} {H H' : Hp}
theorem weakExt (tup : ∀ b xs, H b = some (.tup xs) → H' b = some (.tup xs)) (frz : ∀ b o u, H b = some (.frz o u) → H' b = some (.frz o u)) {K : PySem.W.Frag} {a : Addr} {xs : List V} (h : SqT K H a xs) : SqT K H' a xs := by
  rcases h with (h | ⟨o, h⟩) | h
  · exact .inl (.inl (tup _ _ h))
  · exact .inl (.inr ⟨o, frz _ _ _ h⟩)
  · exact .inr h
mutual
theorem RD.weak (tup : ∀ b xs, H b = some (.tup xs) → H' b = some (.tup xs)) (frz : ∀ b o u, H b = some (.frz o u) → H' b = some (.frz o u)) : ∀ {d : D} {v : V}, RD g α H d v → RD g α H' d v
  | .non, v, h => by simpa [RD] using h
  | .bl b, v, h => by simpa [RD] using h
  | .int i, v, h => by simpa [RD] using h
  | .str x, v, h => by simpa [RD] using h
  | .tup ds, v, h => by
    rw [RD] at h ⊢
    obtain ⟨a, vs, rfl, h1, h2⟩ := h
    exact ⟨a, vs, rfl, weakExt tup frz h1, RDs.weak tup frz h2⟩
  | .obj n, v, h => by
    rw [RD] at h ⊢
    exact h
  | .fn n, v, h => by simpa [RD] using h
  | .ty n, v, h => by simpa [RD] using h
  | .kl ds, v, h => by
    rw [RD] at h ⊢
    obtain ⟨a, vs, rfl, h1, h2⟩ := h
    exact ⟨a, vs, rfl, h1.elim (fun ⟨o, q⟩ => .inl ⟨o, frz _ _ _ q⟩) .inr, RDs.weak tup frz h2⟩
  | .ev ds, v, h => by rw [RD] at h; exact h.elim
theorem RDs.weak (tup : ∀ b xs, H b = some (.tup xs) → H' b = some (.tup xs)) (frz : ∀ b o u, H b = some (.frz o u) → H' b = some (.frz o u)) : ∀ {ds : List D} {vs : List V}, RDs g α H ds vs → RDs g α H' ds vs
  | [], vs, h => by simpa [RDs] using h
  | d :: ds, vs, h => by
    rw [RDs] at h ⊢
    obtain ⟨v, r, rfl, h1, h2⟩ := h
    exact ⟨v, r, rfl, RD.weak tup frz h1, RDs.weak tup frz h2⟩
end
theorem RFs.weak (tup : ∀ b xs, H b = some (.tup xs) → H' b = some (.tup xs)) (frz : ∀ b o u, H b = some (.frz o u) → H' b = some (.frz o u)) : ∀ {ds : List (Str × D)} {vs : List (Str × V)}, RFs g α H ds vs → RFs g α H' ds vs
  | [], vs, h => by simpa [RFs] using h
  | d :: ds, vs, h => by
    rw [RFs] at h ⊢
    obtain ⟨v, r, rfl, h1, h2⟩ := h
    exact ⟨v, r, rfl, RD.weak tup frz h1, RFs.weak tup frz h2⟩
theorem RKs.weak (tup : ∀ b xs, H b = some (.tup xs) → H' b = some (.tup xs)) (frz : ∀ b o u, H b = some (.frz o u) → H' b = some (.frz o u)) : ∀ {ds : List (Key × D)} {vs : List (Key × V)}, RKs g α H ds vs → RKs g α H' ds vs
  | [], vs, h => by simpa [RKs] using h
  | d :: ds, vs, h => by
    rw [RKs] at h ⊢
    obtain ⟨v, r, rfl, h1, h2⟩ := h
    exact ⟨v, r, rfl, RD.weak tup frz h1, RKs.weak tup frz h2⟩
/-- an untracked object has changed -/
theorem StR.weak {st : Sto} {p : Addr} {o : HO} (s : StR g α st H) (hp : p ∉ α) (tup : ∀ b xs, H b = some (.tup xs) → upd H p o b = some (.tup xs)) (frz : ∀ b x u, H b = some (.frz x u) → upd H p o b = some (.frz x u)) : StR g α st (upd H p o) := by
  refine ⟨s.len, s.nd, fun n a ob h1 h2 => ?_⟩
  have na : a ≠ p := by
    rintro rfl
    exact hp (List.mem_of_getElem? h1)
  have k := s.ob n a ob h1 h2
  cases ob with
  | lst ds => obtain ⟨vs, h, r⟩ := k; exact ⟨vs, (upd_ne na).trans h, RDs.weak tup frz r⟩
  | frz ds => obtain ⟨o, vs, h, r⟩ := k; exact ⟨o, vs, (upd_ne na).trans h, RDs.weak tup frz r⟩
  | dic ds => obtain ⟨vs, h, r⟩ := k; exact ⟨vs, (upd_ne na).trans h, RKs.weak tup frz r⟩
  | ins c fs => obtain ⟨C, dx, vs, h0, h, r⟩ := k; exact ⟨C, dx, vs, h0, (upd_ne na).trans h, RFs.weak tup frz r⟩
end

/-! ### comprehensions -/
def noX {β : Type} (r : R β) : R β := match r with | .exc _ _ _ => .stuck | r => r
@[simp] theorem noX_ok {β : Type} (b : β) (st : Sto) : noX (R.ok b st) = .ok b st := rfl
@[simp] theorem noX_stuck {β : Type} : noX (R.stuck : R β) = .stuck := rfl
def W0 : WX := fun _ _ _ _ => False
def wipeE (env : Env) : List Nat → Env
  | [] => env
  | v :: vs => (wipeE env vs).set v none
theorem wipeE_length (env : Env) : ∀ vs : List Nat, (wipeE env vs).length = env.length
  | [] => rfl
  | v :: vs => by unfold wipeE; rw [List.length_set, wipeE_length env vs]
theorem wipeE_some {env : Env} {i : Nat} {d : D} : ∀ {vs : List Nat}, (wipeE env vs)[i]? = some (some d) → env[i]? = some (some d) ∧ i ∉ vs
  | [], h => ⟨h, by simp⟩
  | v :: vs, h => by
    unfold wipeE at h
    by_cases hi : v = i
    · subst hi
      by_cases hv : v < (wipeE env vs).length
      · rw [List.getElem?_set_self hv] at h; cases h
      · rw [List.getElem?_eq_none (by simpa using hv)] at h; cases h
    · rw [List.getElem?_set_ne hi] at h
      obtain ⟨h1, h2⟩ := wipeE_some h
      exact ⟨h1, by simp only [List.mem_cons, not_or]; exact ⟨fun e => hi e.symm, h2⟩⟩
theorem EnvR.wipe {g : Gd} {α : List Addr} {H : Hp} {env : Env} {σ : L2.St} (h : EnvR g α H env σ) (vs : List Nat) : EnvR g α H (wipeE env vs) (L2.wipe σ vs) := by
  refine ⟨by rw [wipeE_length, wipe_length, h.len], fun i d q => ?_⟩
  obtain ⟨h1, h2⟩ := wipeE_some q
  obtain ⟨v, h3, h4⟩ := h.val i d h1
  refine ⟨v, ?_, h4⟩
  rw [wipe_get, if_neg fun z => h2 z.1]
  exact h3
theorem wipe_wipe (σ : L2.St) (vs : List Nat) : L2.wipe (L2.wipe σ vs) vs = L2.wipe σ vs := by
  apply List.ext_getElem?
  intro j
  rw [wipe_get, wipe_get, wipe_length]
  by_cases h : j ∈ vs ∧ j < σ.length
  · rw [if_pos h, if_pos h]
  · rw [if_neg h, if_neg h]
def compL (w : Wat) (t : Tg) (C : DT) (F : DE) (env : Env) : List D → Sto → R (List D)
  | [], st => if okW w st = true then .ok [] st else .stuck
  | d :: ds, st => if okW w st = true then (match bindT t d env with
    | some env1 => (noX (C env1 st)).bind fun b st1 => if b = true then (noX (F env1 st1)).bind fun y st2 => (compL w t C F env ds st2).bind fun ys st3 => .ok (y :: ys) st3 else compL w t C F env ds st1
    | none => .stuck) else .stuck
def cYes : DT := fun _ st => .ok true st
def lComp (vs : List Nat) (t : Tg) (I : DIt) (C : DT) (F : DE) : DA := fun env st => (I env st).bind fun p st1 => if p.1.length ≤ sizeLine then compL p.2 t C F (wipeE env vs) p.1 st1 else .stuck
def eNew (F : DA) : DE := fun env st => (F env st).bind fun ds st1 => new (.lst ds) st1
def OTs (g : Gd) (X : Cx) (W : WX) (es : List Expr) (C : DT) : Prop := PTs X es (tT g W C)
section
variable {g : Gd} {X : Cx} {W : WX}
theorem ots_nil : OTs g X W [] cYes := ⟨fun pins s σ H Q I ⟨α, env, st, hE, hS, p⟩ => pts_nil.run pins s σ H Q I (p.ok hS)⟩
theorem ots_one {e : Expr} {C : DT} (h : OT g X W e C) : OTs g X W [e] C := pts_one h
theorem Ck.blk (c : Ck g X W) {s : Shared} {H : Hp} {scope : Scope} {cenv : PySem.Env} {fp : List Addr} : Ck g (X.blk s H scope cenv fp) W0 :=
  ⟨c.hK, c.hmg, c.hP, c.hw, c.hb, c.calm, c.nd, takes0, c.gd, c.hu, PassesOwn.never⟩
theorem bind_id {β : Type} (r : R β) : (r.bind fun b st => .ok b st) = r := by cases r <;> rfl
theorem bind_bind {β γ δ : Type} (r : R β) (k : β → Sto → R γ) (l : γ → Sto → R δ) : (r.bind k).bind l = r.bind fun b st => (k b st).bind l := by cases r <;> rfl
theorem lc_step (hK : X.K = g.K) {t : Tg} {I : DIt} {C : DT} {F : DE} {vs : List Nat} (hsl : ∀ i ∈ t.slots, i ∈ vs) :
    ∀ σ H Q, tL g W (lComp vs t I C F) σ H Q → tLc (tI g W I) (tgV X.K t) (tT g W0 C) (tE g W0 F) vs σ H Q := fun σ H Q ⟨α, env, st, hE, hS, p⟩ => by
  refine ⟨α, env, st, hE, hS, p.bind.imp fun pr st1 α1 H1 x1 s1 q J hJ => ?_⟩
  obtain ⟨ds, w⟩ := pr
  dsimp only at q hJ
  intro Dd hD
  split at q
  case isFalse => exact q.elim
  rename_i hlen
  have hD0 : H Dd = none := by
    cases z : H Dd with
    | none => rfl
    | some o =>
      by_cases hm : Dd ∈ α
      · obtain ⟨β, rfl⟩ := x1.pre
        obtain ⟨u, hu⟩ := s1.mem (List.mem_append_left β hm)
        rw [hD] at hu; cases hu
      · have := x1.keep _ _ z hm
        rw [hD] at this; cases this
  have wE := hE.wipe vs
  have n1 := s1.notin hD
  refine ⟨fun i m H' => m = ds.length - i ∧ i ≤ ds.length ∧ ∃ α' st' acc accD, Ext α1 H1 α' H' ∧ StR g α' st' H' ∧ Dd ∉ α' ∧ H' Dd = some (.lst acc) ∧ RDs g α' H' accD acc ∧ acc.length ≤ i ∧
      compL w t C F (wipeE env vs) ds st1 = (compL w t C F (wipeE env vs) (ds.drop i) st').bind fun ys s => .ok (accD ++ ys) s,
    ⟨ds.length, by simp, Nat.zero_le _, α1, st1, [], [], ext_new s1 hD _, s1.temp hD _, n1, upd_same, RDs.nil, Nat.le_refl _, by rw [List.drop_zero]; exact (bind_id _).symm⟩, ?_⟩
  rintro i m H' ⟨rfl, hi, α', st', acc, accD, x', hS', nD, hacc, racc, hal, eq⟩
  by_cases hlt : i < ds.length
  · refine .inr ?_
    rw [List.drop_eq_getElem_cons hlt, compL] at eq
    split at eq
    case isFalse => rw [eq] at q; exact q.elim
    rename_i ok
    refine ⟨hJ.go i α' H' st' x' hS' ok hlt, fun H2 => (ds.length - (i + 1)) = ds.length - (i + 1) ∧ i + 1 ≤ ds.length ∧ ∃ α' st' acc accD, Ext α1 H1 α' H2 ∧ StR g α' st' H2 ∧ Dd ∉ α' ∧ H2 Dd = some (.lst acc) ∧ RDs g α' H2 accD acc ∧ acc.length ≤ i + 1 ∧
      compL w t C F (wipeE env vs) ds st1 = (compL w t C F (wipeE env vs) (ds.drop (i + 1)) st').bind fun ys s => .ok (accD ++ ys) s, fun H2 n2 => ⟨ds.length - (i + 1), by omega, n2⟩, fun y H2 hy => ?_⟩
    obtain ⟨x2, s2, r2⟩ := hJ.yl i α' H' st' y H2 x' hS' ok hy _ (List.getElem?_eq_getElem hlt)
    split at eq
    case h_2 => rw [eq] at q; exact q.elim
    rename_i env1 e1
    obtain ⟨σ1, k1, k2, k3⟩ := bindT_ok hK (wE.mono ((x1.trans x').trans x2)) r2 e1
    refine k2 _ ⟨by rw [k3 vs hsl, wipe_wipe], ?_⟩
    refine ⟨α', env1, st', k1, s2, ?_⟩
    have keepD : H2 Dd = some (.lst acc) := x2.keep _ _ hacc nD
    cases hC : C env1 st' with
    | stuck => rw [hC] at eq; rw [eq] at q; exact q.elim
    | exc cc fs s => rw [hC] at eq; rw [eq] at q; exact q.elim
    | ok b st2 =>
      rw [hC] at eq
      intro α3 H3 x3 s3
      have n3 : Dd ∉ α3 := fun hm => by
        have := x3.new Dd hm nD
        rw [keepD] at this; cases this
      have d3 : H3 Dd = some (.lst acc) := x3.keep _ _ keepD nD
      cases b with
      | false =>
        refine iteF ?_
        simp only [noX_ok, R.bind_ok, Bool.false_eq_true, if_false] at eq
        exact ⟨rfl, hlt, α3, st2, acc, accD, (x'.trans x2).trans x3, s3, n3, d3, (racc.mono x2).mono x3, by omega, eq⟩
      | true =>
        refine iteT ?_
        simp only [noX_ok, R.bind_ok, if_true] at eq
        refine ⟨α3, env1, st2, k1.mono x3, s3, ?_⟩
        cases hF : F env1 st2 with
        | stuck => rw [hF] at eq; rw [eq] at q; exact q.elim
        | exc cc fs s => rw [hF] at eq; rw [eq] at q; exact q.elim
        | ok z st4 =>
          rw [hF] at eq
          simp only [noX_ok, R.bind_ok, bind_bind] at eq
          intro α4 H4 x4 s4 v rv
          have n4 : Dd ∉ α4 := fun hm => by
            have := x4.new Dd hm n3
            rw [d3] at this; cases this
          have d4 : H4 Dd = some (.lst acc) := x4.keep _ _ d3 n3
          -- the list grows: what is read of trees stays
          have tupK : ∀ b xs, H4 b = some (.tup xs) → upd H4 Dd (.lst (acc ++ [v])) b = some (.tup xs) := fun b xs hb => by
            rw [upd_ne]; exact hb
            rintro rfl
            rw [d4] at hb; cases hb
          have frzK : ∀ b o u, H4 b = some (.frz o u) → upd H4 Dd (.lst (acc ++ [v])) b = some (.frz o u) := fun b o u hb => by
            rw [upd_ne]; exact hb
            rintro rfl
            rw [d4] at hb; cases hb
          have xw : ∀ {ds : List D} {vs : List V}, RDs g α4 H4 ds vs → RDs g α4 (upd H4 Dd (.lst (acc ++ [v]))) ds vs := fun h => RDs.weak tupK frzK h
          refine ⟨acc, d4, Nat.lt_of_lt_of_le (by omega : acc.length < ds.length) hlen, rfl, hlt, α4, st4, acc ++ [v], accD ++ [z], ?_, ?_, n4, upd_same, xw ((((racc.mono x2).mono x3).mono x4).append (.cons rv .nil)), by simp; omega, ?_⟩
          · have xx := ((x'.trans x2).trans x3).trans x4
            refine ⟨xx.pre, fun b o hb nb => ?_, xx.new, fun b xs hb => tupK _ _ (xx.tup _ _ hb), fun b o u hb => frzK _ _ _ (xx.frz _ _ _ hb)⟩
            rw [upd_ne]
            · exact xx.keep _ _ hb nb
            · rintro rfl
              rw [hD] at hb; cases hb
          · exact StR.weak s4 n4 tupK frzK
          · rw [eq]
            congr 1
            funext ys s
            simp
  · refine .inl ?_
    have e : ds.drop i = [] := List.drop_eq_nil_of_le (by omega)
    rw [e, compL] at eq
    split at eq
    · rename_i ok
      rw [eq] at q
      simp only [R.bind_ok, List.append_nil] at q
      exact ⟨hJ.stop i α' H' st' x' hS' ok (by omega), q α' H' x' hS' Dd acc hD0 nD hacc racc⟩
    · rw [eq] at q; exact q.elim
end
end Mi

namespace Mi
open PySem L2

/-! ### comprehensions: the rules -/
/-- the items of a new list that is written out -/
def lDisp (G : DA) : DA := fun env st => (G env st).bind fun ds st1 => if ds.length ≤ sizeLine then .ok ds st1 else .stuck

section
variable {g : Gd} {X : Cx} {W : WX}
theorem ol_comp (c : Ck g X W) {elt tg iter : Expr} {ifs : List Expr} {scope : Scope} {own : List (Str × Nat)} {pos : Pos} {t : Tg} {I : DIt} {C : DT} {F : DE} (ok : BlkOk X.N X.env.scope scope own) (hi : OI g X W tg iter I)
    (hg : ∀ (s : Shared) (H : Hp) (C : Addr) (cl : List (Str × Addr)) (fp : List Addr), OG (X.blk s H scope (compEnvC scope cl C X.env) fp) tg t)
    (ht : ∀ (s : Shared) (H : Hp) (C1 : Addr) (cl : List (Str × Addr)) (fp : List Addr), OTs g (X.blk s H scope (compEnvC scope cl C1 X.env) fp) W0 ifs C)
    (he : ∀ (s : Shared) (H : Hp) (C : Addr) (cl : List (Str × Addr)) (fp : List Addr), OE g (X.blk s H scope (compEnvC scope cl C X.env) fp) W0 elt F)
    (hsl : ∀ i ∈ t.slots, i ∈ own.map (·.2)) (hs : ∀ x, foldedSetIterable iter X.env x = pure x := by intro _; rfl) : OL g X W (.ListComp elt [⟨tg, iter, ifs, 0⟩] scope pos) (lComp (own.map (·.2)) t I C F) :=
  ofE (pe_lc (g := tgV X.K t) (tt := tT g W0 C) (te := tE g W0 F) c.calm c.nd hi ok hg ht he hs) (lc_step c.hK hsl)
theorem StR.adopt {α : List Addr} {H : Hp} {st : Sto} {a : Addr} {vs : List V} {ds : List D} (s : StR g α st H) (hn : a ∉ α) (ha : H a = some (.lst vs)) (r : RDs g α H ds vs) : StR g (α ++ [a]) (st ++ [.lst ds]) H := by
  have x : ∀ {d : D} {v : V}, RD g α H d v → True := fun _ => trivial
  have e : Ext α (fun b => if b = a then none else H b) (α ++ [a]) H := ⟨⟨[a], rfl⟩, fun b o h _ => by
      split at h
      · cases h
      · exact h, fun b hb n => by
      have : b = a := by simpa [n] using hb
      subst this
      simp, fun b xs h => by
      split at h
      · cases h
      · exact h, fun b o u h => by
      split at h
      · cases h
      · exact h⟩
  have tk : ∀ b xs, H b = some (.tup xs) → (fun b => if b = a then none else H b) b = some (.tup xs) := fun b xs h => by
    dsimp only
    rw [if_neg]
    · exact h
    · rintro rfl
      rw [ha] at h; cases h
  have fk : ∀ b o u, H b = some (.frz o u) → (fun b => if b = a then none else H b) b = some (.frz o u) := fun b o u h => by
    dsimp only
    rw [if_neg]
    · exact h
    · rintro rfl
      rw [ha] at h; cases h
  refine ⟨by simp [s.len], by
    rw [List.nodup_append]
    refine ⟨s.nd, by simp, fun b hb c hc => ?_⟩
    rintro rfl
    have : b = a := by simpa using hc
    subst this
    exact hn hb, fun n b o h1 h2 => ?_⟩
  by_cases hl : n < α.length
  · rw [List.getElem?_append_left hl] at h1
    rw [List.getElem?_append_left (by rw [← s.len]; exact hl)] at h2
    have k := s.ob n b o h1 h2
    cases o with
    | lst ds => obtain ⟨vs, h, r⟩ := k; exact ⟨vs, h, (RDs.weak tk fk r).mono e⟩
    | frz ds => obtain ⟨o, vs, h, r⟩ := k; exact ⟨o, vs, h, (RDs.weak tk fk r).mono e⟩
    | dic ds => obtain ⟨vs, h, r⟩ := k; exact ⟨vs, h, (RKs.weak tk fk r).mono e⟩
    | ins c fs => obtain ⟨C, dx, vs, h0, h, r⟩ := k; exact ⟨C, dx, vs, h0, h, (RFs.weak tk fk r).mono e⟩
  · have hn' : n = α.length := by
      have := (List.getElem?_eq_some_iff.mp h1).1
      simp at this
      omega
    subst hn'
    simp at h1
    rw [s.len] at h2
    simp at h2
    subst h1 h2
    exact ⟨vs, ha, (RDs.weak tk fk r).mono e⟩
theorem new_step {F : DA} : ∀ σ H Q, tE g W (eNew F) σ H Q → tL g W F σ H Q := fun σ H Q ⟨α, env, st, hE, hS, p⟩ => by
  refine ⟨α, env, st, hE, hS, ?_⟩
  unfold eNew at p
  cases hF : F env st with
  | stuck => rw [hF] at p; exact p.elim
  | exc c fs st1 => rw [hF] at p; exact p
  | ok ds st1 =>
    rw [hF] at p
    intro α1 H1 x1 s1 a vs h0 hn ha r
    refine p (α1 ++ [a]) H1 ?_ (s1.adopt hn ha r) _ ⟨a, rfl, by rw [← s1.len]; simp⟩
    obtain ⟨β, e⟩ := x1.pre
    refine ⟨⟨β ++ [a], by rw [e]; simp⟩, x1.keep, fun b hb nb => ?_, x1.tup, x1.frz⟩
    rcases List.mem_append.mp hb with h | h
    · exact x1.new b h nb
    · have : b = a := by simpa using h
      subst this
      exact h0
theorem oe_new {e : Expr} {F : DA} (h : OL g X W e F) : OE g X W e (eNew F) := ofE h new_step
theorem os_setLc (c : Ck g X W) {i : Nat} {y : Str} {py spos : Pos} {elt tg iter : Expr} {ifs : List Expr} {scope : Scope} {own : List (Str × Nat)} {pos : Pos} {t : Tg} {I : DIt} {C : DT} {F : DE} (ok : BlkOk X.N X.env.scope scope own)
    (hsw : swapsWith (.ListComp elt [⟨tg, iter, ifs, 0⟩] scope pos) (some (.Name y py)) spos.line X.env = pure true) (hi : OI g X W tg iter I)
    (hg : ∀ (s : Shared) (H : Hp) (C : Addr) (cl : List (Str × Addr)) (fp : List Addr), OG (X.blk s H scope (compEnvC scope cl C X.env) fp) tg t)
    (ht : ∀ (s : Shared) (H : Hp) (C1 : Addr) (cl : List (Str × Addr)) (fp : List Addr), OTs g (X.blk s H scope (compEnvC scope cl C1 X.env) fp) W0 ifs C)
    (he : ∀ (s : Shared) (H : Hp) (C : Addr) (cl : List (Str × Addr)) (fp : List Addr), OE g (X.blk s H scope (compEnvC scope cl C X.env) fp) W0 elt F)
    (hsl : ∀ i ∈ t.slots, i ∈ own.map (·.2)) (hy : X.N[i]? = some y := by rfl) (hyl : X.env.scope.names.lookup y = some .local := by rfl) (hs : ∀ x, foldedSetIterable iter X.env x = pure x := by intro _; rfl) :
    OS g X W (.Assign [.Name y py] (.ListComp elt [⟨tg, iter, ifs, 0⟩] scope pos) spos) (sAsg (.nm i) (eNew (lComp (own.map (·.2)) t I C F))) :=
  ofS (ps_setLc (g := tgV X.K t) (tt := tT g W0 C) (te := tE g W0 F) c.calm c.nd hy hyl hsw hi ok hg ht he hs) fun E σ H h => lc_step c.hK hsl σ H _ (new_step σ H _ (asg_step (X := X) c E σ H h))
theorem ol_disp {es : List Expr} {G : DA} {pos : Pos} (h : OA g X W es G) : OL g X W (.List es pos) (lDisp G) :=
  ofE (pe_lst h) fun σ H Q ⟨α, env, st, hE, hS, p⟩ => by
    refine tA.run hE hS ?_
    unfold lDisp at p
    cases hF : G env st with
    | stuck => rw [hF] at p; exact p.elim
    | exc c fs st1 => rw [hF] at p; exact p
    | ok ds st1 =>
      rw [hF] at p
      intro α1 H1 x1 s1 vs r
      simp only [R.bind_ok] at p
      split at p
      · rename_i hl
        refine ⟨by rw [← r.length]; exact hl, fun q hq => ?_⟩
        refine p α1 _ (x1.trans (ext_new s1 hq _)) (s1.temp hq _) q vs ?_ (s1.notin hq) upd_same (r.mono (ext_new s1 hq _))
        cases z : H q with
        | none => rfl
        | some o =>
          by_cases hm : q ∈ α
          · obtain ⟨β, rfl⟩ := x1.pre
            exact absurd (List.mem_append_left β hm) (s1.notin hq)
          · have := x1.keep _ _ z hm
            rw [hq] at this; cases this
      · exact p.elim
end

/-! ### calls of built-ins -/
def eCall (o : List D → Sto → R D) (G : DA) : DE := fun env st => (G env st).bind fun ds st1 => o ds st1
def Bi (g : Gd) (X : Cx) (W : WX) (f : Value) (o : List D → Sto → R D) : Prop :=
  ∀ (σ : L2.St) (α : List Addr) (H : Hp) (st : Sto) (ds : List D) (vs : List V) (Q : VK), StR g α st H → RDs g α H ds vs → PD g W σ α H (o ds st) Q → ∃ r, CallR X f r ∧ r vs H Q
/-- .. of one new list -/
def BiL (g : Gd) (X : Cx) (W : WX) (f : Value) (o : List D → Sto → R D) : Prop :=
  ∀ (σ : L2.St) (α : List Addr) (H : Hp) (st : Sto) (ds : List D) (a : Addr) (vs : List V) (Q : VK), StR g α st H → a ∉ α → H a = some (.lst vs) → RDs g α H ds vs → PD g W σ α H (o ds st) Q → ∃ r, CallR X f r ∧ r [.ref a] H Q
theorem anyC {X : Cx} {f : Value} : CallR X f (fun xs H Q => ∃ r, CallR X f r ∧ r xs H Q) := fun pins s σ H xs us Q I r ⟨_, h, q⟩ => h pins s σ H xs us Q I r q
section
variable {g : Gd} {X : Cx} {W : WX} {x : Str} {p pos : Pos} {e : Expr} {es : List Expr} {G : DA} {o : List D → Sto → R D} {id T : String}
theorem oe_callB (c : Ck g X W) (h : Bi g X W (.builtin id) o) (hv : bootBuiltins x = some (.builtin id)) (hm : g.mg x = none) (ha : OA g X W (e :: es) G) (hg : L2.Gl X x := by rfl) (hn : x ≠ "__name__" := by decide) (hdb : (x == ("__debug__" : Str)) = false := by decide)
    (he : starEach (e :: es) X.env = (false, eval e X.env) :: starEach es X.env := by rfl) (hpl : (backTo pos (starEach es X.env)).any (·.1) = false := by rfl) : OE g X W (.Call (.Name x p) (e :: es) [] pos) (eCall o G) :=
  ofE (pe_callB anyC hg (by rw [c.hmg]; exact hm) hv ha hn hdb he hpl) fun σ H Q ⟨α, env, st, hE, hS, p⟩ =>
    tA.run hE hS (p.bind.imp fun ds st1 α1 H1 x1 s1 q vs r => h σ α1 H1 st1 ds vs Q s1 r q)
theorem oe_callTy (c : Ck g X W) (h : Bi g X W (.type T) o) (hv : bootBuiltins x = some (.type T)) (hm : g.mg x = none) (ha : OA g X W (e :: es) G) (hg : L2.Gl X x := by rfl) (hn : x ≠ "__name__" := by decide) (hdb : (x == ("__debug__" : Str)) = false := by decide)
    (he : starEach (e :: es) X.env = (false, eval e X.env) :: starEach es X.env := by rfl) (hpl : (backTo pos (starEach es X.env)).any (·.1) = false := by rfl) : OE g X W (.Call (.Name x p) (e :: es) [] pos) (eCall o G) :=
  ofE (pe_callTy anyC hg (by rw [c.hmg]; exact hm) hv ha hn hdb he hpl) fun σ H Q ⟨α, env, st, hE, hS, p⟩ =>
    tA.run hE hS (p.bind.imp fun ds st1 α1 H1 x1 s1 q vs r => h σ α1 H1 st1 ds vs Q s1 r q)
theorem oe_callBL (c : Ck g X W) (h : BiL g X W (.builtin id) o) (hv : bootBuiltins x = some (.builtin id)) (hm : g.mg x = none) (ha : OL g X W e G) (hg : L2.Gl X x := by rfl) (hn : x ≠ "__name__" := by decide) (hdb : (x == ("__debug__" : Str)) = false := by decide)
    (he : starEach [e] X.env = (false, eval e X.env) :: starEach [] X.env := by rfl) (hpl : (backTo pos (starEach [] X.env)).any (·.1) = false := by rfl) : OE g X W (.Call (.Name x p) [e] [] pos) (eCall o G) :=
  ofE (pe_callB anyC hg (by rw [c.hmg]; exact hm) hv (pa_cons ha pa_nil he) hn hdb he hpl) fun σ H Q ⟨α, env, st, hE, hS, p⟩ =>
    ⟨α, env, st, hE, hS, p.bind.imp fun ds st1 α1 H1 x1 s1 q a vs _ hna ha r => h σ α1 H1 st1 ds a vs Q s1 hna ha r q⟩
theorem oe_callTyL (c : Ck g X W) (h : BiL g X W (.type T) o) (hv : bootBuiltins x = some (.type T)) (hm : g.mg x = none) (ha : OL g X W e G) (hg : L2.Gl X x := by rfl) (hn : x ≠ "__name__" := by decide) (hdb : (x == ("__debug__" : Str)) = false := by decide)
    (he : starEach [e] X.env = (false, eval e X.env) :: starEach [] X.env := by rfl) (hpl : (backTo pos (starEach [] X.env)).any (·.1) = false := by rfl) : OE g X W (.Call (.Name x p) [e] [] pos) (eCall o G) :=
  ofE (pe_callTy anyC hg (by rw [c.hmg]; exact hm) hv (pa_cons ha pa_nil he) hn hdb he hpl) fun σ H Q ⟨α, env, st, hE, hS, p⟩ =>
    ⟨α, env, st, hE, hS, p.bind.imp fun ds st1 α1 H1 x1 s1 q a vs _ hna ha r => h σ α1 H1 st1 ds a vs Q s1 hna ha r q⟩
end

def toI : D → Option Int
  | .int i => some i
  | _ => none
def toB : D → Option Bool
  | .bl b => some b
  | _ => none
def toS : D → Option Str
  | .str x => some x
  | _ => none
def lenB : List D → Sto → R D
  | [.tup ds], st => .ok (.int (ds.length : Nat)) st
  | [.str z], st => if z.length ≤ sizeLine then .ok (.int (z.length : Nat)) st else .stuck
  | [.obj n], st => match seqOf st n with
    | some ds => .ok (.int (ds.length : Nat)) st
    | none => (match st[n]? with | some (.dic kvs) => .ok (.int (kvs.length : Nat)) st | _ => .stuck)
  | [.kl ds], st => .ok (.int (ds.length : Nat)) st
  | _, _ => .stuck
def absB : List D → Sto → R D
  | [.int i], st => .ok (.int (if i < 0 then -i else i)) st
  | _, _ => .stuck
def maxB : List D → Sto → R D
  | [.int i, .int j], st => .ok (.int (if j > i then j else i)) st
  | _, _ => .stuck
def minB : List D → Sto → R D
  | [.int i, .int j], st => .ok (.int (if j < i then j else i)) st
  | _, _ => .stuck
def intB : List D → Sto → R D
  | [.int i], st => .ok (.int i) st
  | [.bl k], st => .ok (.int (if k then 1 else 0)) st
  | _, _ => .stuck
def strB : List D → Sto → R D
  | [.int i], st => if i.natAbs.log2 < 1920 then .ok (.str (toString i)) st else .stuck
  | [.str x], st => .ok (.str x) st
  | [.bl b], st => .ok (.str (if b then "True" else "False")) st
  | [.non], st => .ok (.str "None") st
  | _, _ => .stuck
def tupleL (ds : List D) (st : Sto) : R D := .ok (.tup ds) st
def tupleB : List D → Sto → R D
  | [.tup ds], st => .ok (.tup ds) st
  | [.obj n], st => match seqOf st n with | some ds => .ok (.tup ds) st | none => .stuck
  | _, _ => .stuck
def listL (ds : List D) (st : Sto) : R D := new (.lst ds) st
def listB : List D → Sto → R D
  | [.tup ds], st => new (.lst ds) st
  | [.obj n], st => match seqOf st n with | some ds => new (.lst ds) st | none => .stuck
  | _, _ => .stuck
def sumL (ds : List D) (st : Sto) : R D := match allO toI ds with | some ns => .ok (.int ns.sum) st | none => .stuck
def allL (ds : List D) (st : Sto) : R D := match allO toB ds with | some bs => .ok (.bl (bs.all id)) st | none => .stuck
def anyL (ds : List D) (st : Sto) : R D := match allO toB ds with | some bs => .ok (.bl (bs.any id)) st | none => .stuck
/-- a built-in of a list, asked of a list of the store -/
def ofL (o : List D → Sto → R D) : List D → Sto → R D
  | [.obj n], st => match seqOf st n with | some ds => o ds st | none => .stuck
  | _, _ => .stuck
section
variable {g : Gd} {X : Cx} {W : WX} {α : List Addr} {H : Hp} {st : Sto}
theorem RDs.one {d : D} {vs : List V} (h : RDs g α H [d] vs) : ∃ v, vs = [v] ∧ RD g α H d v := by
  obtain ⟨v, _, rfl, h1, rfl⟩ := h
  exact ⟨v, rfl, h1⟩
theorem toIs : ∀ {ds : List D} {vs : List V} {ns : List Int}, RDs g α H ds vs → allO toI ds = some ns → vs = ns.map V.int
  | [], vs, xs, h, e => by cases e; cases h; rfl
  | d :: ds, vs, xs, h, e => by
    obtain ⟨v, r, rfl, h1, h2⟩ := h
    rw [allO] at e
    split at e
    · rename_i b bs e1 e2
      cases e
      rw [toIs h2 e2]
      cases d <;> cases e1
      cases h1
      rfl
    · cases e
theorem toBs : ∀ {ds : List D} {vs : List V} {ns : List Bool}, RDs g α H ds vs → allO toB ds = some ns → vs = ns.map V.bl
  | [], vs, xs, h, e => by cases e; cases h; rfl
  | d :: ds, vs, xs, h, e => by
    obtain ⟨v, r, rfl, h1, h2⟩ := h
    rw [allO] at e
    split at e
    · rename_i b bs e1 e2
      cases e
      rw [toBs h2 e2]
      cases d <;> cases e1
      cases h1
      rfl
    · cases e
theorem toSs : ∀ {ds : List D} {vs : List V} {ns : List Str}, RDs g α H ds vs → allO toS ds = some ns → vs = ns.map V.str
  | [], vs, xs, h, e => by cases e; cases h; rfl
  | d :: ds, vs, xs, h, e => by
    obtain ⟨v, r, rfl, h1, h2⟩ := h
    rw [allO] at e
    split at e
    · rename_i b bs e1 e2
      cases e
      rw [toSs h2 e2]
      cases d <;> cases e1
      cases h1
      rfl
    · cases e
theorem bi_len (c : Ck g X W) : Bi g X W (.builtin "len") lenB := by
  intro σ α H st ds vs Q s r p
  unfold lenB at p
  split at p
  · obtain ⟨v, rfl, a, ws, rfl, h1, r1⟩ := r.one
    exact ⟨_, call_len_seq, a, ws, rfl, .inr (by rw [c.hK]; exact h1), by rw [← r1.length]; exact PD.ok p s rfl⟩
  · obtain ⟨v, rfl, r1⟩ := r.one
    cases r1
    split at p
    · rename_i hl
      exact ⟨_, call_len_str, _, rfl, hl, PD.ok p s rfl⟩
    · exact p.elim
  · obtain ⟨v, rfl, r1⟩ := r.one
    split at p
    · rename_i e
      obtain ⟨a, ws, rfl, _, h1, r2⟩ := s.seq r1 e
      exact ⟨_, call_len_seq, a, ws, rfl, .inl (by rw [c.hK]; exact h1), by rw [← r2.length]; exact PD.ok p s rfl⟩
    · split at p
      · rename_i kvs e
        obtain ⟨a, rfl, ha⟩ := r1
        obtain ⟨ws, h1, h2⟩ := s.ob _ a _ ha e
        have hl : kvs.length = ws.length := by
          clear p h1 e
          induction kvs generalizing ws with
          | nil => cases h2; rfl
          | cons k ks ih => obtain ⟨_, r, rfl, _, h3⟩ := h2; simp [ih r h3]
        exact ⟨_, call_lenD, a, ws, rfl, h1, by rw [← hl]; exact PD.ok p s rfl⟩
      · exact p.elim
  · obtain ⟨v, rfl, a, ws, rfl, h1, r1⟩ := r.one
    exact ⟨_, call_len_seq, a, ws, rfl, .inl (by rw [c.hK]; exact h1.sq), by rw [← r1.length]; exact PD.ok p s rfl⟩
  · exact p.elim
theorem bi_abs : Bi g X W (.builtin "abs") absB := by
  intro σ α H st ds vs Q s r p
  unfold absB at p
  split at p
  · obtain ⟨v, rfl, r1⟩ := r.one
    cases r1
    exact ⟨_, call_abs, _, rfl, PD.ok p s rfl⟩
  · exact p.elim
theorem bi_max (c : Ck g X W) : Bi g X W (.builtin "max") maxB := by
  intro σ α H st ds vs Q s r p
  unfold maxB at p
  split at p
  · cases ints2 r
    exact ⟨_, call_max2 c.calm, _, _, rfl, PD.ok p s rfl⟩
  · exact p.elim
theorem bi_min (c : Ck g X W) : Bi g X W (.builtin "min") minB := by
  intro σ α H st ds vs Q s r p
  unfold minB at p
  split at p
  · cases ints2 r
    exact ⟨_, call_min2 c.calm, _, _, rfl, PD.ok p s rfl⟩
  · exact p.elim
theorem bi_int : Bi g X W (.type "int") intB := by
  intro σ α H st ds vs Q s r p
  unfold intB at p
  split at p
  · obtain ⟨v, rfl, r1⟩ := r.one
    cases r1
    exact ⟨_, call_int1, .inl ⟨_, rfl, PD.ok p s rfl⟩⟩
  · obtain ⟨v, rfl, r1⟩ := r.one
    cases r1
    exact ⟨_, call_int1, .inr ⟨_, rfl, PD.ok p s rfl⟩⟩
  · exact p.elim
theorem call_str_bl : CallR X (.type "str") (fun xs H Q => ∃ b : Bool, xs = [.bl b] ∧ Q (.str (if b then "True" else "False")) H) := by
  intro pins s σ H xs us Q I r h
  obtain ⟨b, rfl, q⟩ := h
  obtain ⟨u, rfl, ru⟩ := vals1 r
  cases ru
  exact PySem.P.str_of_bool ⟨.str _, H, I.tok _, ⟨_, rfl⟩, q⟩
theorem call_str_non : CallR X (.type "str") (fun xs H Q => xs = [.non] ∧ Q (.str "None") H) := by
  intro pins s σ H xs us Q I r h
  obtain ⟨rfl, q⟩ := h
  obtain ⟨u, rfl, ru⟩ := vals1 r
  cases ru
  exact PySem.P.str_of_none ⟨.str _, H, I.tok _, ⟨_, rfl⟩, q⟩
theorem bi_str : Bi g X W (.type "str") strB := by
  intro σ α H st ds vs Q s r p
  unfold strB at p
  split at p
  · obtain ⟨v, rfl, r1⟩ := r.one
    cases r1
    split at p
    · rename_i hl
      exact ⟨_, call_str_int, _, rfl, hl, PD.ok p s rfl⟩
    · exact p.elim
  · obtain ⟨v, rfl, r1⟩ := r.one
    cases r1
    exact ⟨_, SkE.call_str_str, _, rfl, PD.ok p s rfl⟩
  · obtain ⟨v, rfl, r1⟩ := r.one
    cases r1
    exact ⟨_, call_str_bl, _, rfl, PD.ok p s rfl⟩
  · obtain ⟨v, rfl, r1⟩ := r.one
    cases r1
    exact ⟨_, call_str_non, rfl, PD.ok p s rfl⟩
  · exact p.elim
theorem bil_tuple (c : Ck g X W) : BiL g X W (.type "tuple") tupleL := by
  intro σ α H st ds a vs Q s hn ha r p
  exact ⟨_, call_tuple_of, a, vs, rfl, .inl ⟨.inl (.inl ha), PD.tup p s r⟩⟩
theorem bi_tuple (c : Ck g X W) : Bi g X W (.type "tuple") tupleB := by
  intro σ α H st ds vs Q s r p
  unfold tupleB at p
  split at p
  · obtain ⟨v, rfl, a, ws, rfl, h1, r1⟩ := r.one
    exact ⟨_, call_tuple_of, a, ws, rfl, .inr ⟨by rw [c.hK]; exact h1, PD.ok p s ⟨a, ws, rfl, h1, r1⟩⟩⟩
  · obtain ⟨v, rfl, r1⟩ := r.one
    split at p
    · rename_i e
      obtain ⟨a, ws, rfl, _, h1, r2⟩ := s.seq r1 e
      exact ⟨_, call_tuple_of, a, ws, rfl, .inl ⟨by rw [c.hK]; exact h1, PD.tup p s r2⟩⟩
    · exact p.elim
  · exact p.elim
theorem bil_list (c : Ck g X W) : BiL g X W (.type "list") listL := by
  intro σ α H st ds a vs Q s hn ha r p
  exact ⟨_, call_list_of, a, vs, rfl, .inl (.inl (.inl ha)), PD.lst p s r⟩
theorem bi_list (c : Ck g X W) : Bi g X W (.type "list") listB := by
  intro σ α H st ds vs Q s r p
  unfold listB at p
  split at p
  · obtain ⟨v, rfl, a, ws, rfl, h1, r1⟩ := r.one
    exact ⟨_, call_list_of, a, ws, rfl, .inr (by rw [c.hK]; exact h1), PD.lst p s r1⟩
  · obtain ⟨v, rfl, r1⟩ := r.one
    split at p
    · rename_i e
      obtain ⟨a, ws, rfl, _, h1, r2⟩ := s.seq r1 e
      exact ⟨_, call_list_of, a, ws, rfl, .inl (by rw [c.hK]; exact h1), PD.lst p s r2⟩
    · exact p.elim
  · exact p.elim
/-- of any list that is read -/
def BiS (g : Gd) (X : Cx) (W : WX) (f : Value) (o : List D → Sto → R D) : Prop :=
  ∀ (σ : L2.St) (α : List Addr) (H : Hp) (st : Sto) (ds : List D) (a : Addr) (vs : List V) (Q : VK), StR g α st H → SqL g.K H a vs → RDs g α H ds vs → PD g W σ α H (o ds st) Q → ∃ r, CallR X f r ∧ r [.ref a] H Q
theorem BiS.l {f : Value} {o : List D → Sto → R D} (h : BiS g X W f o) : BiL g X W f o := fun σ α H st ds a vs Q s _ ha r p => h σ α H st ds a vs Q s (.inl (.inl ha)) r p
theorem BiS.b {f : Value} {o : List D → Sto → R D} (h : BiS g X W f o) : Bi g X W f (ofL o) := by
  intro σ α H st ds vs Q s r p
  unfold ofL at p
  split at p
  · obtain ⟨v, rfl, r1⟩ := r.one
    split at p
    · rename_i e
      obtain ⟨a, ws, rfl, _, h1, r2⟩ := s.seq r1 e
      exact h σ α H st _ a ws Q s h1 r2 p
    · exact p.elim
  · exact p.elim
theorem bis_sum (c : Ck g X W) : BiS g X W (.builtin "sum") sumL := by
  intro σ α H st ds a vs Q s ha r p
  unfold sumL at p
  split at p
  · rename_i ns e
    cases toIs r e
    exact ⟨_, cr_sum c.calm, a, ns, rfl, by rw [c.hK]; exact ha, PD.ok p s rfl⟩
  · exact p.elim
theorem bis_all (c : Ck g X W) : BiS g X W (.builtin "all") allL := by
  intro σ α H st ds a vs Q s ha r p
  unfold allL at p
  split at p
  · rename_i ns e
    cases toBs r e
    exact ⟨_, cr_all c.calm, a, ns, rfl, by rw [c.hK]; exact ha, PD.ok p s rfl⟩
  · exact p.elim
theorem bis_any (c : Ck g X W) : BiS g X W (.builtin "any") anyL := by
  intro σ α H st ds a vs Q s ha r p
  unfold anyL at p
  split at p
  · rename_i ns e
    cases toBs r e
    exact ⟨_, cr_any c.calm, a, ns, rfl, by rw [c.hK]; exact ha, PD.ok p s rfl⟩
  · exact p.elim
end

/-! ### repr -/
def reprO (p : PyData) : Option Str := if (p.showable && decide (p.depth ≤ 64) && decide (p.shown.length ≤ sizeLine)) = true ∧ p.hasDict = false then some p.shown else none
def reprB : List D → Sto → R D
  | [d], st => match toP st 66 d with
    | some p => (match reprO p with | some x => .ok (.str x) st | none => .stuck)
    | none => .stuck
  | _, _ => .stuck
section
variable {g : Gd} {X : Cx} {W : WX}
theorem call_reprD (hg : X.A.guards = some []) (hu : X.A.units + 200 < cLine) : CallR X (.builtin "repr") (fun xs H Q => ∃ v p, xs = [v] ∧ Dp X.K H v p ∧ p.showable = true ∧ p.depth ≤ 64 ∧ p.shown.length ≤ sizeLine ∧ p.hasDict = false ∧ Q (.str p.shown) H) := by
  intro pins s σ H xs us Q I r h
  obtain ⟨v, p, rfl, hd, h1, h2, h3, h4, q⟩ := h
  obtain ⟨u, rfl, ru⟩ := vals1 r
  obtain ⟨as, rd⟩ := Dp.reads I p v u hd ru
  cases hd with
  | non => cases ru; exact PySem.P.repr_of_none ⟨.str _, H, I.tok _, ⟨_, rfl⟩, q⟩
  | bl b => cases ru; exact PySem.P.repr_of_bool ⟨.str _, H, I.tok _, ⟨_, rfl⟩, q⟩
  | int i =>
    obtain ⟨t, rfl⟩ := ru
    have : i.natAbs.log2 < 1920 := by simpa [PyData.showable] using h1
    exact PySem.P.repr_of_int this ⟨.str _, H, I.tok _, ⟨_, rfl⟩, q⟩
  | str x =>
    obtain ⟨t, rfl⟩ := ru
    exact PySem.P.repr_of_str ⟨.str _, H, I.tok _, ⟨_, rfl⟩, q⟩ h3
  | lst hs ha =>
    cases ru
    exact repr_of_reads' rd h1 (PyData.noDict_hsm h4) hg (by omega) (fun _ _ e => e) (fun h' u tk hk => ⟨.str _, H, I.kept (t' := tk) hk, ⟨_, rfl⟩, q⟩) h3
  | tup hs ha =>
    cases ru
    exact repr_of_reads' rd h1 (PyData.noDict_hsm h4) hg (by omega) (fun _ _ e => e) (fun h' u tk hk => ⟨.str _, H, I.kept (t' := tk) hk, ⟨_, rfl⟩, q⟩) h3
theorem bi_repr (c : Ck g X W) : Bi g X W (.builtin "repr") reprB := by
  intro σ α H st ds vs Q s r p
  unfold reprB at p
  split at p
  · obtain ⟨v, rfl, r1⟩ := r.one
    split at p
    · rename_i pd e
      split at p
      · rename_i x e2
        unfold reprO at e2
        split at e2
        · rename_i hh
          cases e2
          obtain ⟨h0, h4⟩ := hh
          simp only [Bool.and_eq_true, decide_eq_true_eq] at h0
          have d := dp s _ _ _ _ e r1
          rw [← c.hK] at d
          exact ⟨_, call_reprD c.gd c.hu, v, pd, rfl, d, h0.1.1, h0.1.2, h0.2, h4, PD.ok p s rfl⟩
        · cases e2
      · exact p.elim
    · exact p.elim
  · exact p.elim
end
end Mi

namespace Mi
open PySem L2

/-! ### isinstance -/
inductive Ty where
  | non | bool | int | str | tuple | list | dict
  deriving DecidableEq
def Ty.nm : Ty → String
  | .non => "NoneType" | .bool => "bool" | .int => "int" | .str => "str" | .tuple => "tuple" | .list => "list" | .dict => "dict"
def isi : Ty → Ty → Bool
  | .bool, .int => true
  | a, b => decide (a = b)
theorem isi_kit (a b : Ty) : kitB a.nm b.nm = some (isi a b) := by cases a <;> cases b <;> decide +kernel
def tyD : D → Sto → Option Ty
  | .non, _ => some .non
  | .bl _, _ => some .bool
  | .int _, _ => some .int
  | .str _, _ => some .str
  | .tup _, _ => some .tuple
  | .kl _, _ => some .list
  | .obj n, st => match st[n]? with
    | some (.lst _) => some .list
    | some (.frz _) => some .list
    | some (.dic _) => some .dict
    | _ => none
  | _, _ => none
def isiD (T : Ty) (d : D) (st : Sto) : R D := match tyD d st with | some t => .ok (.bl (isi t T)) st | none => .stuck
section
variable {g : Gd} {X : Cx} {W : WX} {α : List Addr} {H : Hp} {st : Sto}
theorem tyX (s : StR g α st H) {d : D} {v : V} {t : Ty} (h : RD g α H d v) (e : tyD d st = some t) : TyX g.K H v (.type t.nm) := by
  have sq : ∀ {a : Addr} {vs : List V}, SqT g.K H a vs → TyX g.K H (.ref a) (.type "tuple") := fun {a vs} q => by
    rcases q with (q | ⟨o, q⟩) | ⟨o, its, n, q1, q2, _⟩
    · exact .base (.tup q)
    · exact .fTuple q
    · exact .kTuple q1 q2
  cases d with
  | non => cases e; cases h; exact .base .non
  | bl => cases e; cases h; exact .base (.bl _)
  | int => cases e; cases h; exact .base (.int _)
  | str => cases e; cases h; exact .base (.str _)
  | tup ds =>
    cases e
    obtain ⟨a, vs, rfl, h1, _⟩ := h
    exact sq h1
  | kl ds =>
    cases e
    obtain ⟨a, vs, rfl, h1, _⟩ := h
    rcases h1 with ⟨o, h1⟩ | h1 | ⟨o, its, n, q1, q2, _⟩
    · exact .base (.frz h1)
    · rcases h1 with h1 | ⟨o, h1⟩ <;> cases h1
    · exact .kList q1 q2
  | obj n =>
    obtain ⟨a, rfl, ha⟩ := h
    dsimp only [tyD] at e
    split at e
    · rename_i ds e'
      cases e
      obtain ⟨vs, h1, _⟩ := s.ob n a _ ha e'
      exact .base (.lst h1)
    · rename_i ds e'
      cases e
      obtain ⟨o, vs, h1, _⟩ := s.ob n a _ ha e'
      exact .base (.frz h1)
    · rename_i ds e'
      cases e
      obtain ⟨vs, h1, _⟩ := s.ob n a _ ha e'
      exact .base (.dK h1)
    · cases e
  | fn => cases e
  | ty => cases e
  | ev => exact h.elim
theorem oe_isi (c : Ck g X W) (T : Ty) {a : Expr} {Fa : DE} {x : Str} {p p2 pos : Pos} (ha : OE g X W a Fa) (hv : bootBuiltins x = some (.type T.nm)) (hb : bootBuiltins "isinstance" = some (.builtin "isinstance")) (hm1 : g.mg "isinstance" = none) (hm2 : g.mg x = none) (hg1 : L2.Gl X "isinstance" := by rfl) (hg2 : L2.Gl X x := by rfl)
    (hn : x ≠ "__name__" := by decide) (hdb : (x == ("__debug__" : Str)) = false := by decide) (he : starEach [a, .Name x p2] X.env = (false, eval a X.env) :: starEach [.Name x p2] X.env := by rfl) :
    OE g X W (.Call (.Name "isinstance" p) [a, .Name x p2] [] pos) (e1 (isiD T) Fa) :=
  ofE (pe_callB call_isi hg1 (by rw [c.hmg]; exact hm1) hb (pa_cons ha (pa_cons (pe_bltn (v := .ty T.nm) hg2 (by rw [c.hmg]; exact hm2) hv rfl hn hdb) pa_nil (by rfl)) he) (by decide) (by decide) he (by rfl)) fun σ H Q ⟨α, env, st, hE, hS, p⟩ => by
    refine tE.run hE hS (p.bind.imp fun d1 st1 α1 H1 x1 s1 q v1 r1 => ?_)
    unfold isiD at q
    split at q
    · rename_i t e
      refine ⟨v1, .ty T.nm, .type t.nm, .type T.nm, _, rfl, .ty _, by rw [c.hK]; exact tyX s1 r1 e, kit_ty (isi_kit t T), q.ok s1 _ rfl⟩
    · exact q.elim
/-- a value of the module's top -/
theorem oe_glob (c : Ck g X W) {x : Str} {v : V} {u : Value} {d : D} {pos : Pos} (hm : g.mg x = some u) (r : RelV v u) (rd : ∀ α H, RD g α H d v) (hg : L2.Gl X x := by rfl) (hd : (x == ("__debug__" : Str)) = false := by decide) : OE g X W (.Name x pos) (eC d) :=
  oe_c (pe_glob hg (by rw [c.hmg]; exact hm) r hd) rd
end

/-! ### methods of built-ins -/
def hasT : String → D → Sto → Bool
  | "str", .str _, _ => true
  | "list", .obj n, st => (seqOf st n).isSome
  | "list", .kl _, _ => true
  | "dict", .obj n, st => (match st[n]? with | some (.dic _) => true | _ => false)
  | _, _, _ => false
def eMt (T : String) (o : D → List D → Sto → R D) (Fo : DE) (G : DA) : DE := fun env st => (Fo env st).bind fun a st1 => if hasT T a st1 = true then (G env st1).bind fun ds st2 => o a ds st2 else .stuck
def eMt0 (T : String) (o : D → List D → Sto → R D) (Fo : DE) : DE := fun env st => (Fo env st).bind fun a st1 => if hasT T a st1 = true then o a [] st1 else .stuck
def Mt (g : Gd) (X : Cx) (W : WX) (id : String) (o : D → List D → Sto → R D) : Prop :=
  ∀ (σ : L2.St) (α : List Addr) (H : Hp) (st : Sto) (a : D) (x : V) (ds : List D) (vs : List V) (Q : VK), StR g α st H → RD g α H a x → RDs g α H ds vs → PD g W σ α H (o a ds st) Q → ∃ r, MtR X id r ∧ r x vs H Q
theorem anyM {X : Cx} {id : String} : MtR X id (fun x xs H Q => ∃ r, MtR X id r ∧ r x xs H Q) := fun pins s σ H x xs v us Q I rx r ⟨_, h, q⟩ => h pins s σ H x xs v us Q I rx r q
section
variable {g : Gd} {X : Cx} {W : WX} {α : List Addr} {H : Hp} {st : Sto}
theorem hasT_v (s : StR g α st H) {T : String} {d : D} {v : V} (h : RD g α H d v) (e : hasT T d st = true) : tyV g.K T v H := by
  unfold hasT at e
  split at e
  · cases h; rfl
  · rw [Option.isSome_iff_exists] at e
    obtain ⟨ds, e⟩ := e
    obtain ⟨a, vs, rfl, _, h1, _⟩ := s.seq h e
    exact .inl ⟨rfl, vs, h1⟩
  · obtain ⟨a, vs, rfl, h1, _⟩ := h
    exact .inl ⟨rfl, vs, h1.sq⟩
  · split at e
    · rename_i kvs e'
      obtain ⟨a, rfl, ha⟩ := h
      obtain ⟨vs, h1, _⟩ := s.ob _ a _ ha e'
      exact .inr (.inr (.inl ⟨rfl, .inl ⟨vs, h1⟩⟩))
    · cases e
  · cases e
variable {e ob : Expr} {es : List Expr} {G : DA} {Fo : DE} {o : D → List D → Sto → R D} {T id : String} {name : Str} {apos cpos : Pos}
theorem oe_mt (c : Ck g X W) (pa : PlainAttrs T) (slot : Slot T name id) (hty : typeOf (.builtin id) = pure (.type "method_descriptor")) (hm : Mt g X W id o) (ho : OE g X W ob Fo) (ha : OA g X W (e :: es) G)
    (hbase : attributeBase ob name X.env (eval ob X.env) = eval ob X.env := by rfl)
    (hfew : ((backTo cpos (starEach (e :: es) X.env)).all (fun x => !x.1) && (backToKw cpos (keywordEach [] X.env)).all (fun x => x.1.isSome)
      && decide ((e :: es).length + ([] : List Keyword).length + (if ([] : List Keyword).isEmpty then 0 else 1) < 30)) = true := by rfl)
    (hline : (apos.endLine == cpos.line) = true := by rfl) (hs : starEach (e :: es) X.env = (false, eval e X.env) :: starEach es X.env := by rfl) (hpl : (backTo cpos (starEach es X.env)).any (·.1) = false := by rfl) :
    OE g X W (.Call (.Attribute ob name apos) (e :: es) [] cpos) (eMt T o Fo G) :=
  ofE (pe_bm pa slot hty anyM ho ha hbase hfew hline hs hpl) fun σ H Q ⟨α, env, st, hE, hS, p⟩ => by
    refine tE.run hE hS (p.bind.imp fun d1 st1 α1 H1 x1 s1 q v1 r1 => ?_)
    split at q
    · rename_i ht
      refine ⟨by rw [c.hK]; exact hasT_v s1 r1 ht, ?_⟩
      exact tA.run (hE.mono x1) s1 (q.bind.imp fun ds st2 α2 H2 x2 s2 q2 vs r2 => hm σ α2 H2 st2 d1 v1 ds vs Q s2 (r1.mono x2) r2 q2)
    · exact q.elim
theorem oe_mt0 (c : Ck g X W) (pa : PlainAttrs T) (slot : Slot T name id) (hty : typeOf (.builtin id) = pure (.type "method_descriptor")) (hm : Mt g X W id o) (ho : OE g X W ob Fo)
    (hbase : attributeBase ob name X.env (eval ob X.env) = eval ob X.env := by rfl) (hline : (apos.endLine == cpos.line) = true := by rfl) : OE g X W (.Call (.Attribute ob name apos) [] [] cpos) (eMt0 T o Fo) :=
  ofE (pe_bm0 pa slot hty anyM ho hbase hline) fun σ H Q ⟨α, env, st, hE, hS, p⟩ => by
    refine tE.run hE hS (p.bind.imp fun d1 st1 α1 H1 x1 s1 q v1 r1 => ?_)
    split at q
    · rename_i ht
      exact ⟨by rw [c.hK]; exact hasT_v s1 r1 ht, hm σ α1 H1 st1 d1 v1 [] [] Q s1 r1 RDs.nil q⟩
    · exact q.elim
/-- one argument, a new list -/
theorem oe_mtL (c : Ck g X W) (pa : PlainAttrs T) (slot : Slot T name id) (hty : typeOf (.builtin id) = pure (.type "method_descriptor"))
    (hm : ∀ (σ : L2.St) (α : List Addr) (H : Hp) (st : Sto) (a : D) (x : V) (ds : List D) (b : Addr) (vs : List V) (Q : VK), StR g α st H → RD g α H a x → H b = some (.lst vs) → b ∉ α → RDs g α H ds vs → PD g W σ α H (o a ds st) Q → ∃ r, MtR X id r ∧ r x [.ref b] H Q) (ho : OE g X W ob Fo) (ha : OL g X W e G)
    (hbase : attributeBase ob name X.env (eval ob X.env) = eval ob X.env := by rfl)
    (hfew : ((backTo cpos (starEach [e] X.env)).all (fun x => !x.1) && (backToKw cpos (keywordEach [] X.env)).all (fun x => x.1.isSome)
      && decide ([e].length + ([] : List Keyword).length + (if ([] : List Keyword).isEmpty then 0 else 1) < 30)) = true := by rfl)
    (hline : (apos.endLine == cpos.line) = true := by rfl) (hs : starEach [e] X.env = (false, eval e X.env) :: starEach [] X.env := by rfl) (hpl : (backTo cpos (starEach [] X.env)).any (·.1) = false := by rfl) :
    OE g X W (.Call (.Attribute ob name apos) [e] [] cpos) (eMt T o Fo G) :=
  ofE (pe_bm pa slot hty anyM ho (pa_cons ha pa_nil hs) hbase hfew hline hs hpl) fun σ H Q ⟨α, env, st, hE, hS, p⟩ => by
    refine tE.run hE hS (p.bind.imp fun d1 st1 α1 H1 x1 s1 q v1 r1 => ?_)
    split at q
    · rename_i ht
      refine ⟨by rw [c.hK]; exact hasT_v s1 r1 ht, ?_⟩
      exact ⟨α1, env, st1, hE.mono x1, s1, q.bind.imp fun ds st2 α2 H2 x2 s2 q2 b vs _ hnb hb r2 => hm σ α2 H2 st2 d1 v1 ds b vs Q s2 (r1.mono x2) hb hnb r2 q2⟩
    · exact q.elim
end
def appendM : D → List D → Sto → R D
  | .obj n, [d], st => match st[n]? with | some (.lst ds) => if ds.length < sizeLine then .ok .non (st.set n (.lst (ds ++ [d]))) else .stuck | _ => .stuck
  | _, _, _ => .stuck
def extendM : D → List D → Sto → R D
  | .obj n, [.obj m], st => match st[n]?, st[m]? with | some (.lst ds), some (.lst es) => if ds.length + es.length ≤ sizeLine then .ok .non (st.set n (.lst (ds ++ es))) else .stuck | _, _ => .stuck
  | _, _, _ => .stuck
def findM : D → List D → Sto → R D
  | .str a, [.str b], st => .ok (.int (Txt.find a b)) st
  | _, _, _ => .stuck
def lowerM : D → List D → Sto → R D
  | .str a, [], st => if a.length ≤ 5592405 then .ok (.str (Txt.lower a)) st else .stuck
  | _, _, _ => .stuck
def upperM : D → List D → Sto → R D
  | .str a, [], st => if a.length ≤ 5592405 then .ok (.str (Txt.upper a)) st else .stuck
  | _, _, _ => .stuck
def joinL : D → List D → Sto → R D
  | .str a, ds, st => match allO toS ds with | some ys => if (ys.map (·.length)).sum + ys.length * a.length ≤ 16777216 then .ok (.str (Txt.join a ys)) st else .stuck | none => .stuck
  | _, _, _ => .stuck
def firstAt (y : V) : List V → Nat → Option Nat
  | [], _ => none
  | z :: zs, k => if eqV z y = true then some k else firstAt y zs (k + 1)
def indexM : D → List D → Sto → R D
  | a, [d], st => (match (match a with | .obj n => seqOf st n | .kl ds => some ds | _ => none) with
    | some ds => (match toV d, allO toV ds with | some y, some ys => (match firstAt y ys 0 with | some j => .ok (.int (j : Nat)) st | none => .stuck) | _, _ => .stuck)
    | none => .stuck)
  | _, _, _ => .stuck
section
variable {g : Gd} {X : Cx} {W : WX}
theorem mtr {id : String} {r : V → List V → Hp → VK → Prop} (h : MtM X id r) : MtR X id r := h
theorem mt_appendD : Mt g X W "list.append" appendM := by
  intro σ α H st a x ds vs Q s ra rs p
  unfold appendM at p
  split at p
  · split at p
    · split at p
      · rename_i n d xs e hl
        obtain ⟨a1, ws, rfl, ha, h1, r1⟩ := s.lst ra e
        obtain ⟨v, rfl, rv⟩ := rs.one
        have ex : Ext α H α (upd H a1 (.lst (ws ++ [v]))) := ext_write s ha ⟨_, h1, fun _ z => (nomatch z), fun _ _ z => (nomatch z)⟩
        refine ⟨_, mtr mt_append, a1, ws, v, rfl, rfl, h1, by rw [← r1.length]; exact hl, ?_⟩
        exact p α _ ex (s.write ha ex ⟨_, upd_same, (r1.append (.cons rv .nil)).mono ex⟩) _ rfl
      · exact p.elim
    · exact p.elim
  · exact p.elim
theorem mt_extendD : Mt g X W "list.extend" extendM := by
  intro σ α H st a x ds vs Q s ra rs p
  unfold extendM at p
  split at p
  · split at p
    · split at p
      · rename_i n m xs ys e e2 hl
        obtain ⟨a1, ws, rfl, ha, h1, r1⟩ := s.lst ra e
        obtain ⟨v, rfl, rv⟩ := rs.one
        obtain ⟨a2, us, rfl, _, h2, r2⟩ := s.lst rv e2
        have ex : Ext α H α (upd H a1 (.lst (ws ++ us))) := ext_write s ha ⟨_, h1, fun _ z => (nomatch z), fun _ _ z => (nomatch z)⟩
        refine ⟨_, mtr mt_extend, a1, a2, ws, us, rfl, rfl, h1, h2, by rw [← r1.length, ← r2.length]; exact hl, ?_⟩
        exact p α _ ex (s.write ha ex ⟨_, upd_same, (r1.append r2).mono ex⟩) _ rfl
      · exact p.elim
    · exact p.elim
  · exact p.elim
theorem mt_findD : Mt g X W "str.find" findM := by
  intro σ α H st a x ds vs Q s ra rs p
  unfold findM at p
  split at p
  · cases ra
    obtain ⟨v, rfl, rv⟩ := rs.one
    cases rv
    exact ⟨_, mt_find, _, _, rfl, rfl, PD.ok p s rfl⟩
  · exact p.elim
theorem mt_lowerD : Mt g X W "str.lower" lowerM := by
  intro σ α H st a x ds vs Q s ra rs p
  unfold lowerM at p
  split at p
  · cases ra
    cases rs
    split at p
    · rename_i hl
      exact ⟨_, mt_lower, _, rfl, rfl, hl, PD.ok p s rfl⟩
    · exact p.elim
  · exact p.elim
theorem mt_upperD : Mt g X W "str.upper" upperM := by
  intro σ α H st a x ds vs Q s ra rs p
  unfold upperM at p
  split at p
  · cases ra
    cases rs
    split at p
    · rename_i hl
      exact ⟨_, mt_upper, _, rfl, rfl, hl, PD.ok p s rfl⟩
    · exact p.elim
  · exact p.elim
theorem mtl_join (c : Ck g X W) : ∀ (σ : L2.St) (α : List Addr) (H : Hp) (st : Sto) (a : D) (x : V) (ds : List D) (b : Addr) (vs : List V) (Q : VK), StR g α st H → RD g α H a x → H b = some (.lst vs) → b ∉ α → RDs g α H ds vs → PD g W σ α H (joinL a ds st) Q → ∃ r, MtR X "str.join" r ∧ r x [.ref b] H Q := by
  intro σ α H st a x ds b vs Q s ra hb _ rs p
  unfold joinL at p
  split at p
  · cases ra
    split at p
    · rename_i ys e
      split at p
      · rename_i hl
        cases toSs rs e
        exact ⟨_, mt_join, _, b, ys, rfl, rfl, .inl (.inl (.inl hb)), hl, PD.ok p s rfl⟩
      · exact p.elim
    · exact p.elim
  · exact p.elim
theorem firstAt_ok {y : V} : ∀ {ys : List V} {k j : Nat}, firstAt y ys k = some j → k ≤ j ∧ (∃ z, ys[j - k]? = some z ∧ eqV z y = true) ∧ ∀ (m : Nat) (z' : V), m < j - k → ys[m]? = some z' → eqV z' y = false
  | [], k, j, h => by cases h
  | z :: zs, k, j, h => by
    rw [firstAt] at h
    split at h
    · rename_i e
      cases h
      exact ⟨Nat.le_refl _, ⟨z, by simp, e⟩, fun m z' hm => by omega⟩
    · rename_i e
      obtain ⟨h1, ⟨z', h2, h3⟩, h4⟩ := firstAt_ok h
      have ej : j - k = (j - (k + 1)) + 1 := by omega
      refine ⟨by omega, ⟨z', by rw [ej]; simpa using h2, h3⟩, fun m z'' hm hz => ?_⟩
      cases m with
      | zero => simp at hz; subst hz; simpa using e
      | succ m => exact h4 m z'' (by omega) (by simpa using hz)
theorem mt_indexD (c : Ck g X W) : Mt g X W "list.index" indexM := by
  intro σ α H st a x ds vs Q s ra rs p
  unfold indexM at p
  split at p
  · rename_i d
    obtain ⟨v, rfl, rv⟩ := rs.one
    have fin : ∀ {es : List D} {b : Addr} {ws : List V}, x = .ref b → SqL g.K H b ws → RDs g α H es ws → PD g W σ α H (match toV d, allO toV es with | some y, some ys => (match firstAt y ys 0 with | some j => .ok (.int (j : Nat)) st | none => .stuck) | _, _ => .stuck) Q → ∃ r, MtR X "list.index" r ∧ r x [v] H Q := fun {es b ws} hx hs r2 p => by
      split at p
      · rename_i y ys e1 e2
        split at p
        · rename_i j e3
          obtain ⟨_, ⟨z, h2, h3⟩, h4⟩ := firstAt_ok e3
          obtain ⟨rfl, f1⟩ := toV_ok rv e1
          obtain ⟨rfl, f2⟩ := toVs_ok r2 e2
          exact ⟨_, mt_index, b, _, _, j, z, hx, rfl, by rw [c.hK]; exact hs, f1, f2, h2, h3, h4, PD.ok p s rfl⟩
        · exact p.elim
      · exact p.elim
    split at p
    · rename_i es e
      cases a <;> first | cases e | skip
      · obtain ⟨b, ws, rfl, _, h1, r2⟩ := s.seq ra e
        exact fin rfl h1 r2 p
      · obtain ⟨b, ws, rfl, h1, r2⟩ := ra
        exact fin rfl h1.sq r2 p
    · exact p.elim
  · exact p.elim
end

/-! ### defs -/
abbrev Fam := Nat → List D → Sto → R D
structure FG (g : Gd) (k : Nat) (f : Addr) (fd : FuncData) (ps : List Str) (sp : Sp) : Prop where
  len : ∀ vs H Q E, sp vs H Q E → vs.length = ps.length
  run : ∀ (A : Around) (fr : List PySem.Env) (s : Shared) (H : Hp) (as : Args) (us : List Value) (vs : List V) (Q : VK) (E : XK), Room k A → A.guards = some [] → Env0 g.P g.w g.K g.mg g.base A fr s H →
    BindsTo s fd as (ps.zip us) → Vals vs us → sp vs H Q E → codeAny (model g.P g.w) A (.call (.ref f) as) (CR (L2.CX g.P g.w) fr g.P g.w H s Q E) s
def spD (g : Gd) (np : Nat) (φ : List D → Sto → R D) : Sp := fun vs H Q E => ∃ α st ds, StR g α st H ∧ RDs g α H ds vs ∧ ds.length = np ∧ Post g (fun cls d _ H' => E cls d H') [] α H (φ ds st) fun d _ α' H' => ∀ v, RD g α' H' d v → Q v H'
def runB (n : Nat) (B : DS) (ds : List D) (st : Sto) : R D := match B (ds.map some ++ List.replicate (n - ds.length) none) st with
  | .rt d st1 => .ok d st1
  | .nx _ st1 => .ok .non st1
  | .exc c fs _ st1 => .exc c fs st1
  | _ => .stuck
section
variable {g : Gd} {X : Cx} {W : WX} {k : Nat} {f : Addr} {fd : FuncData} {ps : List Str} {sp : Sp}
theorem FG.mono {j : Nat} (F : FG g j f fd ps sp) (h : j ≤ k) : FG g k f fd ps sp := ⟨F.len, fun A fr s H as us vs Q E hr => F.run A fr s H as us vs Q E (hr.mono h)⟩
theorem FG.call (c : Ck g X W) {pins : List (Addr × Obj)} {σ : L2.St} {H : Hp} {s : Shared} {Q : VK} {us : List Value} {vs : List V} (F : FG g k f fd ps sp) (hr : Room k X.A) (hb : Binds g.K fd ps []) (I : L2.Inv X pins σ H s) (r : Vals vs us)
    (h : sp vs H Q fun cls d H' => W cls d σ H') : wpAny (model X.prog X.w) X.A (PySem.call (.ref f) us) (EP X pins σ Q) X.xe s := by
  have hl : us.length = ps.length := r.length.symm.trans (F.len _ _ _ _ h)
  have hk : g.K.In s.heap := by rw [← c.hK]; exact I.kIn
  have bb := hb s us hk (by rw [List.append_nil]; exact hl)
  rw [List.append_nil] at bb
  have e0 := I.env0
  have go := F.run X.A X.stack s H ⟨us, []⟩ us vs Q (fun cls d H' => W cls d σ H') hr c.gd (by rw [← c.hP, ← c.hw, ← c.hK, ← c.hmg, ← c.hb]; exact e0) bb r h
  rw [← c.hP, ← c.hw] at go
  refine wpAny_call (codeAny_mono go fun res s' hq => ?_)
  match res, hq with
  | .error e, hq => exact c.tk e s' (XE.of_call I (fun _ _ _ z => z) hq)
  | .ok (.ret u), hq => exact I.after hq
  | .ok .next, hq => exact False.elim hq
  | .ok .brk, hq => exact False.elim hq
  | .ok .cont, hq => exact False.elim hq
theorem oe_call (c : Ck g X W) {np : Nat} {φ : List D → Sto → R D} (F : FG g k f fd ps (spD g np φ)) (hr : Room k X.A) {x : Str} {p pos : Pos} {e : Expr} {es : List Expr} {G : DA} (hm : g.mg x = some (.ref f)) (hk : PySem.W.keepIn g.K (.ref f) = true) (hb : Binds g.K fd ps [])
    (ha : OA g X W (e :: es) G) (hn : (e :: es).length = np := by rfl) (hgl : ∀ env st ds st1, G env st = .ok ds st1 → ds.length = np) (hg : L2.Gl X x := by rfl) (hdb : (x == ("__debug__" : Str)) = false := by decide) (he : starEach (e :: es) X.env = (false, eval e X.env) :: starEach es X.env := by rfl)
    (hpl : (backTo pos (starEach es X.env)).any (·.1) = false := by rfl) : OE g X W (.Call (.Name x p) (e :: es) [] pos) (eCall φ G) := by
  refine ⟨fun pins s σ H Q I ⟨α, env, st, hE, hS, p⟩ => ?_⟩
  have step : tA g W G σ H fun vs H1 => spD g np φ vs H1 Q fun cls d H' => W cls d σ H' := by
    refine tA.run hE hS ?_
    have pb := p.bind
    cases hG : G env st with
    | stuck => rw [hG] at pb; exact pb.elim
    | exc cc fs st1 => rw [hG] at pb; exact pb
    | ok ds st1 =>
      rw [hG] at pb
      intro α1 H1 x1 s1 vs r
      refine ⟨α1, st1, ds, s1, r, hgl _ _ _ _ hG, ?_⟩
      have q : Post g W σ α1 H1 (φ ds st1) fun d _ α' H' => ∀ v, RD g α' H' d v → Q v H' := pb α1 H1 x1 s1
      cases hφ : φ ds st1 with
      | stuck => rw [hφ] at q; exact q.elim
      | exc cc fs st2 => rw [hφ] at q; exact q
      | ok d st2 => rw [hφ] at q; exact q
  refine wpAny_Call_Name_kw (ld_glob I hg (by rw [c.hmg]; exact hm) ?_ hdb)
  refine PySem.W.callWith_K (h₀ := X.base) I.ok.mod.kin (by rw [c.hK]; exact hk) (thn (L2.PA.run ha pos pins s σ H _ I step) fun us s1 ⟨vs, H1, I1, r, q⟩ => ⟨I1.kIn, ?_⟩) he hpl
  exact F.call c hr hb I1 r q
theorem aNil_len : ∀ env st ds st1, aNil env st = .ok ds st1 → ds.length = 0 := fun _ _ _ _ h => by cases h; rfl
theorem aCons_len {F : DE} {G : DA} {n : Nat} (h : ∀ env st ds st1, G env st = .ok ds st1 → ds.length = n) : ∀ env st ds st1, aCons F G env st = .ok ds st1 → ds.length = n + 1 := fun env st ds st1 e => by
  unfold aCons at e
  cases hF : F env st with
  | stuck => rw [hF] at e; cases e
  | exc c fs st => rw [hF] at e; cases e
  | ok d st2 =>
    rw [hF] at e
    simp only [R.bind_ok] at e
    cases hG : G env st2 with
    | stuck => rw [hG] at e; cases e
    | exc c fs st => rw [hG] at e; cases e
    | ok ds2 st3 =>
      rw [hG] at e
      cases e
      simp [h _ _ _ _ hG]
end
end Mi

namespace Mi
open PySem PySem.Spec PyProof.Rows L2

section
variable {g : Gd}
/-- the place of a def's body -/
abbrev cxD (g : Gd) (N : List Str) (qual : Str) (sc : Scope) (f : Addr) (cdv : Value) (A : Around) (fr : List PySem.Env) (s : Shared) (H : Hp) (E : XK) : Cx := cxOf (L2.CX g.P g.w) g.P g.w g.K g.mg g.base N qual sc f cdv A fr s H E
abbrev wE (E : XK) : WX := fun cls d _ H' => E cls d H'
theorem start_r {α : List Addr} {H : Hp} {N : List Str} {ds : List D} {vs : List V} (r : RDs g α H ds vs) (hl : ds.length ≤ N.length) : EnvR g α H (ds.map some ++ List.replicate (N.length - ds.length) none) (L2.start N vs) := by
  have e := r.length
  refine ⟨by simp [L2.start, e], fun i d h => ?_⟩
  by_cases hi : i < ds.length
  · rw [List.getElem?_append_left (by simpa using hi), List.getElem?_map] at h
    cases q : ds[i]? with
    | none => rw [q] at h; cases h
    | some x =>
      rw [q] at h
      cases h
      obtain ⟨v, h1, h2⟩ := r.get q
      refine ⟨v, ?_, h2⟩
      unfold L2.start
      rw [List.getElem?_append_left (by rw [List.length_map, ← e]; exact hi), List.getElem?_map, h1]
      rfl
  · rw [List.getElem?_append_right (by simpa using hi), List.getElem?_replicate] at h
    split at h <;> cases h
theorem fg_of {x qual : Str} {st : Stmt} {f : Addr} {fd : FuncData} {N ps : List Str} {k np : Nat} {B : DS} (F : Fun g.K x qual st f fd) (S : FnScope N ps (defScope st)) (hnp : ps.length = np) (hN : np ≤ N.length)
    (body : ∀ (cdv : Value) (A : Around) (fr : List PySem.Env) (s : Shared) (H : Hp) (E : XK), Ck g (cxD g N qual (defScope st) f cdv A fr s H E) (wE E) → Room k (cxD g N qual (defScope st) f cdv A fr s H E).A →
      OSs g (cxD g N qual (defScope st) f cdv A fr s H E) (wE E) (defBody st) B) : FG g (k + 1) f fd ps (spD g np (runB N.length B)) := by
  obtain ⟨oc, od, kV, doc, pm, an, cdv, ct, osl, rfl, lk, hcd⟩ := F.ex
  have ln : ∀ vs H Q E, spD g np (runB N.length B) vs H Q E → vs.length = ps.length := fun vs H Q E ⟨α, st, ds, _, r, e, _⟩ => by rw [← r.length, e, hnp]
  refine ⟨ln, fun A fr s H as us vs Q E hr hgd e0 hb r hsp => ?_⟩
  have hl := ln _ _ _ _ hsp
  have kin : g.K.In s.heap := e0.mod.kin.keeps fun b o e => (e0.bs b o e).1
  have lim : s.heap.NoLimit := e0.mod.nolimit.keeps fun b o e => (e0.bs b o e).1
  have kinds : ∀ y ∈ ps.zip us, (defScope st).names.lookup y.1 = some .local ∨ ((defScope st).names.lookup y.1 = some .cell ∧ ((cellsFrom (s.heap.objs.size + 1) (defScope st).names []).lookup y.1).isSome = true) := by
    rintro ⟨n, v⟩ hy
    rcases S.par n (List.of_mem_zip hy).1 with q | q
    · exact .inl q
    · exact .inr ⟨q, PySem.W.cellsFrom_some _ _ _ (.inl q)⟩
  refine codeAny_call_function hr.depth (kin _ _ lk) rfl S.co S.gen rfl (PySem.W.codeRec_of kin hcd) (hb _ _ _ _ ?_)
  refine wpAny_newFunctionEnv_cells S.kind kinds fun env he s1 xx => ?_
  subst he
  refine ⟨lim.keeps xx.toInCall.keep, codeAny_func ?_⟩
  have rm := hr.deeper (envOfC qual (defScope st) s.heap.objs.size f cdv)
  have ck : Ck g (cxD g N qual (defScope st) f cdv A fr s H E) (wE E) :=
    ⟨rfl, rfl, rfl, rfl, rfl, rfl, S.nd, takes_of rfl rfl rfl rfl, hgd, by have := rm.un; show (A.deeper (envOfC qual (defScope st) s.heap.objs.size f cdv)).units + 200 < cLine; omega, passes_of rfl⟩
  have ob := body cdv A fr s H E ck rm
  have I : L2.Inv (cxD g N qual (defScope st) f cdv A fr s H E) [] (L2.start N vs) H s1 := inv_start S hr.hd e0 hl r xx
  have fin : ∀ {σ' : L2.St} {H' : Hp} {s' : Shared} {v : V} {u : Value}, L2.Inv (cxD g N qual (defScope st) f cdv A fr s H E) [] σ' H' s' → RelV v u → Q v H' → CE fr g.P g.w H s Q u s' :=
    fun {σ' H' s' v u} J rv q => ⟨v, H', J.os, J.bare, J.base, J.hok, rv, q⟩
  obtain ⟨α, sto, ds, hS, rd, el, post⟩ := hsp
  have goal : tS g (wE E) B { nx := fun _ H' => Q .non H', rt := Q } (L2.start N vs) H := by
    refine ⟨α, _, sto, start_r rd (by rw [el]; exact hN), hS, ?_⟩
    unfold runB at post
    cases hB : B (ds.map some ++ List.replicate (N.length - ds.length) none) sto with
    | nx env1 st1 => rw [hB] at post; exact fun α' H' σ' e s r => post α' H' e s .non rfl
    | rt d st1 => rw [hB] at post; exact fun α' H' v e s r => post α' H' e s v r
    | bk env1 st1 => rw [hB] at post; exact post.elim
    | ct env1 st1 => rw [hB] at post; exact post.elim
    | exc c fs env1 st1 => rw [hB] at post; exact fun α' H' cls dx σ' e s _ x => post α' H' cls dx e s x
    | stuck => rw [hB] at post; exact post.elim
  refine wpAny_mono (ob.run [] s1 (L2.start N vs) H _ I goal) (fun fl s' hs => ?_) fun e s' hs => hs
  match fl, hs with
  | .ret u, hs => obtain ⟨v, σ', H', J, rv, q⟩ := hs; exact fin J rv q
  | .next, hs => obtain ⟨σ', H', J, q⟩ := hs; exact fin (v := V.non) (u := Value.none) J rfl q
  | .brk, hs => obtain ⟨_, _, _, q⟩ := hs; exact q.elim
  | .cont, hs => obtain ⟨_, _, _, q⟩ := hs; exact q.elim
end

/-! ### the law's end -/
theorem rd_ints {g : Gd} {α : List Addr} {H : Hp} : ∀ ns : List Int, RDs g α H (ns.map .int) (ns.map V.int)
  | [] => RDs.nil
  | n :: r => RDs.cons rfl (rd_ints r)
theorem law_end {g : Gd} {mb : Str → Option Value} {k : Nat} {fa a : Addr} {fd : FuncData} {x : Str} {φ : List D → Sto → R D} {s1 : Shared} {vs : List Value} {ns : List Int}
    (kin : g.K.In s1.heap) (hns : s1.heap.Ns mainGlobals g.mg) (hb : s1.heap.Ns builtinsNs mb) (hbb : ∀ y : Str, y ≠ "__name__" → mb y = bootBuiltins y) (lim : s1.heap.NoLimit) (hs : ∃ o es ep, s1.heap.get? sysModules = some o ∧ o.data = .dict es ep) (hg : s1.gens = #[])
    (ha : s1.heap.get? a = some { cls := .type "list", data := .seq vs.toArray }) (hi : IntsAre vs ns) (hl : ns.length ≤ sizeLine) (hr : Room k callerA)
    (F : ∀ b : Heap, g.K.In b → b.Ns mainGlobals g.mg → (∃ o, b.get? sysModules = some o) → FG { g with base := b } k fa fd [x] (spD { g with base := b } 1 φ)) (bind : Binds g.K fd [x] [])
    (yes : ∃ st, φ [.kl (ns.map .int)] [] = .ok (.bl true) st) :
    codeAny (model g.P g.w) callerA (.call (.ref fa) ⟨[.ref a], []⟩) (fun r s' => r = .ok (.ret (.bool true)) ∧ OldK s1.heap s'.heap ∧ s'.os = s1.os ∧ AllBare s'.gens) s1 := by
  have vi := vals_ints hi
  have vl := hi.length
  have main : ∀ H : Hp, L2.Only H → KL g.K H a (ns.map V.int) → HOk g.P g.w H s1.heap → (∀ b, H b ≠ none → b = a ∧ g.K.lookup a = none) →
      codeAny (model g.P g.w) callerA (.call (.ref fa) ⟨[.ref a], []⟩) (fun r s' => r = .ok (.ret (.bool true)) ∧ OldK s1.heap s'.heap ∧ s'.os = s1.os ∧ AllBare s'.gens) s1 := by
    intro H only kl hok far
    have free : ∀ {b : Addr} {o : Obj} {es : Array DictEntry} {ep : Nat}, s1.heap.get? b = some o → o.data = .dict es ep → H b = none := by
      intro b o es ep e d
      cases q : H b with
      | none => rfl
      | some u =>
        obtain ⟨rfl, _⟩ := far b (by rw [q]; exact fun z => nomatch z)
        rw [ha] at e
        cases e
        cases (show Data.seq vs.toArray _ = Data.dict es ep from d)
    have ns' : ∀ {b : Addr} {m : Str → Option Value}, s1.heap.Ns b m → (hidT s1.heap H).Ns b m := fun {b m} ⟨o, es, ep, e, d, r⟩ => ⟨o, es, ep, hidT_get e (free e d), d, r⟩
    have kb : g.K.In (hidT s1.heap H) := by
      intro b o e
      refine hidT_get (kin b o e) ?_
      cases q : H b with
      | none => rfl
      | some u =>
        obtain ⟨rfl, z⟩ := far b (by rw [q]; exact fun z => nomatch z)
        rw [z] at e
        cases e
    have md : Mod g.K g.mg (hidT s1.heap H) := ⟨kb, ns' hns, ⟨mb, ns' hb, hbb⟩, let ⟨mc, h1, h2⟩ := lim; ⟨mc, ns' h1, h2⟩⟩
    have e0 : Env0 g.P g.w g.K g.mg (hidT s1.heap H) callerA [] s1 H :=
      ⟨rfl, md, fun b o e => of_hidT e, Nat.le_of_eq (hidT_size _ _), trivial, fun b z => absurd (show b ∈ ([] : List Addr) from z) List.not_mem_nil, hok, .of_eq hg⟩
    obtain ⟨st1, hy⟩ := yes
    have rd : ∀ g' : Gd, g'.K = g.K → RDs g' [] H [.kl (ns.map .int)] [.ref a] := fun g' e => by
      exact ⟨_, _, rfl, ⟨a, ns.map V.int, rfl, by rw [e]; exact kl, rd_ints ns⟩, rfl⟩
    have sp : spD { g with base := hidT s1.heap H } 1 φ [.ref a] H (fun v _ => v = .bl true) fun _ _ _ => False :=
      ⟨[], [], _, ⟨rfl, List.nodup_nil, fun n b o h => by simp at h⟩, rd _ rfl, rfl, by rw [hy]; exact fun α' H' e s v r => r⟩
    refine codeAny_mono ((F _ kb (ns' hns) (let ⟨o, es, ep, e, d⟩ := hs; ⟨o, hidT_get e (free e d)⟩)).run callerA [] s1 H ⟨[.ref a], []⟩ [.ref a] [.ref a] _ _ hr rfl e0 (bind s1 [.ref a] kin rfl) (.cons rfl .nil) sp) fun r s' h => ?_
    match r, h with
    | .error e, h => obtain ⟨_, _, _, _, _, _, _, _, _, _, _, _, z⟩ := h; exact z.elim
    | .ok .next, h => exact False.elim h
    | .ok .brk, h => exact False.elim h
    | .ok .cont, h => exact False.elim h
    | .ok (.ret u), h =>
      obtain ⟨v, H', os, bare, un, hok', r', q⟩ := h
      obtain rfl : v = .bl true := q
      obtain rfl : u = Value.bool true := r'
      refine ⟨rfl, OldK.of_keep fun b o e => ?_, os, bare⟩
      cases q : H b with
      | none => exact un.keep b o e q (fun z => absurd (show b ∈ ([] : List Addr) from z) List.not_mem_nil) List.not_mem_nil
      | some u =>
        rcases only b with z | ⟨ob, xs, z⟩
        · rw [q] at z
          cases z
        · obtain ⟨e1, _⟩ := hok b _ z
          obtain ⟨e2, _⟩ := hok' b _ (un.frzs b ob _ z)
          rw [e] at e1
          cases e1
          exact e2
  cases hk : g.K.lookup a with
  | some o =>
    have e := kin a o hk
    rw [ha] at e
    cases e
    exact main (fun _ => none) (fun _ => .inl rfl) (.inr (.inr ⟨_, vs.toArray, _, hk, rfl, rfl, rfl, by rw [List.size_toArray, vl]; exact hl, by simpa using vi⟩)) (fun b u z => nomatch (show (none : Option HO) = some u from z)) fun b z => absurd rfl z
  | none =>
    refine main (fun b => if b = a then some (.frz { cls := .type "list", data := .seq vs.toArray } (.lst (ns.map V.int))) else none) (fun b => ?_) (.inl ⟨{ cls := .type "list", data := .seq vs.toArray }, if_pos rfl⟩) (fun b u z => ?_) fun b z => ?_
    · by_cases e : b = a
      · exact .inr ⟨_, _, if_pos e⟩
      · exact .inl (if_neg e)
    · by_cases e : b = a
      · subst e
        cases (if_pos rfl).symm.trans z
        exact ⟨ha, by rw [List.length_map]; exact hl, vs, _, vi, ha⟩
      · cases (if_neg e).symm.trans z
    · by_cases e : b = a
      · exact ⟨e, hk⟩
      · exact absurd (if_neg e) z
end Mi

namespace Mi
open PySem L2

/-! ### o[i] = e -/
def setD : D → D → D → Sto → Option Sto
  | .obj n, .int k, d, st => match st[n]? with
    | some (.lst ds) => (match ixN ds.length k with | some j => some (st.set n (.lst (ds.set j d))) | none => none)
    | _ => none
  | _, _, _, _ => none
def sSub (F Fo Fi : DE) : DS := fun env st => bindS (F env st) env fun d st1 => bindS (Fo env st1) env fun o st2 => bindS (Fi env st2) env fun i st3 => match setD o i d st3 with | some st4 => .nx env st4 | none => .stuck
section
variable {g : Gd} {X : Cx} {W : WX} {pos : Pos}
theorem os_sub (c : Ck g X W) {o i e : Expr} {F Fo Fi : DE} {tp : Pos} (h : OE g X W e F) (ho : OE g X W o Fo) (hi : OE g X W i Fi)
    (ha : ∀ v, assign (.Subscript o i tp) X.env v = (do
      let ov ← holding [v] (eval o X.env)
      let iv ← holding [v, ov] (eval i X.env)
      standAt tp
      holding [v, ov, iv] (setItem ov iv v)
      release [v, ov, iv] []) := by intro _; rfl) (hs : swapsWithSole [.Subscript o i tp] e pos.line X.env = pure false := by rfl) (hw : swappedStores [.Subscript o i tp] e X.env = pure none := by rfl)
    (h1 : (assignEach [.Subscript o i tp] X.env).map (·.2) = [assign (.Subscript o i tp) X.env] := by rfl) : OS g X W (.Assign [.Subscript o i tp] e pos) (sSub F Fo Fi) :=
  ofS (ps_asg h (pg_sub ho hi set_list ha) hs hw h1) fun E σ H ⟨α, env, st, hE, hS, p⟩ => by
    refine tE.run hE hS ((p.bind hE).imp fun d st1 α1 H1 x1 s1 q v r => ?_)
    have e1 := hE.mono x1
    refine tE.run e1 s1 ((q.bind e1).imp fun o st2 α2 H2 x2 s2 q2 v2 r2 => ?_)
    have e2 := e1.mono x2
    refine tE.run e2 s2 ((q2.bind e2).imp fun i st3 α3 H3 x3 s3 q3 v3 r3 => ?_)
    split at q3
    · rename_i st4 e
      have r2' := r2.mono x3
      have r' := (r.mono x2).mono x3
      unfold setD at e
      split at e
      · split at e
        · rename_i n k d ds e'
          split at e
          · rename_i j ej
            cases e
            cases r3
            obtain ⟨a, vs, rfl, ha, h1, rl⟩ := s3.lst r2' e'
            have ex : Ext α3 H3 α3 (upd H3 a (.lst (vs.set j v))) := ext_write s3 ha ⟨_, h1, fun _ z => (nomatch z), fun _ _ z => (nomatch z)⟩
            exact ⟨a, vs, _, j, rfl, rfl, h1, by rw [← rl.length]; exact ej, q3 α3 _ σ ex (s3.write ha ex ⟨_, upd_same, (rl.set j r').mono ex⟩) ((e2.mono x3).mono ex)⟩
          · cases e
        · cases e
      · cases e
    · exact q3.elim
/-- a, b = x, y -/
def sPar (i j : Nat) (G : DA) : DS := fun env st => bindS (G env st) env fun ds st1 => match ds with | [a, b] => .nx ((env.set i (some a)).set j (some b)) st1 | _ => .stuck
theorem os_par (c : Ck g X W) {i j : Nat} {x y : Str} {a b : Expr} {G : DA} {px py pt : Pos} {kt k2 pt2} (ha : OA g X W [a, b] G) (hij : i ≠ j)
    (hw : swappedStores [.Tuple [.Name x px, .Name y py] kt pt] (.Tuple [a, b] k2 pt2) X.env = pure (some [x, y])) (hi : X.N[i]? = some x := by rfl) (hj : X.N[j]? = some y := by rfl)
    (hx : X.env.scope.names.lookup x = some .local := by rfl) (hy : X.env.scope.names.lookup y = some .local := by rfl)
    (hs : swapsWithSole [.Tuple [.Name x px, .Name y py] kt pt] (.Tuple [a, b] k2 pt2) pos.line X.env = pure false := by rfl) : OS g X W (.Assign [.Tuple [.Name x px, .Name y py] kt pt] (.Tuple [a, b] k2 pt2) pos) (sPar i j G) :=
  ofS (ps_par c.calm c.nd hi hj hij hx hy ha hw hs) fun E σ H ⟨α, env, st, hE, hS, p⟩ => by
    refine tA.run hE hS ((p.bind hE).imp fun ds st1 α1 H1 x1 s1 q vs r => ?_)
    split at q
    · obtain ⟨v, _, rfl, r1, w, _, rfl, r2, rfl⟩ := r
      exact ⟨v, w, rfl, q α1 H1 _ (Ext.refl _ _) s1 (((hE.mono x1).set i r1).set j r2)⟩
    · exact q.elim
/-! ### name op= e -/
def iaddD : D → D → Sto → R D
  | .int i, .int j, st => .ok (.int (i + j)) st
  | .str x, .str y, st => if x.length + y.length ≤ sizeLine then .ok (.str (x ++ y)) st else .stuck
  | .obj m, .obj n, st => match st[m]?, st[n]? with
    | some (.lst xs), some (.lst ys) => if xs.length + ys.length ≤ sizeLine then .ok (.obj m) (st.set m (.lst (xs ++ ys))) else .stuck
    | _, _ => .stuck
  | _, _, _ => .stuck
def isubD : D → D → Sto → R D
  | .int i, .int j, st => .ok (.int (i - j)) st
  | _, _, _ => .stuck
def imulD : D → D → Sto → R D
  | .int i, .int j, st => if (-(2 ^ 64) < i ∧ i < 2 ^ 64) ∨ (-(2 ^ 64) < j ∧ j < 2 ^ 64) then .ok (.int (i * j)) st else .stuck
  | _, _, _ => .stuck
def ifdivD : D → D → Sto → R D
  | .int i, .int j, st => if 0 < j ∧ j < 1073741824 then .ok (.int (i / j)) st else .stuck
  | _, _, _ => .stuck
theorem op_iaddD : Op2 g X W (inplaceOp .Add) iaddD := by
  refine op2_of (fun _ _ _ => rfl) (fun a _ _ => by cases a <;> rfl) ?_
  intro σ α H st a b x y Q s ra rb p
  cases a <;> cases b <;> first | exact p.elim | skip
  · cases ra; cases rb
    exact ⟨_, iop_add, _, _, rfl, rfl, p.ok s rfl⟩
  · cases ra; cases rb
    dsimp only [iaddD] at p
    split at p
    · exact ⟨_, iop_add_str, _, _, rfl, rfl, by assumption, p.ok s rfl⟩
    · exact p.elim
  · dsimp only [iaddD] at p
    split at p
    · rename_i e1 e2
      split at p
      · rename_i hl
        obtain ⟨a1, vs, rfl, ha, h1, r1⟩ := s.lst ra e1
        obtain ⟨a2, ws, rfl, _, h2, r2⟩ := s.lst rb e2
        rw [r1.length, r2.length] at hl
        have ex : Ext α H α (upd H a1 (.lst (vs ++ ws))) := ext_write s ha ⟨_, h1, fun _ z => (nomatch z), fun _ _ z => (nomatch z)⟩
        exact ⟨_, iop_ext, a1, a2, vs, ws, rfl, rfl, h1, h2, hl, p α _ ex (s.write ha ex ⟨_, upd_same, (r1.append r2).mono ex⟩) _ ⟨a1, rfl, ha⟩⟩
      · exact p.elim
    · exact p.elim
theorem op_isubD : Op2 g X W (inplaceOp .Sub) isubD := by
  refine op2_of (fun _ _ _ => rfl) (fun a _ _ => by cases a <;> rfl) ?_
  intro σ α H st a b x y Q s ra rb p
  cases a <;> cases b <;> first | exact p.elim | skip
  cases ra; cases rb
  exact ⟨_, iop_sub, _, _, rfl, rfl, p.ok s rfl⟩
theorem op_imulD : Op2 g X W (inplaceOp .Mult) imulD := by
  refine op2_of (fun _ _ _ => rfl) (fun a _ _ => by cases a <;> rfl) ?_
  intro σ α H st a b x y Q s ra rb p
  cases a <;> cases b <;> first | exact p.elim | skip
  cases ra; cases rb
  dsimp only [imulD] at p
  split at p
  · exact ⟨_, iop_mul, _, _, rfl, rfl, by assumption, p.ok s rfl⟩
  · exact p.elim
theorem op_ifdivD : Op2 g X W (inplaceOp .FloorDiv) ifdivD := by
  refine op2_of (fun _ _ _ => rfl) (fun a _ _ => by cases a <;> rfl) ?_
  intro σ α H st a b x y Q s ra rb p
  cases a <;> cases b <;> first | exact p.elim | skip
  cases ra; cases rb
  dsimp only [ifdivD] at p
  split at p
  · exact ⟨_, iop_fdiv, _, _, rfl, rfl, by assumption, p.ok s rfl⟩
  · exact p.elim
def sAug (o : D → D → Sto → R D) (i : Nat) (F : DE) : DS := fun env st => match env[i]? with
  | some (some a) => bindS (F env st) env fun b st1 => bindS (o a b st1) env fun d st2 => .nx (env.set i (some d)) st2
  | _ => .stuck
theorem os_aug (c : Ck g X W) {i : Nat} {x : Str} {e : Expr} {F : DE} {op : Operator} {o : D → D → Sto → R D} {pos' : Pos} (h : Op2 g X W (inplaceOp op) o) (he : OE g X W e F) (hi : X.N[i]? = some x := by rfl) (hx : Loc X.env.scope x := by first | exact Or.inl rfl | exact Or.inr rfl)
    (hf : X.fn x = true ∨ X.env.scope.names.lookup x = some .local := by first | exact .inl rfl | exact .inr rfl) : OS g X W (.AugAssign (.Name x pos') op e pos) (sAug o i F) :=
  ofS (ps_aug (ti := fun x y H Q => ∃ r, OpR X (inplaceOp op) r ∧ r x y H Q) c.nd hi hx he any2 hf) fun E σ H ⟨α, env, st, hE, hS, p⟩ => by
    unfold sAug at p
    split at p
    · rename_i a ea
      obtain ⟨v, h1, r1⟩ := hE.val i a ea
      refine ⟨v, h1, tE.run hE hS ((p.bind hE).imp fun b st1 α1 H1 x1 s1 q w r2 => ?_)⟩
      have e1 := hE.mono x1
      refine h σ α1 H1 st1 a b v w _ s1 (.inl (r1.mono x1)) (.inl r2) ((q.bind e1).imp fun d st2 α2 H2 x2 s2 q2 u r3 => ?_)
      exact q2 α2 H2 _ (Ext.refl _ _) s2 ((e1.mono x2).set i r3)
    · exact p.elim
/-! ### a def without arguments, called -/
theorem oe_call0 (c : Ck g X W) {k : Nat} {f : Addr} {fd : FuncData} {φ : List D → Sto → R D} (F : FG g k f fd [] (spD g 0 φ)) (hr : Room k X.A) {x : Str} {p : Pos} (hm : g.mg x = some (.ref f)) (hk : PySem.W.keepIn g.K (.ref f) = true) (hb : Binds g.K fd [] [])
    (hg : L2.Gl X x := by rfl) (hdb : (x == ("__debug__" : Str)) = false := by decide) : OE g X W (.Call (.Name x p) [] [] pos) (eCall φ aNil) := by
  refine ⟨fun pins s σ H Q I ⟨α, env, st, hE, hS, p⟩ => ?_⟩
  have sp : spD g 0 φ [] H Q fun cls d H' => W cls d σ H' := by
    refine ⟨α, st, [], hS, RDs.nil, rfl, ?_⟩
    have q : Post g W σ α H (φ [] st) fun d _ α' H' => ∀ v, RD g α' H' d v → Q v H' := p
    cases hφ : φ [] st with
    | stuck => rw [hφ] at q; exact q.elim
    | exc cc fs st2 => rw [hφ] at q; exact q
    | ok d st2 => rw [hφ] at q; exact q
  refine wpAny_Call_Name_kw (ld_glob I hg (by rw [c.hmg]; exact hm) ?_ hdb)
  exact PySem.W.callWith_K0 I.kIn (by rw [c.hK]; exact hk) (F.call (us := []) c hr hb I .nil sp)
end
/-! ### xs[::-1] -/
def revD : D → Sto → R D
  | .obj n, st => match seqOf st n with | some ds => new (.lst ds.reverse) st | none => .stuck
  | .kl ds, st => new (.lst ds.reverse) st
  | .tup ds, st => .ok (.tup ds.reverse) st
  | _, _ => .stuck
theorem RDs.rev {g : Gd} {α : List Addr} {H : Hp} : ∀ {ds : List D} {vs : List V}, RDs g α H ds vs → RDs g α H ds.reverse vs.reverse
  | [], vs, h => by cases h; exact RDs.nil
  | d :: ds, vs, h => by
    obtain ⟨v, r, rfl, h1, h2⟩ := h
    rw [List.reverse_cons, List.reverse_cons]
    exact (RDs.rev h2).append (.cons h1 .nil)
theorem oe_rev {g : Gd} {X : Cx} {W : WX} (c : Ck g X W) {e : Expr} {F : DE} {k : Nat} {p1 p2 p3 pos : Pos} (h : OE g X W e F) : OE g X W (.Subscript e (.Slice none none (some (.UnaryOp .USub (.Constant (.int 1) k p1) p2)) p3) pos) (e1 revD F) :=
  ofE (pe_revA h) fun σ H Q ⟨α, env, st, hE, hS, p⟩ => by
    refine tE.run hE hS (p.bind.imp fun d1 st1 α1 H1 x1 s1 q v1 r1 => ?_)
    unfold revD at q
    split at q
    · split at q
      · rename_i n ds e'
        obtain ⟨a, vs, rfl, _, h1, r2⟩ := s1.seq r1 e'
        rw [c.hK]
        exact ⟨a, vs, rfl, .inl ⟨h1, PD.lst q s1 r2.rev⟩⟩
      · exact q.elim
    · obtain ⟨a, vs, rfl, h1, r2⟩ := r1
      rw [c.hK]
      exact ⟨a, vs, rfl, .inl ⟨h1.sq, PD.lst q s1 r2.rev⟩⟩
    · obtain ⟨a, vs, rfl, h1, r2⟩ := r1
      rw [c.hK]
      exact ⟨a, vs, rfl, .inr ⟨h1, PD.tup q s1 r2.rev⟩⟩
    · exact q.elim
/-- the levels of calls -/
def Phi (p : Fam → Fam) : Nat → Fam
  | 0 => fun _ _ _ => .stuck
  | n + 1 => p (Phi p n)
theorem Phi_succ (p : Fam → Fam) (n : Nat) : Phi p (n + 1) = p (Phi p n) := rfl
theorem fg_none {g : Gd} {k : Nat} {f : Addr} {fd : FuncData} {ps : List Str} {np : Nat} : FG g k f fd ps (spD g np fun _ _ => .stuck) :=
  ⟨fun _ _ _ _ ⟨_, _, _, _, _, _, p⟩ => p.elim, fun _ _ _ _ _ _ _ _ _ _ _ _ _ _ ⟨_, _, _, _, _, _, p⟩ => p.elim⟩
end Mi

/-! Mi: a denotation at its arguments (for simp): what comes first is reckoned first. -/
namespace Mi
open PySem L2
def seqS (r : RS) (B : DS) : RS := match r with | .nx env st => B env st | r => r
@[simp] theorem seqS_nx {env : Env} {st : Sto} {B : DS} : seqS (.nx env st) B = B env st := rfl
@[simp] theorem seqS_rt {d : D} {st : Sto} {B : DS} : seqS (.rt d st) B = .rt d st := rfl
@[simp] theorem seqS_bk {env : Env} {st : Sto} {B : DS} : seqS (.bk env st) B = .bk env st := rfl
@[simp] theorem seqS_ct {env : Env} {st : Sto} {B : DS} : seqS (.ct env st) B = .ct env st := rfl
@[simp] theorem seqS_exc {c fs} {env : Env} {st : Sto} {B : DS} : seqS (.exc c fs env st) B = .exc c fs env st := rfl
@[simp] theorem seqS_stuck {B : DS} : seqS .stuck B = .stuck := rfl
/-- a loop's turn and what follows -/
def turnS (r : RS) (B : Env → Sto → RS) : RS := match r with | .nx env st => B env st | .ct env st => B env st | .bk env st => .nx env st | r => r
@[simp] theorem turnS_nx {env : Env} {st : Sto} {B : Env → Sto → RS} : turnS (.nx env st) B = B env st := rfl
@[simp] theorem turnS_ct {env : Env} {st : Sto} {B : Env → Sto → RS} : turnS (.ct env st) B = B env st := rfl
@[simp] theorem turnS_bk {env : Env} {st : Sto} {B : Env → Sto → RS} : turnS (.bk env st) B = .nx env st := rfl
@[simp] theorem turnS_rt {d : D} {st : Sto} {B : Env → Sto → RS} : turnS (.rt d st) B = .rt d st := rfl
@[simp] theorem turnS_exc {c fs} {env : Env} {st : Sto} {B : Env → Sto → RS} : turnS (.exc c fs env st) B = .exc c fs env st := rfl
@[simp] theorem turnS_stuck {B : Env → Sto → RS} : turnS .stuck B = .stuck := rfl
def endS (r : RS) : R D := match r with | .rt d st => .ok d st | .nx _ st => .ok .non st | .exc c fs _ st => .exc c fs st | _ => .stuck
@[simp] theorem endS_rt {d : D} {st : Sto} : endS (.rt d st) = .ok d st := rfl
@[simp] theorem endS_nx {env : Env} {st : Sto} : endS (.nx env st) = .ok .non st := rfl
@[simp] theorem endS_exc {c fs} {env : Env} {st : Sto} : endS (.exc c fs env st) = .exc c fs st := rfl
theorem runB_eq {n : Nat} {B : DS} {ds : List D} {st : Sto} : runB n B ds st = endS (B (ds.map some ++ List.replicate (n - ds.length) none) st) := rfl
def varR (o : Option (Option D)) (st : Sto) : R D := match o with | some (some d) => .ok d st | _ => .stuck
@[simp] theorem varR_some {d : D} {st : Sto} : varR (some (some d)) st = .ok d st := rfl
def andT (o : Option Bool) (a : D) (Fb : DE) (env : Env) (st : Sto) : R D := match o with | some true => Fb env st | some false => .ok a st | none => .stuck
def orT (o : Option Bool) (a : D) (Fb : DE) (env : Env) (st : Sto) : R D := match o with | some true => .ok a st | some false => Fb env st | none => .stuck
def notT (o : Option Bool) (st : Sto) : R D := match o with | some b => .ok (.bl (!b)) st | none => .stuck
@[simp] theorem andT_some {b : Bool} {a : D} {Fb : DE} {env : Env} {st : Sto} : andT (some b) a Fb env st = if b = true then Fb env st else .ok a st := by cases b <;> rfl
@[simp] theorem orT_some {b : Bool} {a : D} {Fb : DE} {env : Env} {st : Sto} : orT (some b) a Fb env st = if b = true then .ok a st else Fb env st := by cases b <;> rfl
@[simp] theorem notT_some {b : Bool} {st : Sto} : notT (some b) st = .ok (.bl (!b)) st := rfl
def parS (i j : Nat) (env : Env) (ds : List D) (st : Sto) : RS := match ds with | [a, b] => .nx ((env.set i (some a)).set j (some b)) st | _ => .stuck
@[simp] theorem parS_two {i j : Nat} {env : Env} {a b : D} {st : Sto} : parS i j env [a, b] st = .nx ((env.set i (some a)).set j (some b)) st := rfl
def asB (d : D) (st : Sto) : R Bool := match d with | .bl b => .ok b st | _ => .stuck
@[simp] theorem asB_bl {b : Bool} {st : Sto} : asB (.bl b) st = .ok b st := rfl
def truR (o : Option Bool) (st : Sto) : R Bool := match o with | some b => .ok b st | none => .stuck
@[simp] theorem truR_some {b : Bool} {st : Sto} : truR (some b) st = .ok b st := rfl
def stS (o : Option Sto) (env : Env) : RS := match o with | some st => .nx env st | none => .stuck
@[simp] theorem stS_some {st : Sto} {env : Env} : stS (some st) env = .nx env st := rfl
def itR (o : Option (List D × Wat)) (st : Sto) : R (List D × Wat) := match o with | some p => .ok p st | none => .stuck
@[simp] theorem itR_some {p : List D × Wat} {st : Sto} : itR (some p) st = .ok p st := rfl
def intO (d : D) (st : Sto) : R (Option Int) := match d with | .int i => .ok (some i) st | _ => .stuck
@[simp] theorem intO_int {i : Int} {st : Sto} : intO (.int i) st = .ok (some i) st := rfl
def rng1 (ds : List D) (st : Sto) : R (List D × Wat) := match ds with
  | [.int j] => if -(2 ^ 62) ≤ j ∧ j < 2 ^ 62 then .ok (upI 0 j.toNat, []) st else .stuck
  | _ => .stuck
theorem rng1_ok {j : Int} {st : Sto} (h0 : -(2 ^ 62) ≤ j) (h : j < 2 ^ 62) : rng1 [.int j] st = .ok (upI 0 j.toNat, []) st := by
  unfold rng1; simp only; rw [if_pos ⟨h0, h⟩]
def rng2 (ds : List D) (st : Sto) : R (List D × Wat) := match ds with
  | [.int i, .int j] => if -(2 ^ 62) ≤ i ∧ i < 2 ^ 62 ∧ -(2 ^ 62) ≤ j ∧ j < 2 ^ 62 then .ok (upI i (j - i).toNat, []) st else .stuck
  | _ => .stuck
theorem rng2_ok {i j : Int} {st : Sto} (h : -(2 ^ 62) ≤ i ∧ i < 2 ^ 62 ∧ -(2 ^ 62) ≤ j ∧ j < 2 ^ 62) : rng2 [.int i, .int j] st = .ok (upI i (j - i).toNat, []) st := by
  unfold rng2; simp only; rw [if_pos h]
def enumS (d : D) (st : Sto) : R (List D × Wat) := match d with
  | .obj n => (match seqOf st n with | some ds => .ok (numb ds, [(n, ds)]) st | none => .stuck)
  | _ => .stuck
theorem enumS_ok {n : Nat} {ds : List D} {st : Sto} (h : seqOf st n = some ds) : enumS (.obj n) st = .ok (numb ds, [(n, ds)]) st := by
  unfold enumS; simp only; rw [h]
def zipS (ds : List D) (st : Sto) : R (List D × Wat) := match ds with
  | [a, b] => (match zipD a b st with | some p => .ok p st | none => .stuck)
  | _ => .stuck
@[simp] theorem zipS_tt {xs ys : List D} {st : Sto} : zipS [.tup xs, .tup ys] st = .ok (pairs xs ys, []) st := rfl
def f2b (o : D → D → Sto → R D) (a : D) (r : R D) : R D := r.bind fun b st1 => o a b st1
@[simp] theorem f2b_ok {o : D → D → Sto → R D} {a : D} {b : D} {st1 : Sto} : f2b o a (.ok b st1) = o a b st1 := rfl
@[simp] theorem f2b_st {o : D → D → Sto → R D} {a : D} : f2b o a .stuck = .stuck := rfl
@[simp] theorem f2b_ex {o : D → D → Sto → R D} {a : D} {c : Nat} {fs : List (Str × D)} {st1 : Sto} : f2b o a (.exc c fs st1) = .exc c fs st1 := rfl
def f2a (o : D → D → Sto → R D) (Fb : DE) (env : Env) (r : R D) : R D := r.bind fun b st1 => f2b o b (Fb env st1)
@[simp] theorem f2a_ok {o : D → D → Sto → R D} {Fb : DE} {env : Env} {b : D} {st1 : Sto} : f2a o Fb env (.ok b st1) = f2b o b (Fb env st1) := rfl
@[simp] theorem f2a_st {o : D → D → Sto → R D} {Fb : DE} {env : Env} : f2a o Fb env .stuck = .stuck := rfl
@[simp] theorem f2a_ex {o : D → D → Sto → R D} {Fb : DE} {env : Env} {c : Nat} {fs : List (Str × D)} {st1 : Sto} : f2a o Fb env (.exc c fs st1) = .exc c fs st1 := rfl
def f1 (o : D → Sto → R D) (r : R D) : R D := r.bind fun b st1 => o b st1
@[simp] theorem f1_ok {o : D → Sto → R D} {b : D} {st1 : Sto} : f1 o (.ok b st1) = o b st1 := rfl
@[simp] theorem f1_st {o : D → Sto → R D} : f1 o .stuck = .stuck := rfl
@[simp] theorem f1_ex {o : D → Sto → R D} {c : Nat} {fs : List (Str × D)} {st1 : Sto} : f1 o (.exc c fs st1) = .exc c fs st1 := rfl
def fEv  (r : R (List D)) : R D := r.bind fun b st1 => .ok (.ev b) st1
@[simp] theorem fEv_ok  {b : (List D)} {st1 : Sto} : fEv  (.ok b st1) = .ok (.ev b) st1 := rfl
@[simp] theorem fEv_st  : fEv  .stuck = .stuck := rfl
@[simp] theorem fEv_ex  {c : Nat} {fs : List (Str × D)} {st1 : Sto} : fEv  (.exc c fs st1) = .exc c fs st1 := rfl
def fNew  (r : R (List D)) : R D := r.bind fun b st1 => new (.lst b) st1
@[simp] theorem fNew_ok  {b : (List D)} {st1 : Sto} : fNew  (.ok b st1) = new (.lst b) st1 := rfl
@[simp] theorem fNew_st  : fNew  .stuck = .stuck := rfl
@[simp] theorem fNew_ex  {c : Nat} {fs : List (Str × D)} {st1 : Sto} : fNew  (.exc c fs st1) = .exc c fs st1 := rfl
def fDisp  (r : R (List D)) : R (List D) := r.bind fun b st1 => if b.length ≤ sizeLine then .ok b st1 else .stuck
@[simp] theorem fDisp_ok  {b : (List D)} {st1 : Sto} : fDisp  (.ok b st1) = if b.length ≤ sizeLine then .ok b st1 else .stuck := rfl
@[simp] theorem fDisp_st  : fDisp  .stuck = .stuck := rfl
@[simp] theorem fDisp_ex  {c : Nat} {fs : List (Str × D)} {st1 : Sto} : fDisp  (.exc c fs st1) = .exc c fs st1 := rfl
def fConsb (d : D) (r : R (List D)) : R (List D) := r.bind fun b st1 => .ok (d :: b) st1
@[simp] theorem fConsb_ok {d : D} {b : (List D)} {st1 : Sto} : fConsb d (.ok b st1) = .ok (d :: b) st1 := rfl
@[simp] theorem fConsb_st {d : D} : fConsb d .stuck = .stuck := rfl
@[simp] theorem fConsb_ex {d : D} {c : Nat} {fs : List (Str × D)} {st1 : Sto} : fConsb d (.exc c fs st1) = .exc c fs st1 := rfl
def fConsa (G : DA) (env : Env) (r : R D) : R (List D) := r.bind fun b st1 => fConsb b (G env st1)
@[simp] theorem fConsa_ok {G : DA} {env : Env} {b : D} {st1 : Sto} : fConsa G env (.ok b st1) = fConsb b (G env st1) := rfl
@[simp] theorem fConsa_st {G : DA} {env : Env} : fConsa G env .stuck = .stuck := rfl
@[simp] theorem fConsa_ex {G : DA} {env : Env} {c : Nat} {fs : List (Str × D)} {st1 : Sto} : fConsa G env (.exc c fs st1) = .exc c fs st1 := rfl
def fTup  (r : R (List D)) : R D := r.bind fun b st1 => if b.length ≤ sizeLine then .ok (.tup b) st1 else .stuck
@[simp] theorem fTup_ok  {b : (List D)} {st1 : Sto} : fTup  (.ok b st1) = if b.length ≤ sizeLine then .ok (.tup b) st1 else .stuck := rfl
@[simp] theorem fTup_st  : fTup  .stuck = .stuck := rfl
@[simp] theorem fTup_ex  {c : Nat} {fs : List (Str × D)} {st1 : Sto} : fTup  (.exc c fs st1) = .exc c fs st1 := rfl
def fLst  (r : R (List D)) : R D := r.bind fun b st1 => if b.length ≤ sizeLine then new (.lst b) st1 else .stuck
@[simp] theorem fLst_ok  {b : (List D)} {st1 : Sto} : fLst  (.ok b st1) = if b.length ≤ sizeLine then new (.lst b) st1 else .stuck := rfl
@[simp] theorem fLst_st  : fLst  .stuck = .stuck := rfl
@[simp] theorem fLst_ex  {c : Nat} {fs : List (Str × D)} {st1 : Sto} : fLst  (.exc c fs st1) = .exc c fs st1 := rfl
def fCall (o : List D → Sto → R D) (r : R (List D)) : R D := r.bind fun b st1 => o b st1
@[simp] theorem fCall_ok {o : List D → Sto → R D} {b : (List D)} {st1 : Sto} : fCall o (.ok b st1) = o b st1 := rfl
@[simp] theorem fCall_st {o : List D → Sto → R D} : fCall o .stuck = .stuck := rfl
@[simp] theorem fCall_ex {o : List D → Sto → R D} {c : Nat} {fs : List (Str × D)} {st1 : Sto} : fCall o (.exc c fs st1) = .exc c fs st1 := rfl
def fAnd (Fb : DE) (env : Env) (r : R D) : R D := r.bind fun b st1 => andT (truD b st1) b Fb env st1
@[simp] theorem fAnd_ok {Fb : DE} {env : Env} {b : D} {st1 : Sto} : fAnd Fb env (.ok b st1) = andT (truD b st1) b Fb env st1 := rfl
@[simp] theorem fAnd_st {Fb : DE} {env : Env} : fAnd Fb env .stuck = .stuck := rfl
@[simp] theorem fAnd_ex {Fb : DE} {env : Env} {c : Nat} {fs : List (Str × D)} {st1 : Sto} : fAnd Fb env (.exc c fs st1) = .exc c fs st1 := rfl
def fOr (Fb : DE) (env : Env) (r : R D) : R D := r.bind fun b st1 => orT (truD b st1) b Fb env st1
@[simp] theorem fOr_ok {Fb : DE} {env : Env} {b : D} {st1 : Sto} : fOr Fb env (.ok b st1) = orT (truD b st1) b Fb env st1 := rfl
@[simp] theorem fOr_st {Fb : DE} {env : Env} : fOr Fb env .stuck = .stuck := rfl
@[simp] theorem fOr_ex {Fb : DE} {env : Env} {c : Nat} {fs : List (Str × D)} {st1 : Sto} : fOr Fb env (.exc c fs st1) = .exc c fs st1 := rfl
def fNot  (r : R D) : R D := r.bind fun b st1 => notT (truD b st1) st1
@[simp] theorem fNot_ok  {b : D} {st1 : Sto} : fNot  (.ok b st1) = notT (truD b st1) st1 := rfl
@[simp] theorem fNot_st  : fNot  .stuck = .stuck := rfl
@[simp] theorem fNot_ex  {c : Nat} {fs : List (Str × D)} {st1 : Sto} : fNot  (.exc c fs st1) = .exc c fs st1 := rfl
def fTst  (r : R D) : R Bool := r.bind fun b st1 => truR (truD b st1) st1
@[simp] theorem fTst_ok  {b : D} {st1 : Sto} : fTst  (.ok b st1) = truR (truD b st1) st1 := rfl
@[simp] theorem fTst_st  : fTst  .stuck = .stuck := rfl
@[simp] theorem fTst_ex  {c : Nat} {fs : List (Str × D)} {st1 : Sto} : fTst  (.exc c fs st1) = .exc c fs st1 := rfl
def fTstB  (r : R D) : R Bool := r.bind fun b st1 => asB b st1
@[simp] theorem fTstB_ok  {b : D} {st1 : Sto} : fTstB  (.ok b st1) = asB b st1 := rfl
@[simp] theorem fTstB_st  : fTstB  .stuck = .stuck := rfl
@[simp] theorem fTstB_ex  {c : Nat} {fs : List (Str × D)} {st1 : Sto} : fTstB  (.exc c fs st1) = .exc c fs st1 := rfl
def fbAnd (C : DT) (env : Env) (r : R Bool) : R Bool := r.bind fun b st1 => if b = true then C env st1 else .ok false st1
@[simp] theorem fbAnd_ok {C : DT} {env : Env} {b : Bool} {st1 : Sto} : fbAnd C env (.ok b st1) = if b = true then C env st1 else .ok false st1 := rfl
@[simp] theorem fbAnd_st {C : DT} {env : Env} : fbAnd C env .stuck = .stuck := rfl
@[simp] theorem fbAnd_ex {C : DT} {env : Env} {c : Nat} {fs : List (Str × D)} {st1 : Sto} : fbAnd C env (.exc c fs st1) = .exc c fs st1 := rfl
def fbOr (C : DT) (env : Env) (r : R Bool) : R Bool := r.bind fun b st1 => if b = true then .ok true st1 else C env st1
@[simp] theorem fbOr_ok {C : DT} {env : Env} {b : Bool} {st1 : Sto} : fbOr C env (.ok b st1) = if b = true then .ok true st1 else C env st1 := rfl
@[simp] theorem fbOr_st {C : DT} {env : Env} : fbOr C env .stuck = .stuck := rfl
@[simp] theorem fbOr_ex {C : DT} {env : Env} {c : Nat} {fs : List (Str × D)} {st1 : Sto} : fbOr C env (.exc c fs st1) = .exc c fs st1 := rfl
def fbNot  (r : R Bool) : R Bool := r.bind fun b st1 => .ok (!b) st1
@[simp] theorem fbNot_ok  {b : Bool} {st1 : Sto} : fbNot  (.ok b st1) = .ok (!b) st1 := rfl
@[simp] theorem fbNot_st  : fbNot  .stuck = .stuck := rfl
@[simp] theorem fbNot_ex  {c : Nat} {fs : List (Str × D)} {st1 : Sto} : fbNot  (.exc c fs st1) = .exc c fs st1 := rfl
def fIf (Fa Fb : DE) (env : Env) (r : R Bool) : R D := r.bind fun b st1 => if b = true then Fa env st1 else Fb env st1
@[simp] theorem fIf_ok {Fa Fb : DE} {env : Env} {b : Bool} {st1 : Sto} : fIf Fa Fb env (.ok b st1) = if b = true then Fa env st1 else Fb env st1 := rfl
@[simp] theorem fIf_st {Fa Fb : DE} {env : Env} : fIf Fa Fb env .stuck = .stuck := rfl
@[simp] theorem fIf_ex {Fa Fb : DE} {env : Env} {c : Nat} {fs : List (Str × D)} {st1 : Sto} : fIf Fa Fb env (.exc c fs st1) = .exc c fs st1 := rfl
def fSlc (a : D) (lo : Option Int) (r : R (Option Int)) : R D := r.bind fun b st1 => slD a lo b st1
@[simp] theorem fSlc_ok {a : D} {lo : Option Int} {b : (Option Int)} {st1 : Sto} : fSlc a lo (.ok b st1) = slD a lo b st1 := rfl
@[simp] theorem fSlc_st {a : D} {lo : Option Int} : fSlc a lo .stuck = .stuck := rfl
@[simp] theorem fSlc_ex {a : D} {lo : Option Int} {c : Nat} {fs : List (Str × D)} {st1 : Sto} : fSlc a lo (.exc c fs st1) = .exc c fs st1 := rfl
def fSlb (a : D) (Fh : DO) (env : Env) (r : R (Option Int)) : R D := r.bind fun b st1 => fSlc a b (Fh env st1)
@[simp] theorem fSlb_ok {a : D} {Fh : DO} {env : Env} {b : (Option Int)} {st1 : Sto} : fSlb a Fh env (.ok b st1) = fSlc a b (Fh env st1) := rfl
@[simp] theorem fSlb_st {a : D} {Fh : DO} {env : Env} : fSlb a Fh env .stuck = .stuck := rfl
@[simp] theorem fSlb_ex {a : D} {Fh : DO} {env : Env} {c : Nat} {fs : List (Str × D)} {st1 : Sto} : fSlb a Fh env (.exc c fs st1) = .exc c fs st1 := rfl
def fSla (Fl Fh : DO) (env : Env) (r : R D) : R D := r.bind fun b st1 => fSlb b Fh env (Fl env st1)
@[simp] theorem fSla_ok {Fl Fh : DO} {env : Env} {b : D} {st1 : Sto} : fSla Fl Fh env (.ok b st1) = fSlb b Fh env (Fl env st1) := rfl
@[simp] theorem fSla_st {Fl Fh : DO} {env : Env} : fSla Fl Fh env .stuck = .stuck := rfl
@[simp] theorem fSla_ex {Fl Fh : DO} {env : Env} {c : Nat} {fs : List (Str × D)} {st1 : Sto} : fSla Fl Fh env (.exc c fs st1) = .exc c fs st1 := rfl
def fPart  (r : R D) : R (Option Int) := r.bind fun b st1 => intO b st1
@[simp] theorem fPart_ok  {b : D} {st1 : Sto} : fPart  (.ok b st1) = intO b st1 := rfl
@[simp] theorem fPart_st  : fPart  .stuck = .stuck := rfl
@[simp] theorem fPart_ex  {c : Nat} {fs : List (Str × D)} {st1 : Sto} : fPart  (.exc c fs st1) = .exc c fs st1 := rfl
def fMtb (o : D → List D → Sto → R D) (a : D) (r : R (List D)) : R D := r.bind fun b st1 => o a b st1
@[simp] theorem fMtb_ok {o : D → List D → Sto → R D} {a : D} {b : (List D)} {st1 : Sto} : fMtb o a (.ok b st1) = o a b st1 := rfl
@[simp] theorem fMtb_st {o : D → List D → Sto → R D} {a : D} : fMtb o a .stuck = .stuck := rfl
@[simp] theorem fMtb_ex {o : D → List D → Sto → R D} {a : D} {c : Nat} {fs : List (Str × D)} {st1 : Sto} : fMtb o a (.exc c fs st1) = .exc c fs st1 := rfl
def fMta (T : String) (o : D → List D → Sto → R D) (G : DA) (env : Env) (r : R D) : R D := r.bind fun b st1 => if hasT T b st1 = true then fMtb o b (G env st1) else .stuck
@[simp] theorem fMta_ok {T : String} {o : D → List D → Sto → R D} {G : DA} {env : Env} {b : D} {st1 : Sto} : fMta T o G env (.ok b st1) = if hasT T b st1 = true then fMtb o b (G env st1) else .stuck := rfl
@[simp] theorem fMta_st {T : String} {o : D → List D → Sto → R D} {G : DA} {env : Env} : fMta T o G env .stuck = .stuck := rfl
@[simp] theorem fMta_ex {T : String} {o : D → List D → Sto → R D} {G : DA} {env : Env} {c : Nat} {fs : List (Str × D)} {st1 : Sto} : fMta T o G env (.exc c fs st1) = .exc c fs st1 := rfl
def fMt0 (T : String) (o : D → List D → Sto → R D) (r : R D) : R D := r.bind fun b st1 => if hasT T b st1 = true then o b [] st1 else .stuck
@[simp] theorem fMt0_ok {T : String} {o : D → List D → Sto → R D} {b : D} {st1 : Sto} : fMt0 T o (.ok b st1) = if hasT T b st1 = true then o b [] st1 else .stuck := rfl
@[simp] theorem fMt0_st {T : String} {o : D → List D → Sto → R D} : fMt0 T o .stuck = .stuck := rfl
@[simp] theorem fMt0_ex {T : String} {o : D → List D → Sto → R D} {c : Nat} {fs : List (Str × D)} {st1 : Sto} : fMt0 T o (.exc c fs st1) = .exc c fs st1 := rfl
def fChd (o' : D → D → Sto → R D) (d : D) (r : R D) : R D := r.bind fun b st1 => o' d b st1
@[simp] theorem fChd_ok {o' : D → D → Sto → R D} {d : D} {b : D} {st1 : Sto} : fChd o' d (.ok b st1) = o' d b st1 := rfl
@[simp] theorem fChd_st {o' : D → D → Sto → R D} {d : D} : fChd o' d .stuck = .stuck := rfl
@[simp] theorem fChd_ex {o' : D → D → Sto → R D} {d : D} {c : Nat} {fs : List (Str × D)} {st1 : Sto} : fChd o' d (.exc c fs st1) = .exc c fs st1 := rfl
def fChc (o' : D → D → Sto → R D) (d : D) (Fc : DE) (env : Env) (r : R Bool) : R D := r.bind fun b st1 => if b = true then fChd o' d (Fc env st1) else .ok (.bl false) st1
@[simp] theorem fChc_ok {o' : D → D → Sto → R D} {d : D} {Fc : DE} {env : Env} {b : Bool} {st1 : Sto} : fChc o' d Fc env (.ok b st1) = if b = true then fChd o' d (Fc env st1) else .ok (.bl false) st1 := rfl
@[simp] theorem fChc_st {o' : D → D → Sto → R D} {d : D} {Fc : DE} {env : Env} : fChc o' d Fc env .stuck = .stuck := rfl
@[simp] theorem fChc_ex {o' : D → D → Sto → R D} {d : D} {Fc : DE} {env : Env} {c : Nat} {fs : List (Str × D)} {st1 : Sto} : fChc o' d Fc env (.exc c fs st1) = .exc c fs st1 := rfl
def fChb (o o' : D → D → Sto → R D) (a : D) (Fc : DE) (env : Env) (r : R D) : R D := r.bind fun b st1 => fChc o' b Fc env (fTstB (o a b st1))
@[simp] theorem fChb_ok {o o' : D → D → Sto → R D} {a : D} {Fc : DE} {env : Env} {b : D} {st1 : Sto} : fChb o o' a Fc env (.ok b st1) = fChc o' b Fc env (fTstB (o a b st1)) := rfl
@[simp] theorem fChb_st {o o' : D → D → Sto → R D} {a : D} {Fc : DE} {env : Env} : fChb o o' a Fc env .stuck = .stuck := rfl
@[simp] theorem fChb_ex {o o' : D → D → Sto → R D} {a : D} {Fc : DE} {env : Env} {c : Nat} {fs : List (Str × D)} {st1 : Sto} : fChb o o' a Fc env (.exc c fs st1) = .exc c fs st1 := rfl
def fCha (o o' : D → D → Sto → R D) (Fb Fc : DE) (env : Env) (r : R D) : R D := r.bind fun b st1 => fChb o o' b Fc env (Fb env st1)
@[simp] theorem fCha_ok {o o' : D → D → Sto → R D} {Fb Fc : DE} {env : Env} {b : D} {st1 : Sto} : fCha o o' Fb Fc env (.ok b st1) = fChb o o' b Fc env (Fb env st1) := rfl
@[simp] theorem fCha_st {o o' : D → D → Sto → R D} {Fb Fc : DE} {env : Env} : fCha o o' Fb Fc env .stuck = .stuck := rfl
@[simp] theorem fCha_ex {o o' : D → D → Sto → R D} {Fb Fc : DE} {env : Env} {c : Nat} {fs : List (Str × D)} {st1 : Sto} : fCha o o' Fb Fc env (.exc c fs st1) = .exc c fs st1 := rfl
def fIv  (r : R D) : R (List D × Wat) := r.bind fun b st1 => itR (iterD b st1) st1
@[simp] theorem fIv_ok  {b : D} {st1 : Sto} : fIv  (.ok b st1) = itR (iterD b st1) st1 := rfl
@[simp] theorem fIv_st  : fIv  .stuck = .stuck := rfl
@[simp] theorem fIv_ex  {c : Nat} {fs : List (Str × D)} {st1 : Sto} : fIv  (.exc c fs st1) = .exc c fs st1 := rfl
def fIe  (r : R (List D)) : R (List D × Wat) := r.bind fun b st1 => .ok (b, []) st1
@[simp] theorem fIe_ok  {b : (List D)} {st1 : Sto} : fIe  (.ok b st1) = .ok (b, []) st1 := rfl
@[simp] theorem fIe_st  : fIe  .stuck = .stuck := rfl
@[simp] theorem fIe_ex  {c : Nat} {fs : List (Str × D)} {st1 : Sto} : fIe  (.exc c fs st1) = .exc c fs st1 := rfl
def fR1  (r : R (List D)) : R (List D × Wat) := r.bind fun b st1 => rng1 b st1
@[simp] theorem fR1_ok  {b : (List D)} {st1 : Sto} : fR1  (.ok b st1) = rng1 b st1 := rfl
@[simp] theorem fR1_st  : fR1  .stuck = .stuck := rfl
@[simp] theorem fR1_ex  {c : Nat} {fs : List (Str × D)} {st1 : Sto} : fR1  (.exc c fs st1) = .exc c fs st1 := rfl
def fR2  (r : R (List D)) : R (List D × Wat) := r.bind fun b st1 => rng2 b st1
@[simp] theorem fR2_ok  {b : (List D)} {st1 : Sto} : fR2  (.ok b st1) = rng2 b st1 := rfl
@[simp] theorem fR2_st  : fR2  .stuck = .stuck := rfl
@[simp] theorem fR2_ex  {c : Nat} {fs : List (Str × D)} {st1 : Sto} : fR2  (.exc c fs st1) = .exc c fs st1 := rfl
def fEn  (r : R D) : R (List D × Wat) := r.bind fun b st1 => enumS b st1
@[simp] theorem fEn_ok  {b : D} {st1 : Sto} : fEn  (.ok b st1) = enumS b st1 := rfl
@[simp] theorem fEn_st  : fEn  .stuck = .stuck := rfl
@[simp] theorem fEn_ex  {c : Nat} {fs : List (Str × D)} {st1 : Sto} : fEn  (.exc c fs st1) = .exc c fs st1 := rfl
def fZp  (r : R (List D)) : R (List D × Wat) := r.bind fun b st1 => zipS b st1
@[simp] theorem fZp_ok  {b : (List D)} {st1 : Sto} : fZp  (.ok b st1) = zipS b st1 := rfl
@[simp] theorem fZp_st  : fZp  .stuck = .stuck := rfl
@[simp] theorem fZp_ex  {c : Nat} {fs : List (Str × D)} {st1 : Sto} : fZp  (.exc c fs st1) = .exc c fs st1 := rfl
def fComp (vs : List Nat) (t : Tg) (C : DT) (F : DE) (env : Env) (r : R (List D × Wat)) : R (List D) := r.bind fun b st1 => if b.1.length ≤ sizeLine then compL b.2 t C F (wipeE env vs) b.1 st1 else .stuck
@[simp] theorem fComp_ok {vs : List Nat} {t : Tg} {C : DT} {F : DE} {env : Env} {b : (List D × Wat)} {st1 : Sto} : fComp vs t C F env (.ok b st1) = if b.1.length ≤ sizeLine then compL b.2 t C F (wipeE env vs) b.1 st1 else .stuck := rfl
@[simp] theorem fComp_st {vs : List Nat} {t : Tg} {C : DT} {F : DE} {env : Env} : fComp vs t C F env .stuck = .stuck := rfl
@[simp] theorem fComp_ex {vs : List Nat} {t : Tg} {C : DT} {F : DE} {env : Env} {c : Nat} {fs : List (Str × D)} {st1 : Sto} : fComp vs t C F env (.exc c fs st1) = .exc c fs st1 := rfl
def gRet (env : Env) (r : R D) : RS := bindS r env fun b st1 => .rt b st1
@[simp] theorem gRet_ok {env : Env} {b : D} {st1 : Sto} : gRet env (.ok b st1) = .rt b st1 := rfl
@[simp] theorem gRet_st {env : Env} : gRet env .stuck = .stuck := rfl
@[simp] theorem gRet_ex {env : Env} {c : Nat} {fs : List (Str × D)} {st1 : Sto} : gRet env (.exc c fs st1) = .exc c fs env st1 := rfl
def gIf (A B : DS) (env : Env) (r : R Bool) : RS := bindS r env fun b st1 => if b = true then A env st1 else B env st1
@[simp] theorem gIf_ok {A B : DS} {env : Env} {b : Bool} {st1 : Sto} : gIf A B env (.ok b st1) = if b = true then A env st1 else B env st1 := rfl
@[simp] theorem gIf_st {A B : DS} {env : Env} : gIf A B env .stuck = .stuck := rfl
@[simp] theorem gIf_ex {A B : DS} {env : Env} {c : Nat} {fs : List (Str × D)} {st1 : Sto} : gIf A B env (.exc c fs st1) = .exc c fs env st1 := rfl
def gExpr (env : Env) (r : R D) : RS := bindS r env fun b st1 => .nx env st1
@[simp] theorem gExpr_ok {env : Env} {b : D} {st1 : Sto} : gExpr env (.ok b st1) = .nx env st1 := rfl
@[simp] theorem gExpr_st {env : Env} : gExpr env .stuck = .stuck := rfl
@[simp] theorem gExpr_ex {env : Env} {c : Nat} {fs : List (Str × D)} {st1 : Sto} : gExpr env (.exc c fs st1) = .exc c fs env st1 := rfl
def gAsg (i : Nat) (env : Env) (r : R D) : RS := bindS r env fun b st1 => .nx (env.set i (some b)) st1
@[simp] theorem gAsg_ok {i : Nat} {env : Env} {b : D} {st1 : Sto} : gAsg i env (.ok b st1) = .nx (env.set i (some b)) st1 := rfl
@[simp] theorem gAsg_st {i : Nat} {env : Env} : gAsg i env .stuck = .stuck := rfl
@[simp] theorem gAsg_ex {i : Nat} {env : Env} {c : Nat} {fs : List (Str × D)} {st1 : Sto} : gAsg i env (.exc c fs st1) = .exc c fs env st1 := rfl
def gSubc (d o : D) (env : Env) (r : R D) : RS := bindS r env fun b st1 => stS (setD o b d st1) env
@[simp] theorem gSubc_ok {d o : D} {env : Env} {b : D} {st1 : Sto} : gSubc d o env (.ok b st1) = stS (setD o b d st1) env := rfl
@[simp] theorem gSubc_st {d o : D} {env : Env} : gSubc d o env .stuck = .stuck := rfl
@[simp] theorem gSubc_ex {d o : D} {env : Env} {c : Nat} {fs : List (Str × D)} {st1 : Sto} : gSubc d o env (.exc c fs st1) = .exc c fs env st1 := rfl
def gSubb (d : D) (Fi : DE) (env : Env) (r : R D) : RS := bindS r env fun b st1 => gSubc d b env (Fi env st1)
@[simp] theorem gSubb_ok {d : D} {Fi : DE} {env : Env} {b : D} {st1 : Sto} : gSubb d Fi env (.ok b st1) = gSubc d b env (Fi env st1) := rfl
@[simp] theorem gSubb_st {d : D} {Fi : DE} {env : Env} : gSubb d Fi env .stuck = .stuck := rfl
@[simp] theorem gSubb_ex {d : D} {Fi : DE} {env : Env} {c : Nat} {fs : List (Str × D)} {st1 : Sto} : gSubb d Fi env (.exc c fs st1) = .exc c fs env st1 := rfl
def gSuba (Fo Fi : DE) (env : Env) (r : R D) : RS := bindS r env fun b st1 => gSubb b Fi env (Fo env st1)
@[simp] theorem gSuba_ok {Fo Fi : DE} {env : Env} {b : D} {st1 : Sto} : gSuba Fo Fi env (.ok b st1) = gSubb b Fi env (Fo env st1) := rfl
@[simp] theorem gSuba_st {Fo Fi : DE} {env : Env} : gSuba Fo Fi env .stuck = .stuck := rfl
@[simp] theorem gSuba_ex {Fo Fi : DE} {env : Env} {c : Nat} {fs : List (Str × D)} {st1 : Sto} : gSuba Fo Fi env (.exc c fs st1) = .exc c fs env st1 := rfl
def gPar (i j : Nat) (env : Env) (r : R (List D)) : RS := bindS r env fun b st1 => parS i j env b st1
@[simp] theorem gPar_ok {i j : Nat} {env : Env} {b : (List D)} {st1 : Sto} : gPar i j env (.ok b st1) = parS i j env b st1 := rfl
@[simp] theorem gPar_st {i j : Nat} {env : Env} : gPar i j env .stuck = .stuck := rfl
@[simp] theorem gPar_ex {i j : Nat} {env : Env} {c : Nat} {fs : List (Str × D)} {st1 : Sto} : gPar i j env (.exc c fs st1) = .exc c fs env st1 := rfl
def gFor (t : Tg) (A : DS) (env : Env) (r : R (List D × Wat)) : RS := bindS r env fun b st1 => forL b.2 t A b.1 env st1
@[simp] theorem gFor_ok {t : Tg} {A : DS} {env : Env} {b : (List D × Wat)} {st1 : Sto} : gFor t A env (.ok b st1) = forL b.2 t A b.1 env st1 := rfl
@[simp] theorem gFor_st {t : Tg} {A : DS} {env : Env} : gFor t A env .stuck = .stuck := rfl
@[simp] theorem gFor_ex {t : Tg} {A : DS} {env : Env} {c : Nat} {fs : List (Str × D)} {st1 : Sto} : gFor t A env (.exc c fs st1) = .exc c fs env st1 := rfl
@[simp] theorem ap188 {env : Env} {st : Sto} {F Fa Fb Fc Fo Fi : DE} {G : DA} {A B : DS} {C C' : DT} {I : DIt} {i j n : Nat} {d : D} {t : Tg} {vs : List Nat} {T : String} {o1 : D → Sto → R D} {o o' : D → D → Sto → R D} {oc : List D → Sto → R D} {om : D → List D → Sto → R D} {Fl Fh : DO} : eVar i env st = varR env[i]? st := rfl
@[simp] theorem ap189 {env : Env} {st : Sto} {F Fa Fb Fc Fo Fi : DE} {G : DA} {A B : DS} {C C' : DT} {I : DIt} {i j n : Nat} {d : D} {t : Tg} {vs : List Nat} {T : String} {o1 : D → Sto → R D} {o o' : D → D → Sto → R D} {oc : List D → Sto → R D} {om : D → List D → Sto → R D} {Fl Fh : DO} : eC d env st = .ok d st := rfl
@[simp] theorem ap190 {env : Env} {st : Sto} {F Fa Fb Fc Fo Fi : DE} {G : DA} {A B : DS} {C C' : DT} {I : DIt} {i j n : Nat} {d : D} {t : Tg} {vs : List Nat} {T : String} {o1 : D → Sto → R D} {o o' : D → D → Sto → R D} {oc : List D → Sto → R D} {om : D → List D → Sto → R D} {Fl Fh : DO} : e2 o Fa Fb env st = f2a o Fb env (Fa env st) := rfl
@[simp] theorem ap191 {env : Env} {st : Sto} {F Fa Fb Fc Fo Fi : DE} {G : DA} {A B : DS} {C C' : DT} {I : DIt} {i j n : Nat} {d : D} {t : Tg} {vs : List Nat} {T : String} {o1 : D → Sto → R D} {o o' : D → D → Sto → R D} {oc : List D → Sto → R D} {om : D → List D → Sto → R D} {Fl Fh : DO} : e1 o1 Fa env st = f1 o1 (Fa env st) := rfl
@[simp] theorem ap192 {env : Env} {st : Sto} {F Fa Fb Fc Fo Fi : DE} {G : DA} {A B : DS} {C C' : DT} {I : DIt} {i j n : Nat} {d : D} {t : Tg} {vs : List Nat} {T : String} {o1 : D → Sto → R D} {o o' : D → D → Sto → R D} {oc : List D → Sto → R D} {om : D → List D → Sto → R D} {Fl Fh : DO} : eEv G env st = fEv (G env st) := rfl
@[simp] theorem ap193 {env : Env} {st : Sto} {F Fa Fb Fc Fo Fi : DE} {G : DA} {A B : DS} {C C' : DT} {I : DIt} {i j n : Nat} {d : D} {t : Tg} {vs : List Nat} {T : String} {o1 : D → Sto → R D} {o o' : D → D → Sto → R D} {oc : List D → Sto → R D} {om : D → List D → Sto → R D} {Fl Fh : DO} : eNew G env st = fNew (G env st) := rfl
@[simp] theorem ap194 {env : Env} {st : Sto} {F Fa Fb Fc Fo Fi : DE} {G : DA} {A B : DS} {C C' : DT} {I : DIt} {i j n : Nat} {d : D} {t : Tg} {vs : List Nat} {T : String} {o1 : D → Sto → R D} {o o' : D → D → Sto → R D} {oc : List D → Sto → R D} {om : D → List D → Sto → R D} {Fl Fh : DO} : lDisp G env st = fDisp (G env st) := rfl
@[simp] theorem ap195 {env : Env} {st : Sto} {F Fa Fb Fc Fo Fi : DE} {G : DA} {A B : DS} {C C' : DT} {I : DIt} {i j n : Nat} {d : D} {t : Tg} {vs : List Nat} {T : String} {o1 : D → Sto → R D} {o o' : D → D → Sto → R D} {oc : List D → Sto → R D} {om : D → List D → Sto → R D} {Fl Fh : DO} : aNil env st = .ok [] st := rfl
@[simp] theorem ap196 {env : Env} {st : Sto} {F Fa Fb Fc Fo Fi : DE} {G : DA} {A B : DS} {C C' : DT} {I : DIt} {i j n : Nat} {d : D} {t : Tg} {vs : List Nat} {T : String} {o1 : D → Sto → R D} {o o' : D → D → Sto → R D} {oc : List D → Sto → R D} {om : D → List D → Sto → R D} {Fl Fh : DO} : aCons F G env st = fConsa G env (F env st) := rfl
@[simp] theorem ap197 {env : Env} {st : Sto} {F Fa Fb Fc Fo Fi : DE} {G : DA} {A B : DS} {C C' : DT} {I : DIt} {i j n : Nat} {d : D} {t : Tg} {vs : List Nat} {T : String} {o1 : D → Sto → R D} {o o' : D → D → Sto → R D} {oc : List D → Sto → R D} {om : D → List D → Sto → R D} {Fl Fh : DO} : eTup G env st = fTup (G env st) := rfl
@[simp] theorem ap198 {env : Env} {st : Sto} {F Fa Fb Fc Fo Fi : DE} {G : DA} {A B : DS} {C C' : DT} {I : DIt} {i j n : Nat} {d : D} {t : Tg} {vs : List Nat} {T : String} {o1 : D → Sto → R D} {o o' : D → D → Sto → R D} {oc : List D → Sto → R D} {om : D → List D → Sto → R D} {Fl Fh : DO} : eLst G env st = fLst (G env st) := rfl
@[simp] theorem ap199 {env : Env} {st : Sto} {F Fa Fb Fc Fo Fi : DE} {G : DA} {A B : DS} {C C' : DT} {I : DIt} {i j n : Nat} {d : D} {t : Tg} {vs : List Nat} {T : String} {o1 : D → Sto → R D} {o o' : D → D → Sto → R D} {oc : List D → Sto → R D} {om : D → List D → Sto → R D} {Fl Fh : DO} : eCall oc G env st = fCall oc (G env st) := rfl
@[simp] theorem ap200 {env : Env} {st : Sto} {F Fa Fb Fc Fo Fi : DE} {G : DA} {A B : DS} {C C' : DT} {I : DIt} {i j n : Nat} {d : D} {t : Tg} {vs : List Nat} {T : String} {o1 : D → Sto → R D} {o o' : D → D → Sto → R D} {oc : List D → Sto → R D} {om : D → List D → Sto → R D} {Fl Fh : DO} : eAnd Fa Fb env st = fAnd Fb env (Fa env st) := by
  unfold eAnd fAnd; congr
@[simp] theorem ap201 {env : Env} {st : Sto} {F Fa Fb Fc Fo Fi : DE} {G : DA} {A B : DS} {C C' : DT} {I : DIt} {i j n : Nat} {d : D} {t : Tg} {vs : List Nat} {T : String} {o1 : D → Sto → R D} {o o' : D → D → Sto → R D} {oc : List D → Sto → R D} {om : D → List D → Sto → R D} {Fl Fh : DO} : eOr Fa Fb env st = fOr Fb env (Fa env st) := by
  unfold eOr fOr; congr
@[simp] theorem ap202 {env : Env} {st : Sto} {F Fa Fb Fc Fo Fi : DE} {G : DA} {A B : DS} {C C' : DT} {I : DIt} {i j n : Nat} {d : D} {t : Tg} {vs : List Nat} {T : String} {o1 : D → Sto → R D} {o o' : D → D → Sto → R D} {oc : List D → Sto → R D} {om : D → List D → Sto → R D} {Fl Fh : DO} : eNot Fa env st = fNot (Fa env st) := rfl
@[simp] theorem ap203 {env : Env} {st : Sto} {F Fa Fb Fc Fo Fi : DE} {G : DA} {A B : DS} {C C' : DT} {I : DIt} {i j n : Nat} {d : D} {t : Tg} {vs : List Nat} {T : String} {o1 : D → Sto → R D} {o o' : D → D → Sto → R D} {oc : List D → Sto → R D} {om : D → List D → Sto → R D} {Fl Fh : DO} : tst Fa env st = fTst (Fa env st) := rfl
@[simp] theorem ap204 {env : Env} {st : Sto} {F Fa Fb Fc Fo Fi : DE} {G : DA} {A B : DS} {C C' : DT} {I : DIt} {i j n : Nat} {d : D} {t : Tg} {vs : List Nat} {T : String} {o1 : D → Sto → R D} {o o' : D → D → Sto → R D} {oc : List D → Sto → R D} {om : D → List D → Sto → R D} {Fl Fh : DO} : tstB Fa env st = fTstB (Fa env st) := rfl
@[simp] theorem ap205 {env : Env} {st : Sto} {F Fa Fb Fc Fo Fi : DE} {G : DA} {A B : DS} {C C' : DT} {I : DIt} {i j n : Nat} {d : D} {t : Tg} {vs : List Nat} {T : String} {o1 : D → Sto → R D} {o o' : D → D → Sto → R D} {oc : List D → Sto → R D} {om : D → List D → Sto → R D} {Fl Fh : DO} : bAnd C C' env st = fbAnd C' env (C env st) := rfl
@[simp] theorem ap206 {env : Env} {st : Sto} {F Fa Fb Fc Fo Fi : DE} {G : DA} {A B : DS} {C C' : DT} {I : DIt} {i j n : Nat} {d : D} {t : Tg} {vs : List Nat} {T : String} {o1 : D → Sto → R D} {o o' : D → D → Sto → R D} {oc : List D → Sto → R D} {om : D → List D → Sto → R D} {Fl Fh : DO} : bOr C C' env st = fbOr C' env (C env st) := rfl
@[simp] theorem ap207 {env : Env} {st : Sto} {F Fa Fb Fc Fo Fi : DE} {G : DA} {A B : DS} {C C' : DT} {I : DIt} {i j n : Nat} {d : D} {t : Tg} {vs : List Nat} {T : String} {o1 : D → Sto → R D} {o o' : D → D → Sto → R D} {oc : List D → Sto → R D} {om : D → List D → Sto → R D} {Fl Fh : DO} : bNot C env st = fbNot (C env st) := rfl
@[simp] theorem ap208 {env : Env} {st : Sto} {F Fa Fb Fc Fo Fi : DE} {G : DA} {A B : DS} {C C' : DT} {I : DIt} {i j n : Nat} {d : D} {t : Tg} {vs : List Nat} {T : String} {o1 : D → Sto → R D} {o o' : D → D → Sto → R D} {oc : List D → Sto → R D} {om : D → List D → Sto → R D} {Fl Fh : DO} : eIf C Fa Fb env st = fIf Fa Fb env (C env st) := rfl
@[simp] theorem ap209 {env : Env} {st : Sto} {F Fa Fb Fc Fo Fi : DE} {G : DA} {A B : DS} {C C' : DT} {I : DIt} {i j n : Nat} {d : D} {t : Tg} {vs : List Nat} {T : String} {o1 : D → Sto → R D} {o o' : D → D → Sto → R D} {oc : List D → Sto → R D} {om : D → List D → Sto → R D} {Fl Fh : DO} : eChain o o' Fa Fb Fc env st = fCha o o' Fb Fc env (Fa env st) := by
  unfold eChain fCha fChb fChc fChd fTstB; congr; funext a st1; congr; funext b st2; cases o a b st2 with
  | ok k st3 => (cases k with | bl q => cases q <;> rfl | _ => rfl)
  | _ => rfl
@[simp] theorem ap210 {env : Env} {st : Sto} {F Fa Fb Fc Fo Fi : DE} {G : DA} {A B : DS} {C C' : DT} {I : DIt} {i j n : Nat} {d : D} {t : Tg} {vs : List Nat} {T : String} {o1 : D → Sto → R D} {o o' : D → D → Sto → R D} {oc : List D → Sto → R D} {om : D → List D → Sto → R D} {Fl Fh : DO} : eSl Fa Fl Fh env st = fSla Fl Fh env (Fa env st) := rfl
@[simp] theorem ap211 {env : Env} {st : Sto} {F Fa Fb Fc Fo Fi : DE} {G : DA} {A B : DS} {C C' : DT} {I : DIt} {i j n : Nat} {d : D} {t : Tg} {vs : List Nat} {T : String} {o1 : D → Sto → R D} {o o' : D → D → Sto → R D} {oc : List D → Sto → R D} {om : D → List D → Sto → R D} {Fl Fh : DO} : eNo env st = .ok none st := rfl
@[simp] theorem ap212 {env : Env} {st : Sto} {F Fa Fb Fc Fo Fi : DE} {G : DA} {A B : DS} {C C' : DT} {I : DIt} {i j n : Nat} {d : D} {t : Tg} {vs : List Nat} {T : String} {o1 : D → Sto → R D} {o o' : D → D → Sto → R D} {oc : List D → Sto → R D} {om : D → List D → Sto → R D} {Fl Fh : DO} : ePart F env st = fPart (F env st) := rfl
@[simp] theorem ap213 {env : Env} {st : Sto} {F Fa Fb Fc Fo Fi : DE} {G : DA} {A B : DS} {C C' : DT} {I : DIt} {i j n : Nat} {d : D} {t : Tg} {vs : List Nat} {T : String} {o1 : D → Sto → R D} {o o' : D → D → Sto → R D} {oc : List D → Sto → R D} {om : D → List D → Sto → R D} {Fl Fh : DO} : eMt T om Fo G env st = fMta T om G env (Fo env st) := rfl
@[simp] theorem ap214 {env : Env} {st : Sto} {F Fa Fb Fc Fo Fi : DE} {G : DA} {A B : DS} {C C' : DT} {I : DIt} {i j n : Nat} {d : D} {t : Tg} {vs : List Nat} {T : String} {o1 : D → Sto → R D} {o o' : D → D → Sto → R D} {oc : List D → Sto → R D} {om : D → List D → Sto → R D} {Fl Fh : DO} : eMt0 T om Fo env st = fMt0 T om (Fo env st) := rfl
@[simp] theorem ap215 {env : Env} {st : Sto} {F Fa Fb Fc Fo Fi : DE} {G : DA} {A B : DS} {C C' : DT} {I : DIt} {i j n : Nat} {d : D} {t : Tg} {vs : List Nat} {T : String} {o1 : D → Sto → R D} {o o' : D → D → Sto → R D} {oc : List D → Sto → R D} {om : D → List D → Sto → R D} {Fl Fh : DO} : sSeq A B env st = seqS (A env st) B := rfl
@[simp] theorem ap216 {env : Env} {st : Sto} {F Fa Fb Fc Fo Fi : DE} {G : DA} {A B : DS} {C C' : DT} {I : DIt} {i j n : Nat} {d : D} {t : Tg} {vs : List Nat} {T : String} {o1 : D → Sto → R D} {o o' : D → D → Sto → R D} {oc : List D → Sto → R D} {om : D → List D → Sto → R D} {Fl Fh : DO} : sNil env st = .nx env st := rfl
@[simp] theorem ap217 {env : Env} {st : Sto} {F Fa Fb Fc Fo Fi : DE} {G : DA} {A B : DS} {C C' : DT} {I : DIt} {i j n : Nat} {d : D} {t : Tg} {vs : List Nat} {T : String} {o1 : D → Sto → R D} {o o' : D → D → Sto → R D} {oc : List D → Sto → R D} {om : D → List D → Sto → R D} {Fl Fh : DO} : sBreak env st = .bk env st := rfl
@[simp] theorem ap218 {env : Env} {st : Sto} {F Fa Fb Fc Fo Fi : DE} {G : DA} {A B : DS} {C C' : DT} {I : DIt} {i j n : Nat} {d : D} {t : Tg} {vs : List Nat} {T : String} {o1 : D → Sto → R D} {o o' : D → D → Sto → R D} {oc : List D → Sto → R D} {om : D → List D → Sto → R D} {Fl Fh : DO} : sCont env st = .ct env st := rfl
@[simp] theorem ap219 {env : Env} {st : Sto} {F Fa Fb Fc Fo Fi : DE} {G : DA} {A B : DS} {C C' : DT} {I : DIt} {i j n : Nat} {d : D} {t : Tg} {vs : List Nat} {T : String} {o1 : D → Sto → R D} {o o' : D → D → Sto → R D} {oc : List D → Sto → R D} {om : D → List D → Sto → R D} {Fl Fh : DO} : sRet F env st = gRet env (F env st) := rfl
@[simp] theorem ap220 {env : Env} {st : Sto} {F Fa Fb Fc Fo Fi : DE} {G : DA} {A B : DS} {C C' : DT} {I : DIt} {i j n : Nat} {d : D} {t : Tg} {vs : List Nat} {T : String} {o1 : D → Sto → R D} {o o' : D → D → Sto → R D} {oc : List D → Sto → R D} {om : D → List D → Sto → R D} {Fl Fh : DO} : sRetN env st = .rt .non st := rfl
@[simp] theorem ap221 {env : Env} {st : Sto} {F Fa Fb Fc Fo Fi : DE} {G : DA} {A B : DS} {C C' : DT} {I : DIt} {i j n : Nat} {d : D} {t : Tg} {vs : List Nat} {T : String} {o1 : D → Sto → R D} {o o' : D → D → Sto → R D} {oc : List D → Sto → R D} {om : D → List D → Sto → R D} {Fl Fh : DO} : sIf C A B env st = gIf A B env (C env st) := rfl
@[simp] theorem ap222 {env : Env} {st : Sto} {F Fa Fb Fc Fo Fi : DE} {G : DA} {A B : DS} {C C' : DT} {I : DIt} {i j n : Nat} {d : D} {t : Tg} {vs : List Nat} {T : String} {o1 : D → Sto → R D} {o o' : D → D → Sto → R D} {oc : List D → Sto → R D} {om : D → List D → Sto → R D} {Fl Fh : DO} : sExpr F env st = gExpr env (F env st) := rfl
@[simp] theorem ap223 {env : Env} {st : Sto} {F Fa Fb Fc Fo Fi : DE} {G : DA} {A B : DS} {C C' : DT} {I : DIt} {i j n : Nat} {d : D} {t : Tg} {vs : List Nat} {T : String} {o1 : D → Sto → R D} {o o' : D → D → Sto → R D} {oc : List D → Sto → R D} {om : D → List D → Sto → R D} {Fl Fh : DO} : sAsg (.nm i) F env st = gAsg i env (F env st) := rfl
@[simp] theorem ap224 {env : Env} {st : Sto} {F Fa Fb Fc Fo Fi : DE} {G : DA} {A B : DS} {C C' : DT} {I : DIt} {i j n : Nat} {d : D} {t : Tg} {vs : List Nat} {T : String} {o1 : D → Sto → R D} {o o' : D → D → Sto → R D} {oc : List D → Sto → R D} {om : D → List D → Sto → R D} {Fl Fh : DO} : sSub F Fo Fi env st = gSuba Fo Fi env (F env st) := rfl
@[simp] theorem ap225 {env : Env} {st : Sto} {F Fa Fb Fc Fo Fi : DE} {G : DA} {A B : DS} {C C' : DT} {I : DIt} {i j n : Nat} {d : D} {t : Tg} {vs : List Nat} {T : String} {o1 : D → Sto → R D} {o o' : D → D → Sto → R D} {oc : List D → Sto → R D} {om : D → List D → Sto → R D} {Fl Fh : DO} : sPar i j G env st = gPar i j env (G env st) := rfl
@[simp] theorem ap226 {env : Env} {st : Sto} {F Fa Fb Fc Fo Fi : DE} {G : DA} {A B : DS} {C C' : DT} {I : DIt} {i j n : Nat} {d : D} {t : Tg} {vs : List Nat} {T : String} {o1 : D → Sto → R D} {o o' : D → D → Sto → R D} {oc : List D → Sto → R D} {om : D → List D → Sto → R D} {Fl Fh : DO} : sFor t I A env st = gFor t A env (I env st) := rfl
@[simp] theorem ap227 {env : Env} {st : Sto} {F Fa Fb Fc Fo Fi : DE} {G : DA} {A B : DS} {C C' : DT} {I : DIt} {i j n : Nat} {d : D} {t : Tg} {vs : List Nat} {T : String} {o1 : D → Sto → R D} {o o' : D → D → Sto → R D} {oc : List D → Sto → R D} {om : D → List D → Sto → R D} {Fl Fh : DO} : lComp vs t I C F env st = fComp vs t C F env (I env st) := rfl
@[simp] theorem ap228 {env : Env} {st : Sto} {F Fa Fb Fc Fo Fi : DE} {G : DA} {A B : DS} {C C' : DT} {I : DIt} {i j n : Nat} {d : D} {t : Tg} {vs : List Nat} {T : String} {o1 : D → Sto → R D} {o o' : D → D → Sto → R D} {oc : List D → Sto → R D} {om : D → List D → Sto → R D} {Fl Fh : DO} : iVal F env st = fIv (F env st) := rfl
@[simp] theorem ap229 {env : Env} {st : Sto} {F Fa Fb Fc Fo Fi : DE} {G : DA} {A B : DS} {C C' : DT} {I : DIt} {i j n : Nat} {d : D} {t : Tg} {vs : List Nat} {T : String} {o1 : D → Sto → R D} {o o' : D → D → Sto → R D} {oc : List D → Sto → R D} {om : D → List D → Sto → R D} {Fl Fh : DO} : iEph G env st = fIe (G env st) := rfl
@[simp] theorem ap230 {env : Env} {st : Sto} {F Fa Fb Fc Fo Fi : DE} {G : DA} {A B : DS} {C C' : DT} {I : DIt} {i j n : Nat} {d : D} {t : Tg} {vs : List Nat} {T : String} {o1 : D → Sto → R D} {o o' : D → D → Sto → R D} {oc : List D → Sto → R D} {om : D → List D → Sto → R D} {Fl Fh : DO} : iRange1 G env st = fR1 (G env st) := rfl
@[simp] theorem ap231 {env : Env} {st : Sto} {F Fa Fb Fc Fo Fi : DE} {G : DA} {A B : DS} {C C' : DT} {I : DIt} {i j n : Nat} {d : D} {t : Tg} {vs : List Nat} {T : String} {o1 : D → Sto → R D} {o o' : D → D → Sto → R D} {oc : List D → Sto → R D} {om : D → List D → Sto → R D} {Fl Fh : DO} : iRange2 G env st = fR2 (G env st) := rfl
@[simp] theorem ap232 {env : Env} {st : Sto} {F Fa Fb Fc Fo Fi : DE} {G : DA} {A B : DS} {C C' : DT} {I : DIt} {i j n : Nat} {d : D} {t : Tg} {vs : List Nat} {T : String} {o1 : D → Sto → R D} {o o' : D → D → Sto → R D} {oc : List D → Sto → R D} {om : D → List D → Sto → R D} {Fl Fh : DO} : iEnum' F env st = fEn (F env st) := rfl
@[simp] theorem ap233 {env : Env} {st : Sto} {F Fa Fb Fc Fo Fi : DE} {G : DA} {A B : DS} {C C' : DT} {I : DIt} {i j n : Nat} {d : D} {t : Tg} {vs : List Nat} {T : String} {o1 : D → Sto → R D} {o o' : D → D → Sto → R D} {oc : List D → Sto → R D} {om : D → List D → Sto → R D} {Fl Fh : DO} : iZip' G env st = fZp (G env st) := rfl
@[simp] theorem ap234 {env : Env} {st : Sto} {F Fa Fb Fc Fo Fi : DE} {G : DA} {A B : DS} {C C' : DT} {I : DIt} {i j n : Nat} {d : D} {t : Tg} {vs : List Nat} {T : String} {o1 : D → Sto → R D} {o o' : D → D → Sto → R D} {oc : List D → Sto → R D} {om : D → List D → Sto → R D} {Fl Fh : DO} : cYes env st = .ok true st := rfl
section
variable {a b : D} {st : Sto} {i j : Int} {x y : Str}
@[simp] theorem add_int : addD (.int i) (.int j) st = .ok (.int (i + j)) st := rfl
@[simp] theorem sub_int : subD (.int i) (.int j) st = .ok (.int (i - j)) st := rfl
theorem mul_int (h : i.natAbs.log2 + j.natAbs.log2 < 1000000) : mulD (.int i) (.int j) st = .ok (.int (i * j)) st := by show (if _ then _ else _) = _; rw [if_pos h]
theorem mod_int (h : 0 < j) : modD (.int i) (.int j) st = .ok (.int (i % j)) st := by show (if _ then _ else _) = _; rw [if_pos h]
theorem fdiv_int (h : 0 < j) (h2 : j.natAbs.log2 < 9000) : fdivD (.int i) (.int j) st = .ok (.int (i / j)) st := by show (if _ then _ else _) = _; rw [if_pos ⟨h, h2⟩]
@[simp] theorem neg_int' : negD (.int i) st = .ok (.int (-i)) st := rfl
@[simp] theorem lt_int' : ltD (.int i) (.int j) st = .ok (.bl (decide (i < j))) st := rfl
@[simp] theorem le_int' : leD (.int i) (.int j) st = .ok (.bl (decide (i ≤ j))) st := rfl
@[simp] theorem gt_int' : gtD (.int i) (.int j) st = .ok (.bl (decide (j < i))) st := rfl
@[simp] theorem ge_int' : geD (.int i) (.int j) st = .ok (.bl (decide (j ≤ i))) st := rfl
@[simp] theorem eq_int' : eqD (.int i) (.int j) st = .ok (.bl (decide (i = j))) st := rfl
@[simp] theorem ne_int' : neD (.int i) (.int j) st = .ok (.bl (!decide (i = j))) st := rfl
@[simp] theorem eq_str' : eqD (.str x) (.str y) st = .ok (.bl (decide (x = y))) st := rfl
@[simp] theorem ne_str' : neD (.str x) (.str y) st = .ok (.bl (!decide (x = y))) st := rfl
@[simp] theorem ofO_some {d : D} : ofO (some d) st = .ok d st := rfl
@[simp] theorem ix_tup' {ds : List D} : ixD (.tup ds) (.int i) st = ofO (atI ds i) st := rfl
@[simp] theorem ix_ev' {ds : List D} : ixD (.ev ds) (.int i) st = ofO (atI ds i) st := rfl
@[simp] theorem ix_kl' {ds : List D} : ixD (.kl ds) (.int i) st = ofO (atI ds i) st := rfl
theorem ix_obj' {n : Nat} {ds : List D} (h : st[n]? = some (.lst ds)) : ixD (.obj n) (.int i) st = ofO (atI ds i) st := by
  show (match seqOf st n with | some ds => ofO (atI ds i) st | none => .stuck) = _
  have : seqOf st n = some ds := by unfold seqOf; rw [h]
  rw [this]
theorem seq_lst {n : Nat} {ds : List D} (h : st[n]? = some (.lst ds)) : seqOf st n = some ds := by unfold seqOf; rw [h]
theorem set_lst {n : Nat} {ds : List D} {k : Nat} {d : D} (h : st[n]? = some (.lst ds)) (hk : k < ds.length) : setD (.obj n) (.int (k : Int)) d st = some (st.set n (.lst (ds.set k d))) := by
  unfold setD
  simp only [h]
  have : ixN ds.length (k : Int) = some k := by unfold ixN; rw [if_pos (by omega), if_pos (by omega)]; simp
  rw [this]
theorem atI_nat' {β : Type} {xs : List β} {k : Nat} (h : k < xs.length) : atI xs (k : Int) = xs[k]? := by
  unfold atI ixN
  rw [if_pos (by omega), if_pos (by omega)]
  simp
end
/-! what stands at a place of the store -/
def seqB (o : Option Ob) : Option (List D) := match o with | some (.lst ds) => some ds | some (.frz ds) => some ds | _ => none
@[simp] theorem seqOf_at {st : Sto} {n : Nat} : seqOf st n = seqB st[n]? := rfl
@[simp] theorem seqB_lst {ds : List D} : seqB (some (.lst ds)) = some ds := rfl
def ixS (o : Option (List D)) (i : Int) (st : Sto) : R D := match o with | some ds => ofO (atI ds i) st | none => .stuck
@[simp] theorem ixS_some {ds : List D} {i : Int} {st : Sto} : ixS (some ds) i st = ofO (atI ds i) st := rfl
@[simp] theorem ix_at {n : Nat} {i : Int} {st : Sto} : ixD (.obj n) (.int i) st = ixS (seqOf st n) i st := rfl
def setB (o : Option Ob) (n : Nat) (k : Int) (d : D) (st : Sto) : Option Sto := match o with
  | some (.lst ds) => (match ixN ds.length k with | some j => some (st.set n (.lst (ds.set j d))) | none => none)
  | _ => none
@[simp] theorem set_at {n : Nat} {k : Int} {d : D} {st : Sto} : setD (.obj n) (.int k) d st = setB st[n]? n k d st := by
  unfold setD setB; rfl
theorem setB_lst {ds : List D} {n : Nat} {k : Int} {j : Nat} {d : D} {st : Sto} (h : ixN ds.length k = some j) : setB (some (.lst ds)) n k d st = some (st.set n (.lst (ds.set j d))) := by
  unfold setB; simp only [h]
@[simp] theorem setB0 {x y z : D} {n : Nat} {d : D} {st : Sto} : setB (some (.lst [x, y, z])) n 0 d st = some (st.set n (.lst [d, y, z])) := rfl
@[simp] theorem setB2 {x y z : D} {n : Nat} {d : D} {st : Sto} : setB (some (.lst [x, y, z])) n 2 d st = some (st.set n (.lst [x, y, d])) := rfl
@[simp] theorem atI0 {β : Type} {x : β} {xs : List β} : atI (x :: xs) 0 = some x := by
  unfold atI ixN; simp
@[simp] theorem atI3_1 {β : Type} {x y z : β} : atI [x, y, z] 1 = some y := rfl
@[simp] theorem atI3_2 {β : Type} {x y z : β} : atI [x, y, z] 2 = some z := rfl
@[simp] theorem new_eq {o : Ob} {st : Sto} : new o st = .ok (.obj st.length) (st ++ [o]) := rfl
theorem szL : (sizeLine : Nat) = 16777216 := by rw [sizeLine_eq]
theorem log_le {a b : Nat} (h : a < 2 ^ b) (h0 : 0 < b) : a.log2 < b := PySem.Flt.log2_lt_of h0 h
/-- a product of small ones -/
theorem mul_ok {i j : Int} (st : Sto) (a b : Nat) (h1 : i.natAbs < 2 ^ a) (h2 : j.natAbs < 2 ^ b) (ha : 0 < a) (hb : 0 < b) (h : a + b ≤ 1000000) : mulD (.int i) (.int j) st = .ok (.int (i * j)) st :=
  mul_int (by have := log_le h1 ha; have := log_le h2 hb; omega)
theorem forL_nil {w : Wat} {t : Tg} {B : DS} {env : Env} {st : Sto} (h : okW w st = true) : forL w t B [] env st = .nx env st := by rw [forL, if_pos h]
theorem forL_cons {w : Wat} {t : Tg} {B : DS} {d : D} {ds : List D} {env env1 : Env} {st : Sto} (h : okW w st = true) (hb : bindT t d env = some env1) : forL w t B (d :: ds) env st = turnS (B env1 st) (forL w t B ds) := by
  rw [forL, if_pos h, hb]
  dsimp only
  unfold turnS
  cases B env1 st <;> rfl
theorem compL_nil {w : Wat} {t : Tg} {C : DT} {F : DE} {env : Env} {st : Sto} (h : okW w st = true) : compL w t C F env [] st = .ok [] st := by rw [compL, if_pos h]
theorem compL_yes {w : Wat} {t : Tg} {F : DE} {env env1 : Env} {d y : D} {ds ys : List D} {st st1 st2 : Sto} (h : okW w st = true) (hb : bindT t d env = some env1) (hF : F env1 st = .ok y st1) (hr : compL w t cYes F env ds st1 = .ok ys st2) :
    compL w t cYes F env (d :: ds) st = .ok (y :: ys) st2 := by
  rw [compL, if_pos h, hb]
  simp [hF, hr]
end Mi

namespace Mi
open PySem L2
/-! ### a < b of data: the first pair that differs alone is asked -/
section
open PySem.SeqAt PySem.MeetsSeq PySem.MeetsSeq2 PySem.MeetsSeq3
open PySem.AutoSeq1 (wpAny_loadPart')
def LxP (A : Around) (s : Shared) (z : Bool) : List (Value × Value) → Bool → Prop
  | [], k => k = z
  | (x, y) :: r, k => (EqAt A s x y true ∧ LxP A s z r k) ∨ (EqAt A s x y false ∧ RcLt A s x y k)
theorem tupLt_meets (l b : Addr) (xs ys : Array Value) (n m : Nat) (d1 d2 : Option Addr) (o1 o2 : Array (Option Value)) (k : Bool) :
    Meets (Builtin.«tuple.__lt__» ⟨[.ref l, .ref b], []⟩) (fun A R s =>
      s.heap.get? l = some { cls := .type "tuple", dict := d1, data := .seq xs n, slots := o1 } ∧
      s.heap.get? b = some { cls := .type "tuple", dict := d2, data := .seq ys m, slots := o2 } ∧
      LxP A.in1 s (decide (xs.size < ys.size)) (xs.toList.zip ys.toList) k ∧ R (.ok (.ret (.bool k))) s) :=
  .of_wp fun prog w A R s hh => by
    obtain ⟨hp, g, d, tk, os⟩ := s; obtain ⟨e1, e2, lx, fin⟩ := hh
    have f2 := AutoSeq1.sub_tuple_tuple
    wp_walk using wpAny_loadPart' e1, wpAny_loadPart' e2, wpAny_forIn_list _ (fun rest c s' => c.1 = none ∧ s' = ⟨hp, g, d, tk, os⟩ ∧ LxP A.in1 ⟨hp, g, d, tk, os⟩ (decide (xs.size < ys.size)) rest k) _
    case turn =>
      rintro ⟨y, x⟩ rest c s' ⟨hc, rfl, lx'⟩
      rcases lx' with ⟨a1, a2⟩ | ⟨a1, a2⟩
      · refine wpAny_bind (a1 prog w _ _ ?_)
        wp_walk
        exact ⟨rfl, rfl, a2⟩
      · refine wpAny_bind (a1 prog w _ _ ?_)
        have a3 := a2 prog w
        generalize richCompare CmpOp.Lt y x = act at a3 ⊢
        wp_walk
        refine a3 _ _ ?_
        wp_walk
        exact ⟨_, rfl, fin⟩
    case fin =>
      rintro ⟨c1, c2⟩ s' ⟨hc, rfl, lx'⟩
      simp only at hc
      subst hc
      have lx' : k = decide (xs.size < ys.size) := lx'
      rw [lx'] at fin
      wp_walk
      exact ⟨_, rfl, by simpa [Builtin.Tuple.tupleCompareSizes] using fin⟩
    case h =>
      exact ⟨rfl, rfl, lx⟩
theorem rcLt_tup {A : Around} {s : Shared} {l b : Addr} {xs ys : Array Value} {k : Bool} (hl : s.heap.IsTuple l xs) (hb : s.heap.IsTuple b ys) (hu : A.units < cLine)
    (h : LxP A.in1 s (decide (xs.size < ys.size)) (xs.toList.zip ys.toList) k) : RcLt A s (.ref l) (.ref b) k := fun prog w E Q q => by
  obtain ⟨⟨c1, d1, t1, o1⟩, g1, e1, n1, z1⟩ := id hl
  obtain ⟨⟨c2, d2, t2, o2⟩, g2, e2, n2, z2⟩ := id hb
  simp only at e1 z1 e2 z2
  subst e1 z1 e2 z2
  refine richCompare_meets_room (op := .Lt) ⟨_, g1, rfl⟩ ⟨_, g2, rfl⟩ F.slot_tuple_lt F.entry_tuple_lt (F.args_tuple_lt_2 _ _) (tupLt_meets l b xs ys n1 n2 d1 d2 o1 o2 k) ⟨g1, g2, h, ?_⟩ hu
  exact (⟨(fun x => nomatch x), q⟩ : Value.bool k ≠ Value.notImplemented ∧ Q (.bool k) s)
mutual
def pyLt : PyData → PyData → Option Bool
  | .int i, .int j => some (decide (i < j))
  | .bool p, .bool q => some (decide (PyProof.Rows.b2i p < PyProof.Rows.b2i q))
  | .str x, .str y => some (decide (x.cps.toList < y.cps.toList))
  | .tuple xs, .tuple ys => pyLts xs ys
  | _, _ => none
def pyLts : List PyData → List PyData → Option Bool
  | [], ys => some (decide (0 < ys.length))
  | _ :: _, [] => some false
  | x :: xs, y :: ys => if PyData.eqv x y = true then pyLts xs ys else pyLt x y
end
mutual
theorem pyLt_ok : ∀ (p q : PyData) (A : Around) (s : Shared) (a b : Value) (as bs : List Addr) (k : Bool), Reads s.heap a p as → Reads s.heap b q bs → p.canLay0 = true → q.canLay0 = true → pyLt p q = some k →
    A.units + min p.depth q.depth < cLine → RcLt A s a b k
  | .none, q, A, s, a, b, as, bs, k, ra, rb, hp, hq, h, hu => by cases q <;> simp [pyLt] at h
  | .list _, q, A, s, a, b, as, bs, k, ra, rb, hp, hq, h, hu => by cases q <;> simp [pyLt] at h
  | .dict _, q, A, s, a, b, as, bs, k, ra, rb, hp, hq, h, hu => by cases q <;> simp [pyLt] at h
  | .bool x, q, A, s, a, b, as, bs, k, ra, rb, hp, hq, h, hu => by
    cases q <;> try (simp [pyLt] at h; done)
    rename_i y
    cases ra
    cases rb
    intro prog w E Q z
    rw [pyLt] at h
    injection h with h
    rw [← h] at z
    exact PyProof.Rows.lt_bool z
  | .int x, q, A, s, a, b, as, bs, k, ra, rb, hp, hq, h, hu => by
    cases q <;> try (simp [pyLt] at h; done)
    rename_i y
    cases ra
    cases rb
    intro prog w E Q z
    rw [pyLt] at h
    injection h with h
    rw [← h] at z
    exact PyProof.Rows.lt_int z
  | .str x, q, A, s, a, b, as, bs, k, ra, rb, hp, hq, h, hu => by
    cases q <;> try (simp [pyLt] at h; done)
    rename_i y
    cases ra
    cases rb
    intro prog w E Q z
    rw [pyLt] at h
    injection h with h
    rw [← h] at z
    exact PyProof.Rows.lt_str z
  | .tuple xs, q, A, s, a, b, as, bs, k, ra, rb, hp, hq, h, hu => by
    cases q <;> try (simp [pyLt] at h; done)
    rename_i ys
    rw [pyLt] at h
    rw [PyData.canLay0] at hp hq
    cases ra with
    | @tuple l o vs n _ as1 h1 h2 h3 h4 =>
      cases rb with
      | @tuple l2 o2 ws m _ bs1 k1 k2 k3 k4 =>
        have e1 : vs.toList.length = xs.length := ReadsAll.length _ _ _ h4
        have e2 : ws.toList.length = ys.length := ReadsAll.length _ _ _ k4
        rw [PyData.depth, PyData.depth] at hu
        refine rcLt_tup ⟨_, h1, h2, _, h3⟩ ⟨_, k1, k2, _, k3⟩ (room_here hu) ?_
        have z : decide (vs.size < ws.size) = decide (vs.toList.length < ws.toList.length) := by simp
        rw [z]
        exact pyLts_ok xs ys A.in1 s vs.toList ws.toList _ _ k h4 k4 hp hq h (room_in hu)
theorem pyLts_ok : ∀ (xs ys : List PyData) (A : Around) (s : Shared) (vs ws : List Value) (as bs : List Addr) (k : Bool), ReadsAll s.heap vs xs as → ReadsAll s.heap ws ys bs → PyData.canLayAll0 xs = true → PyData.canLayAll0 ys = true → pyLts xs ys = some k →
    A.units + min (PyData.depthAll xs) (PyData.depthAll ys) < cLine → LxP A s (decide (vs.length < ws.length)) (vs.zip ws) k
  | [], ys, A, s, vs, ws, as, bs, k, ra, rb, hp, hq, h, hu => by
    have e2 : ws.length = ys.length := ReadsAll.length _ _ _ rb
    cases ra
    rw [pyLts] at h
    injection h with h
    show k = _
    rw [← h, e2]
    simp
  | x :: xs, [], A, s, vs, ws, as, bs, k, ra, rb, hp, hq, h, hu => by
    cases rb
    rw [pyLts] at h
    injection h with h
    rw [List.zip_nil_right]
    show k = _
    rw [← h]
    simp
  | x :: xs, y :: ys, A, s, vs, ws, as, bs, k, ra, rb, hp, hq, h, hu => by
    rw [PyData.canLayAll0, Bool.and_eq_true] at hp hq
    rw [PyData.depthAll, PyData.depthAll] at hu
    cases ra with
    | cons r rs =>
      cases rb with
      | cons r2 rs2 =>
        have e := eqAt_reads x y A s _ _ _ _ r r2 hp.1 hq.1 (room_head hu)
        rw [pyLts] at h
        by_cases c : PyData.eqv x y = true
        · rw [if_pos c] at h
          rw [c] at e
          have := pyLts_ok xs ys A s _ _ _ _ k rs rs2 hp.2 hq.2 h (room_tail hu)
          refine .inl ⟨e, ?_⟩
          rw [List.length_cons, List.length_cons]
          simp only [Nat.add_lt_add_iff_right]
          exact this
        · rw [if_neg c] at h
          rw [Bool.eq_false_iff.mpr c] at e
          exact .inr ⟨e, pyLt_ok x y A s _ _ _ _ k r r2 hp.1 hq.1 h (room_head hu)⟩
end
end
def ltP (a b : D) (st : Sto) : Option Bool := match toP st 66 a, toP st 66 b with
  | some p, some q => if (SeqAt.shaped p && SeqAt.shaped q) = true then pyLt p q else none
  | _, _ => none
def ltQ : D → D → Sto → R D
  | .tup xs, .tup ys, st => (match ltP (.tup xs) (.tup ys) st with | some k => .ok (.bl k) st | none => .stuck)
  | a, b, st => ltD a b st
section
variable {g : Gd} {X : Cx} {W : WX}
abbrev rLtP (K : PySem.W.Frag) : V → V → Hp → VK → Prop := fun x y H Q => ∃ p q k, Dp K H x p ∧ Dp K H y q ∧ SeqAt.shaped p = true ∧ SeqAt.shaped q = true ∧ pyLt p q = some k ∧ Q (.bl k) H
theorem op_ltP (hu : X.A.units + 64 < cLine) : OpR X (compareOp .Lt) (rLtP X.K) := by
  intro pins s σ H x y v u Q I rx ry h
  obtain ⟨p, q, k, hp, hq, sp, sq, e, z⟩ := h
  obtain ⟨as, r1⟩ := Dp.reads I p x v hp rx
  obtain ⟨bs, r2⟩ := Dp.reads I q y u hq ry
  exact pyLt_ok p q X.A s v u as bs k r1 r2 (SeqAt.canLay_of_shaped sp) (SeqAt.canLay_of_shaped sq) e (SeqAt.room_of_shaped sp hu) _ _ _ _ ⟨.bl _, H, I, rfl, z⟩
theorem op_ltQ (c : Ck g X W) : Op2 g X W (compareOp .Lt) ltQ := by
  intro σ α H st a b x y Q s ra rb p
  cases a <;> cases b <;> first
    | exact op_ltD σ α H st _ _ x y Q s ra rb p
    | skip
  rename_i xs ys
  unfold ltQ at p
  dsimp only at p
  split at p
  · rename_i k e
    unfold ltP at e
    split at e
    · rename_i p1 q1 e1 e2
      split at e
      · rename_i hs
        rw [Bool.and_eq_true] at hs
        have d1 := dpV s _ _ _ _ e1 ra
        have d2 := dpV s _ _ _ _ e2 rb
        rw [← c.hK] at d1 d2
        exact ⟨_, op_ltP (by have := c.hu; omega), p1, q1, k, d1, d2, hs.1, hs.2, e, p.ok s rfl⟩
      · cases e
    · cases e
  · exact p.elim
end
@[simp] theorem ltQ_int {i j : Int} {st : Sto} : ltQ (.int i) (.int j) st = .ok (.bl (decide (i < j))) st := rfl
@[simp] theorem ltQ_str {x y : Str} {st : Sto} : ltQ (.str x) (.str y) st = .ok (.bl (strLt x y)) st := rfl
theorem ltQ_bl {x y : Bool} {st : Sto} : ltQ (.bl x) (.bl y) st = .ok (.bl (!x && y)) st := by cases x <;> cases y <;> rfl
@[simp] theorem ap_chain {o o' : D → D → Sto → R D} {Fa Fb Fc : DE} {env : Env} {st : Sto} : eChain o o' Fa Fb Fc env st = fCha o o' Fb Fc env (Fa env st) :=
  ap209 (F := eC .non) (Fo := eC .non) (Fi := eC .non) (G := aNil) (A := sNil) (B := sNil) (C := cYes) (C' := cYes) (I := iVal (eC .non)) (i := 0) (j := 0) (n := 0) (d := .non) (t := .nm 0) (vs := []) (T := "") (o1 := negD) (oc := lenB) (om := findM) (Fl := eNo) (Fh := eNo)
@[simp] theorem ap_and {Fa Fb : DE} {env : Env} {st : Sto} : eAnd Fa Fb env st = fAnd Fb env (Fa env st) :=
  ap200 (F := eC .non) (Fc := eC .non) (Fo := eC .non) (Fi := eC .non) (G := aNil) (A := sNil) (B := sNil) (C := cYes) (C' := cYes) (I := iVal (eC .non)) (i := 0) (j := 0) (n := 0) (d := .non) (t := .nm 0) (vs := []) (T := "") (o1 := negD) (o := addD) (o' := addD) (oc := lenB) (om := findM) (Fl := eNo) (Fh := eNo)
@[simp] theorem ap_or {Fa Fb : DE} {env : Env} {st : Sto} : eOr Fa Fb env st = fOr Fb env (Fa env st) :=
  ap201 (F := eC .non) (Fc := eC .non) (Fo := eC .non) (Fi := eC .non) (G := aNil) (A := sNil) (B := sNil) (C := cYes) (C' := cYes) (I := iVal (eC .non)) (i := 0) (j := 0) (n := 0) (d := .non) (t := .nm 0) (vs := []) (T := "") (o1 := negD) (o := addD) (o' := addD) (oc := lenB) (om := findM) (Fl := eNo) (Fh := eNo)
end Mi

namespace Mi
open PySem L2
/-! ### instances: fields -/
def fldD (T : Nat → Bool) (f : Str) (d : D) (st : Sto) : R D := match d with
  | .obj n => (match st[n]? with
    | some (.ins c fs) => if T c = true then ofO (fs.lookup f) st else .stuck
    | _ => .stuck)
  | _ => .stuck
def putD (f : Str) (d : D) : List (Str × D) → List (Str × D)
  | [] => [(f, d)]
  | p :: ps => if p.1 = f then (f, d) :: ps else p :: putD f d ps
def sFldD (T : Nat → Bool) (f : Str) (Fv Fo : DE) : DS := fun env st => bindS (Fv env st) env fun d st1 => bindS (Fo env st1) env fun o st2 => match o with
  | .obj n => (match st2[n]? with
    | some (.ins c fs) => if T c = true ∧ fs.length < 1000 then .nx env (st2.set n (.ins c (putD f d fs))) else .stuck
    | _ => .stuck)
  | _ => .stuck
section
variable {g : Gd} {X : Cx} {W : WX} {α : List Addr} {H : Hp} {st : Sto} {pos : Pos}
theorem RFs.at {f : Str} {d : D} : ∀ {ds : List (Str × D)} {vs : List (Str × V)}, RFs g α H ds vs → ds.lookup f = some d → ∃ v, vs.lookup f = some v ∧ RD g α H d v
  | [], vs, _, e => by cases e
  | p :: ps, vs, h, e => by
    obtain ⟨v, r, rfl, h1, h2⟩ := h
    rw [List.lookup_cons] at e ⊢
    cases q : f == p.1 with
    | true => rw [q] at e; cases e; exact ⟨v, rfl, h1⟩
    | false => rw [q] at e; obtain ⟨u, e1, e2⟩ := RFs.at h2 e; exact ⟨u, e1, e2⟩
theorem RFs.length : ∀ {ds : List (Str × D)} {vs : List (Str × V)}, RFs g α H ds vs → ds.length = vs.length
  | [], vs, h => by cases h; rfl
  | p :: ps, vs, h => by
    obtain ⟨v, r, rfl, h1, h2⟩ := h
    rw [List.length_cons, List.length_cons, RFs.length h2]
theorem StR.ins (s : StR g α st H) {n : Nat} {v : V} {c : Nat} {fs : List (Str × D)} (r : RD g α H (.obj n) v) (e : st[n]? = some (.ins c fs)) :
    ∃ a C dx vs, v = .ref a ∧ α[n]? = some a ∧ g.ca c = some C ∧ H a = some (.ins C dx vs) ∧ RFs g α H fs vs := by
  obtain ⟨a, rfl, ha⟩ := r
  obtain ⟨C, dx, vs, h1, h2, h3⟩ := s.ob n a _ ha e
  exact ⟨a, C, dx, vs, rfl, ha, h1, h2, h3⟩
theorem oe_fld (c : Ck g X W) {o : Expr} {f : Str} {Fo : DE} {T : Nat → Bool} (ho : OE g X W o Fo) (hT : ∀ k C, T k = true → g.ca k = some C → Cls g.K C ∧ NoAttr g.K C f)
    (hb : attributeBase o f X.env (eval o X.env) = eval o X.env := by rfl) : OE g X W (.Attribute o f pos) (e1 (fldD T f) Fo) :=
  ofE (pe_fld ho hb) fun σ H Q ⟨α, env, st, hE, hS, p⟩ => by
    refine tE.run hE hS (p.bind.imp fun d st1 α1 H1 x1 s1 q v r => ?_)
    cases d <;> first | exact q.elim | skip
    rename_i n
    unfold fldD at q
    dsimp only at q
    split at q
    · rename_i k fs e
      split at q
      · rename_i ht
        obtain ⟨a, C, dx, vs, rfl, ha, hc, h1, h2⟩ := s1.ins r e
        cases l : fs.lookup f with
        | none => rw [l] at q; exact q.elim
        | some d =>
          rw [l] at q
          obtain ⟨u, e1, e2⟩ := h2.at l
          obtain ⟨t1, t2⟩ := hT k C ht hc
          exact ⟨a, C, dx, vs, u, rfl, h1, by rw [c.hK]; exact t1, by rw [c.hK]; exact t2, e1, q.ok s1 u e2⟩
      · exact q.elim
    · exact q.elim
theorem RFs.put {f : Str} {d : D} {v : V} (r : RD g α H d v) : ∀ {ds : List (Str × D)} {vs : List (Str × V)}, RFs g α H ds vs → RFs g α H (putD f d ds) (putF f v vs)
  | [], vs, h => by cases h; exact ⟨v, [], rfl, r, rfl⟩
  | p :: ps, vs, h => by
    obtain ⟨u, w, rfl, h1, h2⟩ := h
    rw [putD, putF]
    by_cases c : p.1 = f
    · rw [if_pos c, if_pos c]
      exact ⟨v, w, by rw [c], r, h2⟩
    · rw [if_neg c, if_neg c]
      exact ⟨u, _, rfl, h1, RFs.put r h2⟩
theorem os_fld (c : Ck g X W) {o e : Expr} {f : Str} {Fv Fo : DE} {T : Nat → Bool} {pos' : Pos} (hv : OE g X W e Fv) (ho : OE g X W o Fo) (hT : ∀ k C, T k = true → g.ca k = some C → Cls g.K C ∧ NoAttr g.K C f)
    (hs : swapsWith e (some (.Attribute o f pos')) pos.line X.env = pure false := by rfl) : OS g X W (.Assign [.Attribute o f pos'] e pos) (sFldD T f Fv Fo) :=
  ofS (ps_fld ho hv hs) fun E σ H ⟨α, env, st, hE, hS, p⟩ => by
    refine tE.run hE hS ((p.bind hE).imp fun d st1 α1 H1 x1 s1 q v r => ?_)
    have e1 := hE.mono x1
    refine tE.run e1 s1 ((q.bind e1).imp fun o st2 α2 H2 x2 s2 q2 v2 r2 => ?_)
    cases o <;> first | exact q2.elim | skip
    rename_i n
    dsimp only at q2
    split at q2
    · rename_i k fs ee
      split at q2
      · rename_i ht
        obtain ⟨a, C, dx, vs, rfl, ha, hc, h1, h2⟩ := s2.ins r2 ee
        obtain ⟨t1, t2⟩ := hT k C ht.1 hc
        have ex : Ext α2 H2 α2 (upd H2 a (.ins C dx (putF f v vs))) := ext_write s2 ha ⟨_, h1, fun _ z => (nomatch z), fun _ _ z => (nomatch z)⟩
        exact ⟨a, C, dx, vs, rfl, h1, by rw [c.hK]; exact t1, by rw [c.hK]; exact t2, by rw [← h2.length]; exact ht.2, q2 α2 _ σ ex (s2.write ha ex ⟨C, dx, _, hc, upd_same, (h2.put (r.mono x2)).mono ex⟩) ((e1.mono x2).mono ex)⟩
      · exact q2.elim
    · exact q2.elim
end
end Mi

namespace Mi
open PySem L2
/-! ### instances: methods, making -/
def clsD (tb : Nat → Option Nat) (m : Str) (o : D) (st : Sto) : Option Nat := match o with
  | .obj n => (match st[n]? with
    | some (.ins c fs) => if (fs.lookup m).isNone = true then tb c else none
    | _ => none)
  | _ => none
def eMeth (tb : Nat → Option Nat) (m : Str) (Φ : Fam) (Fo : DE) (G : DA) : DE := fun env st => (Fo env st).bind fun o st1 => match clsD tb m o st1 with
  | some i => (G env st1).bind fun ds st2 => Φ i (o :: ds) st2
  | none => .stuck
/-- the defs that answer to a method's name, by classes -/
def MtT (g : Gd) (k : Nat) (m : Str) (np : Nat) (tb : Nat → Option Nat) (Φ : Fam) : Prop :=
  ∀ c C i, tb c = some i → g.ca c = some C → Cls g.K C ∧ ∃ f fd ps, Meth g.K C m f ∧ FG g k f fd ps (spD g (np + 1) (Φ i)) ∧ Binds g.K fd ps []
section
variable {g : Gd} {X : Cx} {W : WX} {pos apos : Pos} {k : Nat}
theorem RFs.none {α : List Addr} {H : Hp} {f : Str} : ∀ {ds : List (Str × D)} {vs : List (Str × V)}, RFs g α H ds vs → ds.lookup f = none → vs.lookup f = none
  | [], vs, h, _ => by cases h; rfl
  | p :: ps, vs, h, e => by
    obtain ⟨v, r, rfl, h1, h2⟩ := h
    rw [List.lookup_cons] at e ⊢
    cases q : f == p.1 with
    | true => rw [q] at e; cases e
    | false => rw [q] at e; exact RFs.none h2 e
theorem sp_of {np : Nat} {φ : List D → Sto → R D} {α : List Addr} {H : Hp} {st : Sto} {ds : List D} {vs : List V} {σ : L2.St} {Q : VK} (s : StR g α st H) (r : RDs g α H ds vs) (hl : ds.length = np)
    (q : Post g W σ α H (φ ds st) fun d _ α' H' => ∀ v, RD g α' H' d v → Q v H') : spD g np φ vs H Q fun cls d H' => W cls d σ H' := by
  refine ⟨α, st, ds, s, r, hl, ?_⟩
  cases hφ : φ ds st with
  | stuck => rw [hφ] at q; exact q.elim
  | exc cc fs st2 => rw [hφ] at q; exact q
  | ok d st2 => rw [hφ] at q; exact q
theorem oe_meth (c : Ck g X W) {tb : Nat → Option Nat} {m : Str} {np : Nat} {Φ : Fam} {o e : Expr} {es : List Expr} {Fo : DE} {G : DA} (T : MtT g k m np tb Φ) (hr : Room k X.A) (ho : OE g X W o Fo) (ha : OA g X W (e :: es) G)
    (hgl : ∀ env st ds st1, G env st = .ok ds st1 → ds.length = np) {pl : Sem Bool}
    (hst : starEach (e :: es) X.env = (false, eval e X.env) :: starEach es X.env := by rfl) (hpl : (backTo pos (starEach es X.env)).any (·.1) = false := by rfl)
    (ht : eval (.Call (.Attribute o m apos) (e :: es) [] pos) X.env = (do
      let ov ← eval o X.env
      standAt apos.atName
      let (f, first) ← holding [ov] (getMethod ov m pl)
      callWith pos f first (backTo pos (starEach (e :: es) X.env)) (backToKw pos (keywordEach [] X.env))) := by rfl) :
    OE g X W (.Call (.Attribute o m apos) (e :: es) [] pos) (eMeth tb m Φ Fo G) := by
  refine ⟨fun pins s σ H Q I ⟨α, env, st, hE, hS, p⟩ => ?_⟩
  have step : tE g W Fo σ H fun x H1 => ∃ a C dx fs i f fd ps, x = .ref a ∧ H1 a = some (.ins C dx fs) ∧ fs.lookup m = none ∧ Cls g.K C ∧ Meth g.K C m f ∧ FG g k f fd ps (spD g (np + 1) (Φ i)) ∧ Binds g.K fd ps [] ∧
      tA g W G σ H1 fun vs H2 => spD g (np + 1) (Φ i) (x :: vs) H2 Q fun cls d H' => W cls d σ H' := by
    refine tE.run hE hS (p.bind.imp fun d st1 α1 H1 x1 s1 q v r => ?_)
    cases d <;> first | exact q.elim | skip
    rename_i n
    cases hc : clsD tb m (.obj n) st1 with
    | none => simp only [hc] at q; exact q.elim
    | some i =>
      simp only [hc] at q
      unfold clsD at hc
      dsimp only at hc
      split at hc
      · rename_i cc fs ee
        split at hc
        · rename_i hn
          obtain ⟨a, C, dx, vs, rfl, hα, hC, h1, h2⟩ := s1.ins r ee
          obtain ⟨t1, f, fd, ps, t2, t3, t4⟩ := T cc C i hc hC
          refine ⟨a, C, dx, vs, i, f, fd, ps, rfl, h1, h2.none (Option.isNone_iff_eq_none.mp hn), t1, t2, t3, t4, ?_⟩
          have e1 := hE.mono x1
          refine tA.run e1 s1 ?_
          have pb := q.bind
          cases hG : G env st1 with
          | stuck => rw [hG] at pb; exact pb.elim
          | exc c1 fs1 st2 => rw [hG] at pb; exact pb
          | ok ds st2 =>
            rw [hG] at pb
            intro α2 H2 x2 s2 us r2
            exact sp_of s2 (RDs.cons (r.mono x2) r2) (by rw [List.length_cons, hgl _ _ _ _ hG]) (pb α2 H2 x2 s2)
        · cases hc
      · cases hc
  refine PySem.W.methodCall_KW (pl := pl) (thn (PE.run ho pins s σ H _ I step) fun u s1 ⟨x, H1, I1, rx, a, C, dx, fs, i, f, fd, ps, ex, ea, l, t1, t2, t3, t4, q⟩ => ?_) ht
  subst ex
  obtain rfl : u = Value.ref a := rx
  rw [← c.hK] at t1 t2
  refine getmeth_ok I1 ea t1 t2 l ?_
  refine PySem.W.callWith_K (first := [.ref a]) (h₀ := X.base) I.ok.mod.kin t2.kp (thn (L2.PA.run ha pos pins s1 σ H1 _ I1 q) fun us s2 ⟨vs, H2, I2, r, q2⟩ => ⟨I2.kIn, ?_⟩) hst hpl
  exact t3.call (us := .ref a :: us) (vs := .ref a :: vs) c hr t4 I2 (.cons rfl r) q2
theorem oe_meth0 (c : Ck g X W) {tb : Nat → Option Nat} {m : Str} {Φ : Fam} {o : Expr} {Fo : DE} (T : MtT g k m 0 tb Φ) (hr : Room k X.A) (ho : OE g X W o Fo) {pl : Sem Bool}
    (ht : eval (.Call (.Attribute o m apos) [] [] pos) X.env = (do
      let ov ← eval o X.env
      standAt apos.atName
      let (f, first) ← holding [ov] (getMethod ov m pl)
      callWith pos f first (backTo pos (starEach [] X.env)) (backToKw pos (keywordEach [] X.env))) := by rfl) :
    OE g X W (.Call (.Attribute o m apos) [] [] pos) (eMeth tb m Φ Fo aNil) := by
  refine ⟨fun pins s σ H Q I ⟨α, env, st, hE, hS, p⟩ => ?_⟩
  have step : tE g W Fo σ H fun x H1 => ∃ a C dx fs i f fd ps, x = .ref a ∧ H1 a = some (.ins C dx fs) ∧ fs.lookup m = none ∧ Cls g.K C ∧ Meth g.K C m f ∧ FG g k f fd ps (spD g (0 + 1) (Φ i)) ∧ Binds g.K fd ps [] ∧
      spD g (0 + 1) (Φ i) [x] H1 Q fun cls d H' => W cls d σ H' := by
    refine tE.run hE hS (p.bind.imp fun d st1 α1 H1 x1 s1 q v r => ?_)
    cases d <;> first | exact q.elim | skip
    rename_i n
    cases hc : clsD tb m (.obj n) st1 with
    | none => simp only [hc] at q; exact q.elim
    | some i =>
      simp only [hc] at q
      unfold clsD at hc
      dsimp only at hc
      split at hc
      · rename_i cc fs ee
        split at hc
        · rename_i hn
          obtain ⟨a, C, dx, vs, rfl, hα, hC, h1, h2⟩ := s1.ins r ee
          obtain ⟨t1, f, fd, ps, t2, t3, t4⟩ := T cc C i hc hC
          exact ⟨a, C, dx, vs, i, f, fd, ps, rfl, h1, h2.none (Option.isNone_iff_eq_none.mp hn), t1, t2, t3, t4, sp_of s1 (RDs.cons r RDs.nil) rfl q⟩
        · cases hc
      · cases hc
  refine PySem.W.methodCall_KW (pl := pl) (thn (PE.run ho pins s σ H _ I step) fun u s1 ⟨x, H1, I1, rx, a, C, dx, fs, i, f, fd, ps, ex, ea, l, t1, t2, t3, t4, q⟩ => ?_) ht
  subst ex
  obtain rfl : u = Value.ref a := rx
  rw [← c.hK] at t1 t2
  refine getmeth_ok I1 ea t1 t2 l ?_
  exact PySem.W.callWith_K0 (first := [.ref a]) I1.kIn t2.kp (t3.call (us := [.ref a]) (vs := [.ref a]) c hr t4 I1 (.cons rfl .nil) q)
end
end Mi

namespace Mi
open PySem L2
/-! ### making an instance by its __init__ -/
def initR (n : Nat) (r : R D) : R D := r.bind fun d st => match d with | .non => .ok (.obj n) st | _ => .stuck
def makeD (c i : Nat) (Φ : Fam) (ds : List D) (st : Sto) : R D := initR st.length (Φ i (.obj st.length :: ds) (st ++ [.ins c []]))
section
variable {g : Gd} {X : Cx} {W : WX} {k : Nat} {C f : Addr} {fd : FuncData} {ps : List Str} {sp : Sp} {pos : Pos}
theorem FG.make (c : Ck g X W) {pins : List (Addr × Obj)} {σ : L2.St} {H : Hp} {s : Shared} {Q : VK} {us : List Value} {vs : List V} (M : L2.Mk g.K C f) (F : FG g k f fd ps sp) (hr : Room (k + 1) X.A) (hb : Binds g.K fd ps []) (I : L2.Inv X pins σ H s) (r : Vals vs us)
    (h : ∀ x dx, H x = none → H dx = none → dx ≠ x → sp (.ref x :: vs) (upd (upd H dx (.own x)) x (.ins C dx [])) (fun v H2 => v = .non ∧ Q (.ref x) H2) fun cls d H' => W cls d σ H') : wpAny (model X.prog X.w) X.A (PySem.call (.ref C) us) (EP X pins σ Q) X.xe s := by
  have hq := h (s.heap.objs.size + 1) s.heap.objs.size (I.hok.fresh (Nat.le_succ _)) (I.hok.fresh (Nat.le_refl _)) (Nat.ne_of_lt (Nat.lt_succ_self _))
  have I2 := L2.Inv.made (C := C) I
  have r2 : Vals (V.ref (s.heap.objs.size + 1) :: vs) (Value.ref (s.heap.objs.size + 1) :: us) := .cons rfl r
  have hl : (Value.ref (s.heap.objs.size + 1) :: us).length = ps.length := r2.length.symm.trans (F.len _ _ _ _ hq)
  have hk := I2.kIn
  rw [c.hK] at hk
  have bb := hb _ (Value.ref (s.heap.objs.size + 1) :: us) hk (by rw [List.append_nil]; exact hl)
  rw [List.append_nil] at bb
  have M' : L2.Mk X.K C f := by rw [c.hK]; exact M
  have e0 := I2.env0.make C us []
  have go := F.run _ X.stack _ _ ⟨Value.ref (s.heap.objs.size + 1) :: us, []⟩ (Value.ref (s.heap.objs.size + 1) :: us) _ _ (fun cls d H' => W cls d σ H') (hr.make C us []) c.gd
    (by rw [← c.hP, ← c.hw, ← c.hK, ← c.hmg, ← c.hb]; exact e0) bb r2 hq
  rw [← c.hP, ← c.hw] at go
  refine wpAny_call (make_map (f := f) I.kIn M'.makes M'.init (beq_iff_eq.mp M'.fn) (codeAny_mono go fun res s' hq' => ?_))
  match res, hq' with
  | .error e, hq' => exact c.tk e s' (XE.of_call I2 (fun _ _ _ z => z) hq')
  | .ok (.ret u), hq' =>
    obtain ⟨v, H', I3, rv, ev, q3⟩ := I2.after hq'
    subst ev
    exact ⟨rv, ⟨V.ref (s.heap.objs.size + 1), H', I3, rfl, q3⟩⟩
  | .ok .next, hq' => exact False.elim hq'
  | .ok .brk, hq' => exact False.elim hq'
  | .ok .cont, hq' => exact False.elim hq'
theorem sp_make {np cc i : Nat} {Φ : Fam} {α : List Addr} {H : Hp} {st : Sto} {ds : List D} {vs : List V} {σ : L2.St} {Q : VK} (hC : g.ca cc = some C) (s : StR g α st H) (r : RDs g α H ds vs) (hl : ds.length = np)
    (q : Post g W σ α H (makeD cc i Φ ds st) fun d _ α' H' => ∀ v, RD g α' H' d v → Q v H') :
    ∀ x dx, H x = none → H dx = none → dx ≠ x → spD g (np + 1) (Φ i) (.ref x :: vs) (upd (upd H dx (.own x)) x (.ins C dx [])) (fun v H2 => v = .non ∧ Q (.ref x) H2) fun cls d H' => W cls d σ H' := by
  intro x dx hx hdx hne
  have s1 := s.temp hdx (.own x)
  have x1 := ext_new s hdx (.own x)
  have hx' : upd H dx (.own x) x = none := by rw [upd_ne (Ne.symm hne)]; exact hx
  have x2 := x1.trans (ext_alloc s1 hx' (.ins C dx []))
  have s2 : StR g (α ++ [x]) (st ++ [.ins cc []]) (upd (upd H dx (.own x)) x (.ins C dx [])) := s1.alloc hx' ⟨C, dx, [], hC, upd_same, rfl⟩
  have rx : RD g (α ++ [x]) (upd (upd H dx (.own x)) x (.ins C dx [])) (.obj st.length) (.ref x) := ⟨x, rfl, alloc_at s x⟩
  refine sp_of s2 (RDs.cons rx (r.mono x2)) (by rw [List.length_cons, hl]) ?_
  have q1 : Post g W σ (α ++ [x]) _ (makeD cc i Φ ds st) _ := q.mono x2
  unfold makeD initR at q1
  cases hφ : Φ i (.obj st.length :: ds) (st ++ [.ins cc []]) with
  | stuck => rw [hφ] at q1; exact q1.elim
  | exc c1 fs st2 => rw [hφ] at q1; exact q1
  | ok d st2 =>
    rw [hφ] at q1
    cases d <;> first | exact q1.elim | skip
    intro α' H' x3 s3 v rv
    refine ⟨rv, q1 α' H' x3 s3 (.ref x) ⟨x, rfl, ?_⟩⟩
    exact x3.at (alloc_at s x)
theorem oe_make (c : Ck g X W) {cc i np : Nat} {Φ : Fam} (hC : g.ca cc = some C) (M : L2.Mk g.K C f) (F : FG g k f fd ps (spD g (np + 1) (Φ i))) (hr : Room (k + 1) X.A) {x : Str} {p : Pos} {e : Expr} {es : List Expr} {G : DA} (hm : g.mg x = some (.ref C)) (hb : Binds g.K fd ps [])
    (ha : OA g X W (e :: es) G) (hgl : ∀ env st ds st1, G env st = .ok ds st1 → ds.length = np) (hg : L2.Gl X x := by rfl) (hdb : (x == ("__debug__" : Str)) = false := by decide) (he : starEach (e :: es) X.env = (false, eval e X.env) :: starEach es X.env := by rfl)
    (hpl : (backTo pos (starEach es X.env)).any (·.1) = false := by rfl) : OE g X W (.Call (.Name x p) (e :: es) [] pos) (eCall (makeD cc i Φ) G) := by
  refine ⟨fun pins s σ H Q I ⟨α, env, st, hE, hS, p⟩ => ?_⟩
  have step : tA g W G σ H fun vs H1 => ∀ x dx, H1 x = none → H1 dx = none → dx ≠ x → spD g (np + 1) (Φ i) (.ref x :: vs) (upd (upd H1 dx (.own x)) x (.ins C dx [])) (fun v H2 => v = .non ∧ Q (.ref x) H2) fun cls d H' => W cls d σ H' := by
    refine tA.run hE hS ?_
    have pb := p.bind
    cases hG : G env st with
    | stuck => rw [hG] at pb; exact pb.elim
    | exc c1 fs st1 => rw [hG] at pb; exact pb
    | ok ds st1 =>
      rw [hG] at pb
      intro α1 H1 x1 s1 vs r
      exact sp_make hC s1 r (hgl _ _ _ _ hG) (pb α1 H1 x1 s1)
  have M' : L2.Mk X.K C f := by rw [c.hK]; exact M
  refine wpAny_Call_Name_kw (ld_glob I hg (by rw [c.hmg]; exact hm) ?_ hdb)
  refine PySem.W.callWith_K (h₀ := X.base) I.ok.mod.kin M'.kp (thn (L2.PA.run ha pos pins s σ H _ I step) fun us s1 ⟨vs, H1, I1, r, q⟩ => ⟨I1.kIn, ?_⟩) he hpl
  exact F.make c M hr hb I1 r q
theorem oe_make0 (c : Ck g X W) {cc i : Nat} {Φ : Fam} (hC : g.ca cc = some C) (M : L2.Mk g.K C f) (F : FG g k f fd ps (spD g (0 + 1) (Φ i))) (hr : Room (k + 1) X.A) {x : Str} {p : Pos} (hm : g.mg x = some (.ref C)) (hb : Binds g.K fd ps [])
    (hg : L2.Gl X x := by rfl) (hdb : (x == ("__debug__" : Str)) = false := by decide) : OE g X W (.Call (.Name x p) [] [] pos) (eCall (makeD cc i Φ) aNil) := by
  refine ⟨fun pins s σ H Q I ⟨α, env, st, hE, hS, p⟩ => ?_⟩
  have M' : L2.Mk X.K C f := by rw [c.hK]; exact M
  refine wpAny_Call_Name_kw (ld_glob I hg (by rw [c.hmg]; exact hm) ?_ hdb)
  exact PySem.W.callWith_K0 I.kIn M'.kp (F.make (us := []) c M hr hb I .nil (sp_make hC hS RDs.nil rfl p))
end
end Mi

namespace Mi
open PySem L2
/-! ### defs as values, calls of a local name that holds one -/
def eCallV (ok : Nat → Bool) (i : Nat) (Φ : Fam) (G : DA) : DE := fun env st => match env[i]? with
  | some (some (.fn j)) => if ok j = true then (G env st).bind fun ds st1 => Φ j ds st1 else .stuck
  | _ => .stuck
/-- the defs that may be held -/
def FnT (g : Gd) (k np : Nat) (ok : Nat → Bool) (Φ : Fam) : Prop :=
  ∀ j f, ok j = true → g.fa j = some f → PySem.W.keepIn g.K (.ref f) = true ∧ ∃ fd ps, FG g k f fd ps (spD g np (Φ j)) ∧ Binds g.K fd ps []
section
variable {g : Gd} {X : Cx} {W : WX} {k : Nat} {pos : Pos}
theorem oe_fn (c : Ck g X W) {x : Str} {f : Addr} {j : Nat} (hm : g.mg x = some (.ref f)) (hf : g.fa j = some f) (hg : L2.Gl X x := by rfl) (hd : (x == ("__debug__" : Str)) = false := by decide) : OE g X W (.Name x pos) (eC (.fn j)) :=
  oe_glob c (v := .ref f) hm rfl (fun _ _ => ⟨f, rfl, hf⟩) hg hd
theorem oe_callV (c : Ck g X W) {ok : Nat → Bool} {i np : Nat} {Φ : Fam} (T : FnT g k np ok Φ) (hr : Room k X.A) {x : Str} {p : Pos} {e : Expr} {es : List Expr} {G : DA} (ha : OA g X W (e :: es) G) (hgl : ∀ env st ds st1, G env st = .ok ds st1 → ds.length = np)
    (hN : X.N[i]? = some x := by rfl) (hv : Vis X.env.scope x := by first | exact Or.inl rfl | exact Or.inr (Or.inl rfl) | exact Or.inr (Or.inr rfl))
    (hdb : (x == ("__debug__" : Str)) = false := by decide) (hcd : (x == ("__classdict__" : Str)) = false := by decide)
    (he : starEach (e :: es) X.env = (false, eval e X.env) :: starEach es X.env := by rfl) (hpl : (backTo pos (starEach es X.env)).any (·.1) = false := by rfl) : OE g X W (.Call (.Name x p) (e :: es) [] pos) (eCallV ok i Φ G) := by
  refine ⟨fun pins s σ H Q I ⟨α, env, st, hE, hS, q⟩ => ?_⟩
  unfold eCallV at q
  split at q
  · rename_i j hj
    split at q
    · rename_i hok
      obtain ⟨v, hs, f, rfl, hf⟩ := hE.val i _ hj
      obtain ⟨hk, fd, ps, F, hb⟩ := T j f hok hf
      have step : tA g W G σ H fun vs H1 => spD g np (Φ j) vs H1 Q fun cls d H' => W cls d σ H' := by
        refine tA.run hE hS ?_
        have pb := q.bind
        cases hG : G env st with
        | stuck => rw [hG] at pb; exact pb.elim
        | exc c1 fs st1 => rw [hG] at pb; exact pb
        | ok ds st1 =>
          rw [hG] at pb
          intro α1 H1 x1 s1 vs r
          exact sp_of s1 r (hgl _ _ _ _ hG) (pb α1 H1 x1 s1)
      refine wpAny_Call_Name_kw (thn ((pe_var (pos := p) hN hv hdb hcd).run pins s σ H (fun v H1 => v = .ref f ∧ H1 = H) I ⟨.ref f, hs, rfl, rfl⟩) fun u s1 ⟨v, H1, I1, r1, q1⟩ => ?_)
      obtain ⟨rfl, rfl⟩ := q1
      cases r1
      refine PySem.W.callWith_K (h₀ := X.base) I.ok.mod.kin (by rw [c.hK]; exact hk) (thn (L2.PA.run ha pos pins s1 σ _ _ I1 step) fun us s2 ⟨vs, H2, I2, r, q⟩ => ⟨I2.kIn, ?_⟩) he hpl
      exact F.call c hr hb I2 r q
    · exact q.elim
  · exact q.elim
end
end Mi

namespace Mi
open PySem PySem.Spec PyProof.Rows L2
/-! ### keywords and defaults: gD puts the positional and the keywords' values in the parameters' order -/
structure KBd (g : Gd) (fd : FuncData) (ps : List Str) (n : Nat) (ks : List Str) (gD : List D → List D → List D) : Prop where
  ex : ∃ (gU : List Value → List Value → List Value) (gV : List V → List V → List V), KBn g.K fd ps n ks gU gV ∧ ∀ (α : List Addr) (H : Hp) (ds es : List D) (vs zs : List V), RDs g α H ds vs → RDs g α H es zs → RDs g α H (gD ds es) (gV vs zs)
def OKw (g : Gd) (X : Cx) (W : WX) (kws : List Keyword) (G : DA) : Prop := PK X kws (tA g W G)
def eCallK (φ : List D → Sto → R D) (gD : List D → List D → List D) (G G' : DA) : DE := fun env st => (G env st).bind fun ds st1 => (G' env st1).bind fun es st2 => φ (gD ds es) st2
section
variable {g : Gd} {X : Cx} {W : WX} {k : Nat} {C f : Addr} {fd : FuncData} {ps ks : List Str} {sp : Sp} {pos kpos : Pos}
theorem ok_nil : OKw g X W [] aNil := ⟨fun pos pins s σ H Q I ⟨α, env, st, hE, hS, p⟩ => PK.run pk_nil pos pins s σ H Q I (p.ok hS [] RDs.nil)⟩
theorem ok_cons {nm : Option Str} {e : Expr} {kws : List Keyword} {F : DE} {G : DA} (h : OE g X W e F) (k : OKw g X W kws G) : OKw g X W (⟨nm, e, kpos⟩ :: kws) (aCons F G) :=
  ⟨fun pos pins s σ H Q I ⟨α, env, st, hE, hS, p⟩ => (pk_cons h k).run pos pins s σ H Q I (by
    refine tE.run hE hS (p.bind.imp fun d1 st1 α1 H1 x1 s1 q v1 r1 => ?_)
    refine tA.run (hE.mono x1) s1 (q.bind.imp fun d2 st2 α2 H2 x2 s2 q2 v2 r2 => ?_)
    exact q2.ok s2 _ (.cons (r1.mono x2) r2))⟩
theorem FG.callA (c : Ck g X W) {pins : List (Addr × Obj)} {σ : L2.St} {H : Hp} {s : Shared} {Q : VK} {us as : List Value} {kw : List (Str × Value)} {vs : List V} (F : FG g k f fd ps sp) (hr : Room k X.A) (hb : g.K.In s.heap → BindsTo s fd ⟨as, kw⟩ (ps.zip us)) (I : L2.Inv X pins σ H s) (r : Vals vs us)
    (h : sp vs H Q fun cls d H' => W cls d σ H') : wpAny (model X.prog X.w) X.A (PySem.call (.ref f) as kw) (EP X pins σ Q) X.xe s := by
  have hk : g.K.In s.heap := by rw [← c.hK]; exact I.kIn
  have bb := hb hk
  have e0 := I.env0
  have go := F.run X.A X.stack s H ⟨as, kw⟩ us vs Q (fun cls d H' => W cls d σ H') hr c.gd (by rw [← c.hP, ← c.hw, ← c.hK, ← c.hmg, ← c.hb]; exact e0) bb r h
  rw [← c.hP, ← c.hw] at go
  refine wpAny_call (codeAny_mono go fun res s' hq => ?_)
  match res, hq with
  | .error e, hq => exact c.tk e s' (XE.of_call I (fun _ _ _ z => z) hq)
  | .ok (.ret u), hq => exact I.after hq
  | .ok .next, hq => exact False.elim hq
  | .ok .brk, hq => exact False.elim hq
  | .ok .cont, hq => exact False.elim hq
theorem FG.makeA (c : Ck g X W) {pins : List (Addr × Obj)} {σ : L2.St} {H : Hp} {s : Shared} {Q : VK} {ws : List Value} {us : List Value} {vs zs : List V} {n : Nat} {gU : List Value → List Value → List Value} {gV : List V → List V → List V} (M : L2.Mk g.K C f) (F : FG g k f fd ps sp) (hr : Room (k + 1) X.A) (hb : KBn g.K fd ps (n + 1) ks gU gV)
    (I : L2.Inv X pins σ H s) (r : Vals vs us) (rz : Vals zs ws) (l1 : vs.length = n) (l2 : zs.length = ks.length)
    (h : ∀ x dx, H x = none → H dx = none → dx ≠ x → sp (gV (.ref x :: vs) zs) (upd (upd H dx (.own x)) x (.ins C dx [])) (fun v H2 => v = .non ∧ Q (.ref x) H2) fun cls d H' => W cls d σ H') : wpAny (model X.prog X.w) X.A (PySem.call (.ref C) us (ks.zip ws)) (EP X pins σ Q) X.xe s := by
  have hq := h (s.heap.objs.size + 1) s.heap.objs.size (I.hok.fresh (Nat.le_succ _)) (I.hok.fresh (Nat.le_refl _)) (Nat.ne_of_lt (Nat.lt_succ_self _))
  have I2 := L2.Inv.made (C := C) I
  have r1 : Vals (V.ref (s.heap.objs.size + 1) :: vs) (Value.ref (s.heap.objs.size + 1) :: us) := .cons rfl r
  have r2 := hb.rel r1 rz
  have n1 : (Value.ref (s.heap.objs.size + 1) :: us).length = n + 1 := by rw [List.length_cons, ← r.length, l1]
  have hk := I2.kIn
  rw [c.hK] at hk
  have bb := hb.to _ (Value.ref (s.heap.objs.size + 1) :: us) ws hk n1 (rz.length.symm.trans l2)
  have M' : L2.Mk X.K C f := by rw [c.hK]; exact M
  have e0 := I2.env0.make C us (ks.zip ws)
  have go := F.run _ X.stack _ _ ⟨Value.ref (s.heap.objs.size + 1) :: us, ks.zip ws⟩ (gU (Value.ref (s.heap.objs.size + 1) :: us) ws) _ _ (fun cls d H' => W cls d σ H') (hr.make C us (ks.zip ws)) c.gd
    (by rw [← c.hP, ← c.hw, ← c.hK, ← c.hmg, ← c.hb]; exact e0) bb r2 hq
  rw [← c.hP, ← c.hw] at go
  refine wpAny_call (make_map (f := f) I.kIn M'.makes M'.init (beq_iff_eq.mp M'.fn) (codeAny_mono go fun res s' hq' => ?_))
  match res, hq' with
  | .error e, hq' => exact c.tk e s' (XE.of_call I2 (fun _ _ _ z => z) hq')
  | .ok (.ret u), hq' =>
    obtain ⟨v, H', I3, rv, ev, q3⟩ := I2.after hq'
    subst ev
    exact ⟨rv, ⟨V.ref (s.heap.objs.size + 1), H', I3, rfl, q3⟩⟩
  | .ok .next, hq' => exact False.elim hq'
  | .ok .brk, hq' => exact False.elim hq'
  | .ok .cont, hq' => exact False.elim hq'
/-- a call by keywords -/
theorem oe_callK (c : Ck g X W) {np n : Nat} {φ : List D → Sto → R D} {gD : List D → List D → List D} (F : FG g k f fd ps (spD g np φ)) (hr : Room k X.A) {x : Str} {p : Pos} {e : Expr} {es : List Expr} {kws : List Keyword} {G G' : DA} (hm : g.mg x = some (.ref f)) (hk : PySem.W.keepIn g.K (.ref f) = true) (hb : KBd g fd ps n ks gD)
    (ha : OA g X W (e :: es) G) (hkw : OKw g X W kws G') (hgl : ∀ env st ds st1, G env st = .ok ds st1 → ds.length = n) (hgl' : ∀ env st ds st1, G' env st = .ok ds st1 → ds.length = ks.length) (hgd : ∀ ds es : List D, ds.length = n → es.length = ks.length → (gD ds es).length = np)
    (hall : (backToKw pos (keywordEach kws X.env)).all (·.1.isSome) = true := by rfl) (hks : (backToKw pos (keywordEach kws X.env)).filterMap (·.1) = ks := by rfl)
    (hg : L2.Gl X x := by rfl) (hdb : (x == ("__debug__" : Str)) = false := by decide) (he : starEach (e :: es) X.env = (false, eval e X.env) :: starEach es X.env := by rfl)
    (hpl : ((backTo pos (starEach (e :: es) X.env)).any (·.1) || (backToKw pos (keywordEach kws X.env)).any (·.1.isNone)) = false := by rfl) : OE g X W (.Call (.Name x p) (e :: es) kws pos) (eCallK φ gD G G') := by
  obtain ⟨gU, gV, hb, hrd⟩ := hb.ex
  refine ⟨fun pins s σ H Q I ⟨α, env, st, hE, hS, p⟩ => ?_⟩
  have step : tA g W G σ H fun vs H1 => vs.length = n ∧ tA g W G' σ H1 fun zs H2 => zs.length = ks.length ∧ spD g np φ (gV vs zs) H2 Q fun cls d H' => W cls d σ H' := by
    refine tA.run hE hS ?_
    have pb := p.bind
    cases hG : G env st with
    | stuck => rw [hG] at pb; exact pb.elim
    | exc c1 fs st1 => rw [hG] at pb; exact pb
    | ok ds st1 =>
      rw [hG] at pb
      intro α1 H1 x1 s1 vs r
      refine ⟨by rw [← r.length, hgl _ _ _ _ hG], ?_⟩
      refine tA.run (hE.mono x1) s1 ?_
      have pb2 := Post.bind (pb α1 H1 x1 s1)
      cases hG' : G' env st1 with
      | stuck => rw [hG'] at pb2; exact pb2.elim
      | exc c1 fs st2 => rw [hG'] at pb2; exact pb2
      | ok es2 st2 =>
        rw [hG'] at pb2
        intro α2 H2 x2 s2 zs rz
        exact ⟨by rw [← rz.length, hgl' _ _ _ _ hG'], sp_of s2 (hrd α2 H2 ds es2 vs zs (r.mono x2) rz) (hgd _ _ (hgl _ _ _ _ hG) (hgl' _ _ _ _ hG')) (pb2 α2 H2 x2 s2)⟩
  refine wpAny_Call_Name_kw (ld_glob I hg (by rw [c.hmg]; exact hm) ?_ hdb)
  refine PySem.W.callWith_KW (h₀ := X.base) I.ok.mod.kin (by rw [c.hK]; exact hk) hall (thn (L2.PA.run ha pos pins s σ H _ I step) fun us s1 ⟨vs, H1, I1, r, l1, q⟩ => ?_) hpl he
  refine thn (L2.PK.run hkw pos pins s1 σ H1 _ I1 q) fun ws s2 ⟨zs, H2, I2, rz, l2, q2⟩ => ⟨I2.kIn, ?_⟩
  rw [hks]
  exact F.callA c hr (fun hk => hb.to s2 us ws hk (by rw [← r.length, l1]) (rz.length.symm.trans l2)) I2 (hb.rel r rz) q2
/-- making by keywords -/
theorem sp_makeK {np n cc i : Nat} {Φ : Fam} {gD : List D → List D → List D} {gV : List V → List V → List V} {α : List Addr} {H : Hp} {st : Sto} {ds es : List D} {vs zs : List V} {σ : L2.St} {Q : VK} (hC : g.ca cc = some C)
    (hrd : ∀ (α : List Addr) (H : Hp) (ds es : List D) (vs zs : List V), RDs g α H ds vs → RDs g α H es zs → RDs g α H (gD ds es) (gV vs zs)) (hgd : ∀ d : D, (gD (d :: ds) es).length = np) (s : StR g α st H) (r : RDs g α H ds vs) (rz : RDs g α H es zs)
    (q : Post g W σ α H (initR st.length (Φ i (gD (.obj st.length :: ds) es) (st ++ [.ins cc []]))) fun d _ α' H' => ∀ v, RD g α' H' d v → Q v H') :
    ∀ x dx, H x = none → H dx = none → dx ≠ x → spD g np (Φ i) (gV (.ref x :: vs) zs) (upd (upd H dx (.own x)) x (.ins C dx [])) (fun v H2 => v = .non ∧ Q (.ref x) H2) fun cls d H' => W cls d σ H' := by
  intro x dx hx hdx hne
  have s1 := s.temp hdx (.own x)
  have x1 := ext_new s hdx (.own x)
  have hx' : upd H dx (.own x) x = none := by rw [upd_ne (Ne.symm hne)]; exact hx
  have x2 := x1.trans (ext_alloc s1 hx' (.ins C dx []))
  have s2 : StR g (α ++ [x]) (st ++ [.ins cc []]) (upd (upd H dx (.own x)) x (.ins C dx [])) := s1.alloc hx' ⟨C, dx, [], hC, upd_same, rfl⟩
  have rx : RD g (α ++ [x]) (upd (upd H dx (.own x)) x (.ins C dx [])) (.obj st.length) (.ref x) := ⟨x, rfl, alloc_at s x⟩
  refine sp_of s2 (hrd _ _ _ _ _ _ (RDs.cons rx (r.mono x2)) (rz.mono x2)) (hgd _) ?_
  have q1 : Post g W σ (α ++ [x]) _ (initR st.length (Φ i (gD (.obj st.length :: ds) es) (st ++ [.ins cc []]))) _ := q.mono x2
  unfold initR at q1
  cases hφ : Φ i (gD (.obj st.length :: ds) es) (st ++ [.ins cc []]) with
  | stuck => rw [hφ] at q1; exact q1.elim
  | exc c1 fs st2 => rw [hφ] at q1; exact q1
  | ok d st2 =>
    rw [hφ] at q1
    cases d <;> first | exact q1.elim | skip
    intro α' H' x3 s3 v rv
    exact ⟨rv, q1 α' H' x3 s3 (.ref x) ⟨x, rfl, x3.at (alloc_at s x)⟩⟩
def makeKD (c i : Nat) (Φ : Fam) (gD : List D → List D → List D) (ds es : List D) (st : Sto) : R D := initR st.length (Φ i (gD (.obj st.length :: ds) es) (st ++ [.ins c []]))
def eMakeK (c i : Nat) (Φ : Fam) (gD : List D → List D → List D) (G G' : DA) : DE := fun env st => (G env st).bind fun ds st1 => (G' env st1).bind fun es st2 => makeKD c i Φ gD ds es st2
theorem oe_makeK (c : Ck g X W) {cc i np n : Nat} {Φ : Fam} {gD : List D → List D → List D} (hC : g.ca cc = some C) (M : L2.Mk g.K C f) (F : FG g k f fd ps (spD g np (Φ i))) (hr : Room (k + 1) X.A) {x : Str} {p : Pos} {e : Expr} {es : List Expr} {kws : List Keyword} {G G' : DA} (hm : g.mg x = some (.ref C)) (hb : KBd g fd ps (n + 1) ks gD)
    (ha : OA g X W (e :: es) G) (hkw : OKw g X W kws G') (hgl : ∀ env st ds st1, G env st = .ok ds st1 → ds.length = n) (hgl' : ∀ env st ds st1, G' env st = .ok ds st1 → ds.length = ks.length) (hgd : ∀ ds es : List D, ds.length = n + 1 → es.length = ks.length → (gD ds es).length = np)
    (hall : (backToKw pos (keywordEach kws X.env)).all (·.1.isSome) = true := by rfl) (hks : (backToKw pos (keywordEach kws X.env)).filterMap (·.1) = ks := by rfl)
    (hg : L2.Gl X x := by rfl) (hdb : (x == ("__debug__" : Str)) = false := by decide) (he : starEach (e :: es) X.env = (false, eval e X.env) :: starEach es X.env := by rfl)
    (hpl : ((backTo pos (starEach (e :: es) X.env)).any (·.1) || (backToKw pos (keywordEach kws X.env)).any (·.1.isNone)) = false := by rfl) : OE g X W (.Call (.Name x p) (e :: es) kws pos) (eMakeK cc i Φ gD G G') := by
  obtain ⟨gU, gV, hb, hrd⟩ := hb.ex
  refine ⟨fun pins s σ H Q I ⟨α, env, st, hE, hS, p⟩ => ?_⟩
  have step : tA g W G σ H fun vs H1 => vs.length = n ∧ tA g W G' σ H1 fun zs H2 => zs.length = ks.length ∧ ∀ x dx, H2 x = none → H2 dx = none → dx ≠ x → spD g np (Φ i) (gV (.ref x :: vs) zs) (upd (upd H2 dx (.own x)) x (.ins C dx [])) (fun v H3 => v = .non ∧ Q (.ref x) H3) fun cls d H' => W cls d σ H' := by
    refine tA.run hE hS ?_
    have pb := p.bind
    cases hG : G env st with
    | stuck => rw [hG] at pb; exact pb.elim
    | exc c1 fs st1 => rw [hG] at pb; exact pb
    | ok ds st1 =>
      rw [hG] at pb
      intro α1 H1 x1 s1 vs r
      refine ⟨by rw [← r.length, hgl _ _ _ _ hG], ?_⟩
      refine tA.run (hE.mono x1) s1 ?_
      have pb2 := Post.bind (pb α1 H1 x1 s1)
      cases hG' : G' env st1 with
      | stuck => rw [hG'] at pb2; exact pb2.elim
      | exc c1 fs st2 => rw [hG'] at pb2; exact pb2
      | ok es2 st2 =>
        rw [hG'] at pb2
        intro α2 H2 x2 s2 zs rz
        exact ⟨by rw [← rz.length, hgl' _ _ _ _ hG'], sp_makeK (n := n) hC hrd (fun d => hgd _ _ (by rw [List.length_cons, hgl _ _ _ _ hG]) (hgl' _ _ _ _ hG')) s2 (r.mono x2) rz (pb2 α2 H2 x2 s2)⟩
  have M' : L2.Mk X.K C f := by rw [c.hK]; exact M
  refine wpAny_Call_Name_kw (ld_glob I hg (by rw [c.hmg]; exact hm) ?_ hdb)
  refine PySem.W.callWith_KW (h₀ := X.base) I.ok.mod.kin M'.kp hall (thn (L2.PA.run ha pos pins s σ H _ I step) fun us s1 ⟨vs, H1, I1, r, l1, q⟩ => ?_) hpl he
  refine thn (L2.PK.run hkw pos pins s1 σ H1 _ I1 q) fun ws s2 ⟨zs, H2, I2, rz, l2, q2⟩ => ⟨I2.kIn, ?_⟩
  rw [hks]
  exact F.makeA c M hr hb I2 r rz l1 l2 q2
theorem oe_makeK0 (c : Ck g X W) {cc i np : Nat} {Φ : Fam} {gD : List D → List D → List D} (hC : g.ca cc = some C) (M : L2.Mk g.K C f) (F : FG g k f fd ps (spD g np (Φ i))) (hr : Room (k + 1) X.A) {x : Str} {p : Pos} {kws : List Keyword} {G' : DA} (hm : g.mg x = some (.ref C)) (hb : KBd g fd ps 1 ks gD)
    (hkw : OKw g X W kws G') (hgl' : ∀ env st ds st1, G' env st = .ok ds st1 → ds.length = ks.length) (hgd : ∀ ds es : List D, ds.length = 1 → es.length = ks.length → (gD ds es).length = np)
    (hall : (backToKw pos (keywordEach kws X.env)).all (·.1.isSome) = true := by rfl) (hks : (backToKw pos (keywordEach kws X.env)).filterMap (·.1) = ks := by rfl)
    (hg : L2.Gl X x := by rfl) (hdb : (x == ("__debug__" : Str)) = false := by decide)
    (hpl : ((backTo pos (starEach [] X.env)).any (·.1) || (backToKw pos (keywordEach kws X.env)).any (·.1.isNone)) = false := by rfl) : OE g X W (.Call (.Name x p) [] kws pos) (eMakeK cc i Φ gD aNil G') := by
  obtain ⟨gU, gV, hb, hrd⟩ := hb.ex
  refine ⟨fun pins s σ H Q I ⟨α, env, st, hE, hS, p⟩ => ?_⟩
  have step : tA g W G' σ H fun zs H2 => zs.length = ks.length ∧ ∀ x dx, H2 x = none → H2 dx = none → dx ≠ x → spD g np (Φ i) (gV (.ref x :: []) zs) (upd (upd H2 dx (.own x)) x (.ins C dx [])) (fun v H3 => v = .non ∧ Q (.ref x) H3) fun cls d H' => W cls d σ H' := by
    refine tA.run hE hS ?_
    have pb2 := Post.bind (r := G' env st) (k := fun es st2 => makeKD cc i Φ gD [] es st2) p
    cases hG' : G' env st with
    | stuck => rw [hG'] at pb2; exact pb2.elim
    | exc c1 fs st2 => rw [hG'] at pb2; exact pb2
    | ok es2 st2 =>
      rw [hG'] at pb2
      intro α2 H2 x2 s2 zs rz
      exact ⟨by rw [← rz.length, hgl' _ _ _ _ hG'], sp_makeK (n := 0) hC hrd (fun d => hgd _ _ rfl (hgl' _ _ _ _ hG')) s2 RDs.nil rz (pb2 α2 H2 x2 s2)⟩
  have M' : L2.Mk X.K C f := by rw [c.hK]; exact M
  refine wpAny_Call_Name_kw (ld_glob I hg (by rw [c.hmg]; exact hm) ?_ hdb)
  refine PySem.W.callWith_KW0 (h₀ := X.base) I.ok.mod.kin M'.kp hall ?_ hpl
  refine thn (L2.PK.run hkw pos pins s σ H _ I step) fun ws s2 ⟨zs, H2, I2, rz, l2, q2⟩ => ⟨I2.kIn, ?_⟩
  rw [hks]
  exact F.makeA (us := []) (vs := []) (n := 0) c M hr hb I2 .nil rz rfl l2 q2
/-- defaults alone, no keywords -/
theorem oe_makeD (c : Ck g X W) {cc i np n : Nat} {Φ : Fam} {gD : List D → List D → List D} (hC : g.ca cc = some C) (M : L2.Mk g.K C f) (F : FG g k f fd ps (spD g np (Φ i))) (hr : Room (k + 1) X.A) {x : Str} {p : Pos} {e : Expr} {es : List Expr} {G : DA} (hm : g.mg x = some (.ref C)) (hb : KBd g fd ps (n + 1) [] gD)
    (ha : OA g X W (e :: es) G) (hgl : ∀ env st ds st1, G env st = .ok ds st1 → ds.length = n) (hgd : ∀ ds es : List D, ds.length = n + 1 → es.length = 0 → (gD ds es).length = np)
    (hg : L2.Gl X x := by rfl) (hdb : (x == ("__debug__" : Str)) = false := by decide) (he : starEach (e :: es) X.env = (false, eval e X.env) :: starEach es X.env := by rfl)
    (hpl : (backTo pos (starEach es X.env)).any (·.1) = false := by rfl) : OE g X W (.Call (.Name x p) (e :: es) [] pos) (eMakeK cc i Φ gD G aNil) := by
  obtain ⟨gU, gV, hb, hrd⟩ := hb.ex
  refine ⟨fun pins s σ H Q I ⟨α, env, st, hE, hS, p⟩ => ?_⟩
  have step : tA g W G σ H fun vs H1 => vs.length = n ∧ ∀ x dx, H1 x = none → H1 dx = none → dx ≠ x → spD g np (Φ i) (gV (.ref x :: vs) []) (upd (upd H1 dx (.own x)) x (.ins C dx [])) (fun v H3 => v = .non ∧ Q (.ref x) H3) fun cls d H' => W cls d σ H' := by
    refine tA.run hE hS ?_
    have pb := p.bind
    cases hG : G env st with
    | stuck => rw [hG] at pb; exact pb.elim
    | exc c1 fs st1 => rw [hG] at pb; exact pb
    | ok ds st1 =>
      rw [hG] at pb
      intro α1 H1 x1 s1 vs r
      exact ⟨by rw [← r.length, hgl _ _ _ _ hG], sp_makeK (n := n) hC hrd (fun d => hgd _ _ (by rw [List.length_cons, hgl _ _ _ _ hG]) rfl) s1 r RDs.nil (pb α1 H1 x1 s1)⟩
  have M' : L2.Mk X.K C f := by rw [c.hK]; exact M
  refine wpAny_Call_Name_kw (ld_glob I hg (by rw [c.hmg]; exact hm) ?_ hdb)
  refine PySem.W.callWith_K (h₀ := X.base) I.ok.mod.kin M'.kp (thn (L2.PA.run ha pos pins s σ H _ I step) fun us s1 ⟨vs, H1, I1, r, l1, q⟩ => ⟨I1.kIn, ?_⟩) he hpl
  exact F.makeA (ws := []) (zs := []) (ks := []) c M hr hb I1 r .nil l1 rfl q
theorem oe_makeD0 (c : Ck g X W) {cc i np : Nat} {Φ : Fam} {gD : List D → List D → List D} (hC : g.ca cc = some C) (M : L2.Mk g.K C f) (F : FG g k f fd ps (spD g np (Φ i))) (hr : Room (k + 1) X.A) {x : Str} {p : Pos} (hm : g.mg x = some (.ref C)) (hb : KBd g fd ps 1 [] gD)
    (hgd : ∀ ds es : List D, ds.length = 1 → es.length = 0 → (gD ds es).length = np) (hg : L2.Gl X x := by rfl) (hdb : (x == ("__debug__" : Str)) = false := by decide) : OE g X W (.Call (.Name x p) [] [] pos) (eMakeK cc i Φ gD aNil aNil) := by
  obtain ⟨gU, gV, hb, hrd⟩ := hb.ex
  refine ⟨fun pins s σ H Q I ⟨α, env, st, hE, hS, p⟩ => ?_⟩
  have M' : L2.Mk X.K C f := by rw [c.hK]; exact M
  refine wpAny_Call_Name_kw (ld_glob I hg (by rw [c.hmg]; exact hm) ?_ hdb)
  exact PySem.W.callWith_K0 I.kIn M'.kp (F.makeA (us := []) (vs := []) (ws := []) (zs := []) (ks := []) (n := 0) c M hr hb I .nil .nil rfl rfl (sp_makeK (n := 0) hC hrd (fun d => hgd _ _ rfl rfl) hS RDs.nil RDs.nil p))
theorem oe_callD (c : Ck g X W) {np n : Nat} {φ : List D → Sto → R D} {gD : List D → List D → List D} (F : FG g k f fd ps (spD g np φ)) (hr : Room k X.A) {x : Str} {p : Pos} {e : Expr} {es : List Expr} {G : DA} (hm : g.mg x = some (.ref f)) (hk : PySem.W.keepIn g.K (.ref f) = true) (hb : KBd g fd ps n [] gD)
    (ha : OA g X W (e :: es) G) (hgl : ∀ env st ds st1, G env st = .ok ds st1 → ds.length = n) (hgd : ∀ ds es : List D, ds.length = n → es.length = 0 → (gD ds es).length = np)
    (hg : L2.Gl X x := by rfl) (hdb : (x == ("__debug__" : Str)) = false := by decide) (he : starEach (e :: es) X.env = (false, eval e X.env) :: starEach es X.env := by rfl)
    (hpl : (backTo pos (starEach es X.env)).any (·.1) = false := by rfl) : OE g X W (.Call (.Name x p) (e :: es) [] pos) (eCallK φ gD G aNil) := by
  obtain ⟨gU, gV, hb, hrd⟩ := hb.ex
  refine ⟨fun pins s σ H Q I ⟨α, env, st, hE, hS, p⟩ => ?_⟩
  have step : tA g W G σ H fun vs H1 => vs.length = n ∧ spD g np φ (gV vs []) H1 Q fun cls d H' => W cls d σ H' := by
    refine tA.run hE hS ?_
    have pb := p.bind
    cases hG : G env st with
    | stuck => rw [hG] at pb; exact pb.elim
    | exc c1 fs st1 => rw [hG] at pb; exact pb
    | ok ds st1 =>
      rw [hG] at pb
      intro α1 H1 x1 s1 vs r
      exact ⟨by rw [← r.length, hgl _ _ _ _ hG], sp_of s1 (hrd α1 H1 ds [] vs [] r RDs.nil) (hgd _ _ (hgl _ _ _ _ hG) rfl) (pb α1 H1 x1 s1)⟩
  refine wpAny_Call_Name_kw (ld_glob I hg (by rw [c.hmg]; exact hm) ?_ hdb)
  refine PySem.W.callWith_K (h₀ := X.base) I.ok.mod.kin (by rw [c.hK]; exact hk) (thn (L2.PA.run ha pos pins s σ H _ I step) fun us s1 ⟨vs, H1, I1, r, l1, q⟩ => ⟨I1.kIn, ?_⟩) he hpl
  exact F.callA c hr (fun hk => hb.to s1 us [] hk (by rw [← r.length, l1]) rfl) I1 (hb.rel r .nil) q
/-- a def with defaults, by its body -/
theorem fg_ofD {x qual : Str} {params : Arguments} {body' : List Stmt} {scope : Scope} {dvs : List V} {kws : List (Str × V)} {f : Addr} {fd : FuncData} {N ps : List Str} {k np : Nat} {B : DS} (F : FunD g.K x qual params body' scope dvs kws f fd) (S : FnScope N ps scope) (hnp : ps.length = np) (hN : np ≤ N.length)
    (body : ∀ (cdv : Value) (A : Around) (fr : List PySem.Env) (s : Shared) (H : Hp) (E : XK), Ck g (cxD g N qual scope f cdv A fr s H E) (wE E) → Room k (cxD g N qual scope f cdv A fr s H E).A →
      OSs g (cxD g N qual scope f cdv A fr s H E) (wE E) body' B) : FG g (k + 1) f fd ps (spD g np (runB N.length B)) := by
  obtain ⟨oc, od, dV, kV, doc, pm, an, cdv, ct, osl, rfl, lk, hcd, _, _⟩ := F.ex
  have ln : ∀ vs H Q E, spD g np (runB N.length B) vs H Q E → vs.length = ps.length := fun vs H Q E ⟨α, st, ds, _, r, e, _⟩ => by rw [← r.length, e, hnp]
  refine ⟨ln, fun A fr s H as us vs Q E hr hgd e0 hb r hsp => ?_⟩
  have hl := ln _ _ _ _ hsp
  have kin : g.K.In s.heap := e0.mod.kin.keeps fun b o e => (e0.bs b o e).1
  have lim : s.heap.NoLimit := e0.mod.nolimit.keeps fun b o e => (e0.bs b o e).1
  have kinds : ∀ y ∈ ps.zip us, scope.names.lookup y.1 = some .local ∨ (scope.names.lookup y.1 = some .cell ∧ ((cellsFrom (s.heap.objs.size + 1) scope.names []).lookup y.1).isSome = true) := by
    rintro ⟨n, v⟩ hy
    rcases S.par n (List.of_mem_zip hy).1 with q | q
    · exact .inl q
    · exact .inr ⟨q, PySem.W.cellsFrom_some _ _ _ (.inl q)⟩
  refine codeAny_call_function hr.depth (kin _ _ lk) rfl S.co S.gen rfl (PySem.W.codeRec_of kin hcd) (hb _ _ _ _ ?_)
  refine wpAny_newFunctionEnv_cells S.kind kinds fun env he s1 xx => ?_
  subst he
  refine ⟨lim.keeps xx.toInCall.keep, codeAny_func ?_⟩
  have rm := hr.deeper (envOfC qual scope s.heap.objs.size f cdv)
  have ck : Ck g (cxD g N qual scope f cdv A fr s H E) (wE E) :=
    ⟨rfl, rfl, rfl, rfl, rfl, rfl, S.nd, takes_of rfl rfl rfl rfl, hgd, by have := rm.un; show (A.deeper (envOfC qual scope s.heap.objs.size f cdv)).units + 200 < cLine; omega, passes_of rfl⟩
  have ob := body cdv A fr s H E ck rm
  have I : L2.Inv (cxD g N qual scope f cdv A fr s H E) [] (L2.start N vs) H s1 := inv_start S hr.hd e0 hl r xx
  have fin : ∀ {σ' : L2.St} {H' : Hp} {s' : Shared} {v : V} {u : Value}, L2.Inv (cxD g N qual scope f cdv A fr s H E) [] σ' H' s' → RelV v u → Q v H' → CE fr g.P g.w H s Q u s' :=
    fun {σ' H' s' v u} J rv q => ⟨v, H', J.os, J.bare, J.base, J.hok, rv, q⟩
  obtain ⟨α, sto, ds, hS, rd, el, post⟩ := hsp
  have goal : tS g (wE E) B { nx := fun _ H' => Q .non H', rt := Q } (L2.start N vs) H := by
    refine ⟨α, _, sto, start_r rd (by rw [el]; exact hN), hS, ?_⟩
    unfold runB at post
    cases hB : B (ds.map some ++ List.replicate (N.length - ds.length) none) sto with
    | nx env1 st1 => rw [hB] at post; exact fun α' H' σ' e s r => post α' H' e s .non rfl
    | rt d st1 => rw [hB] at post; exact fun α' H' v e s r => post α' H' e s v r
    | bk env1 st1 => rw [hB] at post; exact post.elim
    | ct env1 st1 => rw [hB] at post; exact post.elim
    | exc c fs env1 st1 => rw [hB] at post; exact fun α' H' cls dx σ' e s _ x => post α' H' cls dx e s x
    | stuck => rw [hB] at post; exact post.elim
  refine wpAny_mono (ob.run [] s1 (L2.start N vs) H _ I goal) (fun fl s' hs => ?_) fun e s' hs => hs
  match fl, hs with
  | .ret u, hs => obtain ⟨v, σ', H', J, rv, q⟩ := hs; exact fin J rv q
  | .next, hs => obtain ⟨σ', H', J, q⟩ := hs; exact fin (v := V.non) (u := Value.none) J rfl q
  | .brk, hs => obtain ⟨_, _, _, q⟩ := hs; exact q.elim
  | .cont, hs => obtain ⟨_, _, _, q⟩ := hs; exact q.elim
end
end Mi

namespace Mi
open PySem PySem.Spec PyProof.Rows L2
/-! ### raise -/
def sRaise0 (c : Nat) : DS := fun env st => .exc c [] env st
section
variable {g : Gd} {X : Cx} {W : WX} {pos : Pos} {C : Addr} {B newId initId : String} {bmB : List Value}
theorem os_raise0 (c : Ck g X W) {cc : Nat} (hC : g.ca cc = some C) {x m : Str} {j : Nat} {p p2 p3 : Pos} (F : ExcBaseFacts B newId initId bmB) (q : PySem.W.excIn g.K C bmB newId = true) (gC : g.mg x = some (.ref C)) (kC : PySem.W.keepIn g.K (.ref C) = true) (r : Raises X (.ref C)) (hg : L2.Gl X x := by rfl)
    (hdb : (x == ("__debug__" : Str)) = false := by decide) : OS g X W (.Raise (some (.Call (.Name x p) [.Constant (.str m) j p2] [] p3)) none pos) (sRaise0 cc) :=
  ofS (ps_raise c.calm c.tk (pmk_own F (by rw [c.hK]; exact q) (by rw [c.hmg]; exact gC) (by rw [c.hK]; exact kC) r hg hdb)) fun E σ H ⟨α, env, st, hE, hS, p⟩ => by
    exact p α H (.ref C) none σ (Ext.refl α H) hS hE ⟨C, hC, rfl, .inl ⟨rfl, rfl⟩⟩
end
end Mi

namespace Mi
open PySem PySem.Spec PyProof.Rows L2
/-! ### the parameters' order, by places -/
def pick {β : Type} (idx : List Nat) (l : List β) : List β := idx.filterMap fun i => l[i]?
theorem vals_at : ∀ {vs : List V} {us : List Value}, Vals vs us → ∀ i : Nat, (vs[i]? = none ∧ us[i]? = none) ∨ ∃ v u, vs[i]? = some v ∧ us[i]? = some u ∧ RelV v u
  | _, _, .nil, i => .inl ⟨rfl, rfl⟩
  | _, _, .cons a b, 0 => .inr ⟨_, _, rfl, rfl, a⟩
  | _, _, .cons a b, i + 1 => vals_at b i
theorem pick_vals {vs : List V} {us : List Value} (h : Vals vs us) : ∀ idx : List Nat, Vals (pick idx vs) (pick idx us)
  | [] => .nil
  | i :: r => by
    unfold pick
    rcases vals_at h i with ⟨a, b⟩ | ⟨v, u, a, b, c⟩
    · rw [List.filterMap_cons_none a, List.filterMap_cons_none b]; exact pick_vals h r
    · rw [List.filterMap_cons_some a, List.filterMap_cons_some b]; exact .cons c (pick_vals h r)
theorem rds_at {g : Gd} {α : List Addr} {H : Hp} : ∀ {ds : List D} {vs : List V}, RDs g α H ds vs → ∀ i : Nat, (ds[i]? = none ∧ vs[i]? = none) ∨ ∃ d v, ds[i]? = some d ∧ vs[i]? = some v ∧ RD g α H d v
  | [], vs, h, i => by cases h; exact .inl ⟨rfl, rfl⟩
  | d :: ds, vs, h, 0 => by obtain ⟨v, r, rfl, h1, h2⟩ := h; exact .inr ⟨d, v, rfl, rfl, h1⟩
  | d :: ds, vs, h, i + 1 => by obtain ⟨v, r, rfl, h1, h2⟩ := h; exact rds_at h2 i
theorem pick_rds {g : Gd} {α : List Addr} {H : Hp} {ds : List D} {vs : List V} (h : RDs g α H ds vs) : ∀ idx : List Nat, RDs g α H (pick idx ds) (pick idx vs)
  | [] => rfl
  | i :: r => by
    unfold pick
    rcases rds_at h i with ⟨a, b⟩ | ⟨v, u, a, b, c⟩
    · rw [List.filterMap_cons_none a, List.filterMap_cons_none b]; exact pick_rds h r
    · rw [List.filterMap_cons_some a, List.filterMap_cons_some b]; exact RDs.cons c (pick_rds h r)
theorem RDs.append' {g : Gd} {α : List Addr} {H : Hp} : ∀ {ds es : List D} {vs zs : List V}, RDs g α H ds vs → RDs g α H es zs → RDs g α H (ds ++ es) (vs ++ zs)
  | [], es, vs, zs, h, k => by cases h; exact k
  | d :: ds, es, vs, zs, h, k => by obtain ⟨v, r, rfl, h1, h2⟩ := h; exact RDs.cons h1 (RDs.append' h2 k)
theorem kbd_of {g : Gd} {x qual : Str} {params : Arguments} {body : List Stmt} {scope : Scope} {kws : List (Str × V)} {f : Addr} {fd : FuncData} {ps : List Str} (F : FunD g.K x qual params body scope [] kws f fd) (n : Nat) (ks : List Str) (ms : List (Str × V)) (idx : List Nat) (cs : List D)
    (hk : kws ≠ []) (hms : ∀ q ∈ ms, q ∈ kws) (hc : ∀ (α : List Addr) (H : Hp), RDs g α H cs (ms.map (·.2)))
    (h : ∀ (D : Addr) (doc pm : Value) (an : Option Addr) (cdv ct : Value) (us mv ws : List Value), us.length = n → mv.length = ms.length → ws.length = ks.length →
      KwChain D ((ms.map (·.1)).zip mv) (bindArgs (PySem.W.fnOf x qual params body scope .none (.ref D) doc pm an cdv ct) ⟨us, ks.zip ws⟩) (ps.zip (pick idx (us ++ mv ++ ws)))) : KBd g fd ps n ks fun ds es => pick idx (ds ++ cs ++ es) := by
  obtain ⟨mv, hb⟩ := F.kbinds0 (ps := ps) n ks ms (fun us mv ws => pick idx (us ++ mv ++ ws)) hk hms (fun r1 r2 r3 => pick_vals ((r1.append r2).append r3) idx) h
  exact ⟨_, _, hb, fun α H ds es vs zs r1 r2 => pick_rds ((r1.append' (hc α H)).append' r2) idx⟩
end Mi

namespace Mi
open PySem PySem.Spec PyProof.Rows L2
theorem ofS_inj {a b : String} : (Str.ofString a = Str.ofString b) ↔ a = b := by
  constructor
  · intro h
    rw [Str.ofString_eq_toList, Str.ofString_eq_toList] at h
    have h1 : (a.toList.map Char.toNat).toArray = (b.toList.map Char.toNat).toArray := by injection h
    have h2 : a.toList.map Char.toNat = b.toList.map Char.toNat := by simpa using h1
    have h3 : a.toList = b.toList := by
      refine List.map_inj_right (fun x y hxy => ?_) |>.mp h2
      exact Char.toNat_inj.mp hxy
    exact String.toList_inj.mp h3
  · rintro rfl; rfl
@[simp] theorem ofS_eq {a b : String} : (Str.ofString a = Str.ofString b) = (a = b) := propext ofS_inj
@[simp] theorem ofS_beq {a b : String} : (Str.ofString a == Str.ofString b) = (a == b) := by
  rw [Bool.eq_iff_iff]; simp [ofS_inj]
/-! ### simp frames for instances, methods, defs as values -/
def fldO (o : Option Ob) (T : Nat → Bool) (f : Str) (st : Sto) : R D := match o with
  | some (.ins c fs) => if T c = true then ofO (fs.lookup f) st else .stuck
  | _ => .stuck
@[simp] theorem fldO_ins {c : Nat} {fs : List (Str × D)} {T : Nat → Bool} {f : Str} {st : Sto} : fldO (some (.ins c fs)) T f st = if T c = true then ofO (fs.lookup f) st else .stuck := rfl
@[simp] theorem fld_at {T : Nat → Bool} {f : Str} {n : Nat} {st : Sto} : fldD T f (.obj n) st = fldO st[n]? T f st := by
  unfold fldD fldO; rfl
def sfO (o : Option Ob) (n : Nat) (T : Nat → Bool) (f : Str) (d : D) (env : Env) (st : Sto) : RS := match o with
  | some (.ins c fs) => if T c = true ∧ fs.length < 1000 then .nx env (st.set n (.ins c (putD f d fs))) else .stuck
  | _ => .stuck
@[simp] theorem sfO_ins {c n : Nat} {fs : List (Str × D)} {T : Nat → Bool} {f : Str} {d : D} {env : Env} {st : Sto} : sfO (some (.ins c fs)) n T f d env st = if T c = true ∧ fs.length < 1000 then .nx env (st.set n (.ins c (putD f d fs))) else .stuck := rfl
def sfD (T : Nat → Bool) (f : Str) (d o : D) (env : Env) (st : Sto) : RS := match o with
  | .obj n => sfO st[n]? n T f d env st
  | _ => .stuck
@[simp] theorem sfD_obj {T : Nat → Bool} {f : Str} {d : D} {n : Nat} {env : Env} {st : Sto} : sfD T f d (.obj n) env st = sfO st[n]? n T f d env st := rfl
def gFldb (T : Nat → Bool) (f : Str) (d : D) (env : Env) (r : R D) : RS := bindS r env fun o st => sfD T f d o env st
def gFlda (T : Nat → Bool) (f : Str) (Fo : DE) (env : Env) (r : R D) : RS := bindS r env fun d st => gFldb T f d env (Fo env st)
@[simp] theorem gFldb_ok {T : Nat → Bool} {f : Str} {d o : D} {env : Env} {st : Sto} : gFldb T f d env (.ok o st) = sfD T f d o env st := rfl
@[simp] theorem gFldb_ex {T : Nat → Bool} {f : Str} {d : D} {env : Env} {c : Nat} {fs : List (Str × D)} {st : Sto} : gFldb T f d env (.exc c fs st) = .exc c fs env st := rfl
@[simp] theorem gFldb_st {T : Nat → Bool} {f : Str} {d : D} {env : Env} : gFldb T f d env .stuck = .stuck := rfl
@[simp] theorem gFlda_ok {T : Nat → Bool} {f : Str} {Fo : DE} {d : D} {env : Env} {st : Sto} : gFlda T f Fo env (.ok d st) = gFldb T f d env (Fo env st) := rfl
@[simp] theorem gFlda_ex {T : Nat → Bool} {f : Str} {Fo : DE} {env : Env} {c : Nat} {fs : List (Str × D)} {st : Sto} : gFlda T f Fo env (.exc c fs st) = .exc c fs env st := rfl
@[simp] theorem gFlda_st {T : Nat → Bool} {f : Str} {Fo : DE} {env : Env} : gFlda T f Fo env .stuck = .stuck := rfl
@[simp] theorem ap_fld {T : Nat → Bool} {f : Str} {Fv Fo : DE} {env : Env} {st : Sto} : sFldD T f Fv Fo env st = gFlda T f Fo env (Fv env st) := rfl
/-- methods -/
def clsO (o : Option Ob) (tb : Nat → Option Nat) (m : Str) : Option Nat := match o with
  | some (.ins c fs) => if (fs.lookup m).isNone = true then tb c else none
  | _ => none
@[simp] theorem clsO_ins {c : Nat} {fs : List (Str × D)} {tb : Nat → Option Nat} {m : Str} : clsO (some (.ins c fs)) tb m = if (fs.lookup m).isNone = true then tb c else none := rfl
@[simp] theorem cls_at {tb : Nat → Option Nat} {m : Str} {n : Nat} {st : Sto} : clsD tb m (.obj n) st = clsO st[n]? tb m := by
  unfold clsD clsO; rfl
def fMeb (Φ : Fam) (i : Nat) (o : D) (r : R (List D)) : R D := r.bind fun ds st => Φ i (o :: ds) st
@[simp] theorem fMeb_ok {Φ : Fam} {i : Nat} {o : D} {ds : List D} {st : Sto} : fMeb Φ i o (.ok ds st) = Φ i (o :: ds) st := rfl
@[simp] theorem fMeb_ex {Φ : Fam} {i : Nat} {o : D} {c : Nat} {fs : List (Str × D)} {st : Sto} : fMeb Φ i o (.exc c fs st) = .exc c fs st := rfl
@[simp] theorem fMeb_st {Φ : Fam} {i : Nat} {o : D} : fMeb Φ i o .stuck = .stuck := rfl
def meO (x : Option Nat) (Φ : Fam) (o : D) (G : DA) (env : Env) (st : Sto) : R D := match x with | some i => fMeb Φ i o (G env st) | none => .stuck
@[simp] theorem meO_some {i : Nat} {Φ : Fam} {o : D} {G : DA} {env : Env} {st : Sto} : meO (some i) Φ o G env st = fMeb Φ i o (G env st) := rfl
def fMea (tb : Nat → Option Nat) (m : Str) (Φ : Fam) (G : DA) (env : Env) (r : R D) : R D := r.bind fun o st => meO (clsD tb m o st) Φ o G env st
@[simp] theorem fMea_ok {tb : Nat → Option Nat} {m : Str} {Φ : Fam} {G : DA} {env : Env} {o : D} {st : Sto} : fMea tb m Φ G env (.ok o st) = meO (clsD tb m o st) Φ o G env st := rfl
@[simp] theorem fMea_ex {tb : Nat → Option Nat} {m : Str} {Φ : Fam} {G : DA} {env : Env} {c : Nat} {fs : List (Str × D)} {st : Sto} : fMea tb m Φ G env (.exc c fs st) = .exc c fs st := rfl
@[simp] theorem fMea_st {tb : Nat → Option Nat} {m : Str} {Φ : Fam} {G : DA} {env : Env} : fMea tb m Φ G env .stuck = .stuck := rfl
@[simp] theorem ap_meth {tb : Nat → Option Nat} {m : Str} {Φ : Fam} {Fo : DE} {G : DA} {env : Env} {st : Sto} : eMeth tb m Φ Fo G env st = fMea tb m Φ G env (Fo env st) := rfl
/-- a local name that holds a def -/
def cvR (ok : Nat → Bool) (o : Option (Option D)) (Φ : Fam) (r : R (List D)) : R D := match o with
  | some (some (.fn j)) => if ok j = true then r.bind fun ds st1 => Φ j ds st1 else .stuck
  | _ => .stuck
@[simp] theorem cvR_fn {ok : Nat → Bool} {j : Nat} {Φ : Fam} {ds : List D} {st : Sto} : cvR ok (some (some (.fn j))) Φ (.ok ds st) = if ok j = true then Φ j ds st else .stuck := rfl
@[simp] theorem ap_callV {ok : Nat → Bool} {i : Nat} {Φ : Fam} {G : DA} {env : Env} {st : Sto} : eCallV ok i Φ G env st = cvR ok env[i]? Φ (G env st) := by
  unfold eCallV cvR; rfl
/-- making -/
@[simp] theorem initR_ok {n : Nat} {st : Sto} : initR n (.ok .non st) = .ok (.obj n) st := rfl
@[simp] theorem initR_ex {n c : Nat} {fs : List (Str × D)} {st : Sto} : initR n (.exc c fs st) = .exc c fs st := rfl
@[simp] theorem makeD_eq {c i : Nat} {Φ : Fam} {ds : List D} {st : Sto} : makeD c i Φ ds st = initR st.length (Φ i (.obj st.length :: ds) (st ++ [.ins c []])) := rfl
def fMkb (c i : Nat) (Φ : Fam) (gD : List D → List D → List D) (ds : List D) (r : R (List D)) : R D := r.bind fun es st => initR st.length (Φ i (gD (.obj st.length :: ds) es) (st ++ [.ins c []]))
@[simp] theorem fMkb_ok {c i : Nat} {Φ : Fam} {gD : List D → List D → List D} {ds es : List D} {st : Sto} : fMkb c i Φ gD ds (.ok es st) = initR st.length (Φ i (gD (.obj st.length :: ds) es) (st ++ [.ins c []])) := rfl
def fMka (c i : Nat) (Φ : Fam) (gD : List D → List D → List D) (G' : DA) (env : Env) (r : R (List D)) : R D := r.bind fun ds st => fMkb c i Φ gD ds (G' env st)
@[simp] theorem fMka_ok {c i : Nat} {Φ : Fam} {gD : List D → List D → List D} {G' : DA} {env : Env} {ds : List D} {st : Sto} : fMka c i Φ gD G' env (.ok ds st) = fMkb c i Φ gD ds (G' env st) := rfl
@[simp] theorem ap_makeK {c i : Nat} {Φ : Fam} {gD : List D → List D → List D} {G G' : DA} {env : Env} {st : Sto} : eMakeK c i Φ gD G G' env st = fMka c i Φ gD G' env (G env st) := rfl
def fKb (φ : List D → Sto → R D) (gD : List D → List D → List D) (ds : List D) (r : R (List D)) : R D := r.bind fun es st => φ (gD ds es) st
@[simp] theorem fKb_ok {φ : List D → Sto → R D} {gD : List D → List D → List D} {ds es : List D} {st : Sto} : fKb φ gD ds (.ok es st) = φ (gD ds es) st := rfl
def fKa (φ : List D → Sto → R D) (gD : List D → List D → List D) (G' : DA) (env : Env) (r : R (List D)) : R D := r.bind fun ds st => fKb φ gD ds (G' env st)
@[simp] theorem fKa_ok {φ : List D → Sto → R D} {gD : List D → List D → List D} {G' : DA} {env : Env} {ds : List D} {st : Sto} : fKa φ gD G' env (.ok ds st) = fKb φ gD ds (G' env st) := rfl
@[simp] theorem ap_callK {φ : List D → Sto → R D} {gD : List D → List D → List D} {G G' : DA} {env : Env} {st : Sto} : eCallK φ gD G G' env st = fKa φ gD G' env (G env st) := rfl
end Mi

namespace Mi
open PySem L2
@[simp] theorem isi_non_non : isi .non .non = true := rfl
@[simp] theorem isi_non_bool : isi .non .bool = false := rfl
@[simp] theorem isi_non_int : isi .non .int = false := rfl
@[simp] theorem isi_non_str : isi .non .str = false := rfl
@[simp] theorem isi_non_tuple : isi .non .tuple = false := rfl
@[simp] theorem isi_non_list : isi .non .list = false := rfl
@[simp] theorem isi_non_dict : isi .non .dict = false := rfl
@[simp] theorem isi_bool_non : isi .bool .non = false := rfl
@[simp] theorem isi_bool_bool : isi .bool .bool = true := rfl
@[simp] theorem isi_bool_int : isi .bool .int = true := rfl
@[simp] theorem isi_bool_str : isi .bool .str = false := rfl
@[simp] theorem isi_bool_tuple : isi .bool .tuple = false := rfl
@[simp] theorem isi_bool_list : isi .bool .list = false := rfl
@[simp] theorem isi_bool_dict : isi .bool .dict = false := rfl
@[simp] theorem isi_int_non : isi .int .non = false := rfl
@[simp] theorem isi_int_bool : isi .int .bool = false := rfl
@[simp] theorem isi_int_int : isi .int .int = true := rfl
@[simp] theorem isi_int_str : isi .int .str = false := rfl
@[simp] theorem isi_int_tuple : isi .int .tuple = false := rfl
@[simp] theorem isi_int_list : isi .int .list = false := rfl
@[simp] theorem isi_int_dict : isi .int .dict = false := rfl
@[simp] theorem isi_str_non : isi .str .non = false := rfl
@[simp] theorem isi_str_bool : isi .str .bool = false := rfl
@[simp] theorem isi_str_int : isi .str .int = false := rfl
@[simp] theorem isi_str_str : isi .str .str = true := rfl
@[simp] theorem isi_str_tuple : isi .str .tuple = false := rfl
@[simp] theorem isi_str_list : isi .str .list = false := rfl
@[simp] theorem isi_str_dict : isi .str .dict = false := rfl
@[simp] theorem isi_tuple_non : isi .tuple .non = false := rfl
@[simp] theorem isi_tuple_bool : isi .tuple .bool = false := rfl
@[simp] theorem isi_tuple_int : isi .tuple .int = false := rfl
@[simp] theorem isi_tuple_str : isi .tuple .str = false := rfl
@[simp] theorem isi_tuple_tuple : isi .tuple .tuple = true := rfl
@[simp] theorem isi_tuple_list : isi .tuple .list = false := rfl
@[simp] theorem isi_tuple_dict : isi .tuple .dict = false := rfl
@[simp] theorem isi_list_non : isi .list .non = false := rfl
@[simp] theorem isi_list_bool : isi .list .bool = false := rfl
@[simp] theorem isi_list_int : isi .list .int = false := rfl
@[simp] theorem isi_list_str : isi .list .str = false := rfl
@[simp] theorem isi_list_tuple : isi .list .tuple = false := rfl
@[simp] theorem isi_list_list : isi .list .list = true := rfl
@[simp] theorem isi_list_dict : isi .list .dict = false := rfl
@[simp] theorem isi_dict_non : isi .dict .non = false := rfl
@[simp] theorem isi_dict_bool : isi .dict .bool = false := rfl
@[simp] theorem isi_dict_int : isi .dict .int = false := rfl
@[simp] theorem isi_dict_str : isi .dict .str = false := rfl
@[simp] theorem isi_dict_tuple : isi .dict .tuple = false := rfl
@[simp] theorem isi_dict_list : isi .dict .list = false := rfl
@[simp] theorem isi_dict_dict : isi .dict .dict = true := rfl
@[simp] theorem ty_obj {n : Nat} {st : Sto} : tyD (.obj n) st = (match st[n]? with | some (.lst _) => some .list | some (.frz _) => some .list | some (.dic _) => some .dict | _ => none) := rfl
@[simp] theorem isiD_non {T : Ty} {b : Bool} {i : Int} {x : Str} {ds : List D} {st : Sto} : isiD T .non st = .ok (.bl (isi .non T)) st := rfl
@[simp] theorem isiD_bool {T : Ty} {b : Bool} {i : Int} {x : Str} {ds : List D} {st : Sto} : isiD T (.bl b) st = .ok (.bl (isi .bool T)) st := rfl
@[simp] theorem isiD_int {T : Ty} {b : Bool} {i : Int} {x : Str} {ds : List D} {st : Sto} : isiD T (.int i) st = .ok (.bl (isi .int T)) st := rfl
@[simp] theorem isiD_str {T : Ty} {b : Bool} {i : Int} {x : Str} {ds : List D} {st : Sto} : isiD T (.str x) st = .ok (.bl (isi .str T)) st := rfl
@[simp] theorem isiD_tuple {T : Ty} {b : Bool} {i : Int} {x : Str} {ds : List D} {st : Sto} : isiD T (.tup ds) st = .ok (.bl (isi .tuple T)) st := rfl
@[simp] theorem isiD_list {T : Ty} {b : Bool} {i : Int} {x : Str} {ds : List D} {st : Sto} : isiD T (.kl ds) st = .ok (.bl (isi .list T)) st := rfl
@[simp] theorem truD_bl {b : Bool} {st : Sto} : truD (.bl b) st = some b := rfl
theorem atI_n {β : Type} (xs : List β) (k : Nat) : atI xs (k : Int) = xs[k]? := by
  by_cases h : k < xs.length
  · exact atI_nat' h
  · unfold atI ixN
    rw [if_pos (by omega), if_neg (by omega), List.getElem?_eq_none (by omega)]
    rfl
@[simp] theorem atI_1 {β : Type} {xs : List β} : atI xs 1 = xs[1]? := atI_n xs 1
@[simp] theorem atI_2 {β : Type} {xs : List β} : atI xs 2 = xs[2]? := atI_n xs 2
@[simp] theorem atI_3 {β : Type} {xs : List β} : atI xs 3 = xs[3]? := atI_n xs 3
@[simp] theorem atI_4 {β : Type} {xs : List β} : atI xs 4 = xs[4]? := atI_n xs 4
@[simp] theorem atI_5 {β : Type} {xs : List β} : atI xs 5 = xs[5]? := atI_n xs 5
@[simp] theorem atI_6 {β : Type} {xs : List β} : atI xs 6 = xs[6]? := atI_n xs 6
@[simp] theorem atI_7 {β : Type} {xs : List β} : atI xs 7 = xs[7]? := atI_n xs 7
@[simp] theorem atI_8 {β : Type} {xs : List β} : atI xs 8 = xs[8]? := atI_n xs 8
@[simp] theorem atI_9 {β : Type} {xs : List β} : atI xs 9 = xs[9]? := atI_n xs 9
@[simp] theorem atI_10 {β : Type} {xs : List β} : atI xs 10 = xs[10]? := atI_n xs 10
@[simp] theorem atI_11 {β : Type} {xs : List β} : atI xs 11 = xs[11]? := atI_n xs 11
@[simp] theorem atI_12 {β : Type} {xs : List β} : atI xs 12 = xs[12]? := atI_n xs 12
end Mi

namespace Mi
open PySem L2
/-! ### one of two readings of an expression -/
def altR {β : Type} (r s : R β) : R β := match r with | .stuck => s | r => r
@[simp] theorem altR_ok {β : Type} {b : β} {st : Sto} {s : R β} : altR (.ok b st) s = .ok b st := rfl
@[simp] theorem altR_exc {β : Type} {c : Nat} {fs : List (Str × D)} {st : Sto} {s : R β} : altR (.exc c fs st) s = .exc c fs st := rfl
@[simp] theorem altR_stuck {β : Type} {s : R β} : altR .stuck s = s := rfl
def eAlt (F G : DE) : DE := fun env st => altR (F env st) (G env st)
@[simp] theorem ap_alt {F G : DE} {env : Env} {st : Sto} : eAlt F G env st = altR (F env st) (G env st) := rfl
section
variable {g : Gd} {X : Cx} {W : WX}
theorem oe_alt {e : Expr} {F G : DE} (h : OE g X W e F) (k : OE g X W e G) : OE g X W e (eAlt F G) := by
  refine ⟨fun pins s σ H Q I ⟨α, env, st, hE, hS, p⟩ => ?_⟩
  unfold eAlt altR at p
  cases hF : F env st with
  | ok d st1 => rw [hF] at p; exact L2.PE.run h pins s σ H Q I ⟨α, env, st, hE, hS, by rw [hF]; exact p⟩
  | exc c fs st1 => rw [hF] at p; exact L2.PE.run h pins s σ H Q I ⟨α, env, st, hE, hS, by rw [hF]; exact p⟩
  | stuck => rw [hF] at p; exact L2.PE.run k pins s σ H Q I ⟨α, env, st, hE, hS, p⟩
end
/-! ### more methods -/
def sindexM : D → List D → Sto → R D
  | .str a, [.str b], st => (match Builtin.Str.occurrences a b 0 a.length 1 with | i :: _ => .ok (.int (i : Nat)) st | [] => .stuck)
  | _, _, _ => .stuck
def insertM : D → List D → Sto → R D
  | .obj n, [.int i, d], st => match st[n]? with
    | some (.lst ds) => if ds.length < sizeLine ∧ 0 ≤ i ∧ i < 2 ^ 63 then .ok .non (st.set n (.lst (ds.take i.toNat ++ [d] ++ ds.drop i.toNat))) else .stuck
    | _ => .stuck
  | _, _, _ => .stuck
def popAtM : D → List D → Sto → R D
  | .obj n, [.int i], st => match st[n]? with
    | some (.lst ds) => if 0 ≤ i ∧ i < 2 ^ 63 then (match ds[i.toNat]? with | some d => .ok d (st.set n (.lst (ds.eraseIdx i.toNat))) | none => .stuck) else .stuck
    | _ => .stuck
  | _, _, _ => .stuck
def popM : D → List D → Sto → R D
  | .obj n, [], st => match st[n]? with
    | some (.lst ds) => (match ds[ds.length - 1]? with | some d => .ok d (st.set n (.lst ds.dropLast)) | none => .stuck)
    | _ => .stuck
  | _, _, _ => .stuck
def clearM : D → List D → Sto → R D
  | .obj n, [], st => match st[n]? with | some (.lst ds) => .ok .non (st.set n (.lst [])) | _ => .stuck
  | _, _, _ => .stuck
def reverseM : D → List D → Sto → R D
  | .obj n, [], st => match st[n]? with | some (.lst ds) => .ok .non (st.set n (.lst ds.reverse)) | _ => .stuck
  | _, _, _ => .stuck
section
variable {g : Gd} {X : Cx} {W : WX}
theorem mt_sindexD : Mt g X W "str.index" sindexM := by
  intro σ α H st a x ds vs Q s ra rs p
  unfold sindexM at p
  split at p
  · cases ra
    obtain ⟨v, rfl, rv⟩ := rs.one
    cases rv
    split at p
    · rename_i i rest e
      exact ⟨_, mt_sindex, _, _, i, rest, rfl, rfl, e, PD.ok p s rfl⟩
    · exact p.elim
  · exact p.elim
theorem RDs.two' {α : List Addr} {H : Hp} {a b : D} {vs : List V} (h : RDs g α H [a, b] vs) : ∃ v w, vs = [v, w] ∧ RD g α H a v ∧ RD g α H b w := by
  obtain ⟨v, r, rfl, h1, h2⟩ := h
  obtain ⟨w, r, rfl, h3, h4⟩ := h2
  cases h4
  exact ⟨v, w, rfl, h1, h3⟩
theorem RDs.dropLast {α : List Addr} {H : Hp} {ds : List D} {vs : List V} (h : RDs g α H ds vs) : RDs g α H ds.dropLast vs.dropLast := by
  rw [List.dropLast_eq_take, List.dropLast_eq_take, h.length]
  exact h.take _
theorem RDs.reverse {α : List Addr} {H : Hp} : ∀ {ds : List D} {vs : List V}, RDs g α H ds vs → RDs g α H ds.reverse vs.reverse
  | [], vs, h => by cases h; exact RDs.nil
  | d :: ds, vs, h => by
    obtain ⟨v, r, rfl, h1, h2⟩ := h
    rw [List.reverse_cons, List.reverse_cons]
    exact (RDs.reverse h2).append (.cons h1 .nil)
theorem RDs.erase {α : List Addr} {H : Hp} {ds : List D} {vs : List V} (k : Nat) (h : RDs g α H ds vs) : RDs g α H (ds.eraseIdx k) (vs.eraseIdx k) := by
  rw [List.eraseIdx_eq_take_drop_succ, List.eraseIdx_eq_take_drop_succ]
  exact (h.take k).append (h.drop (k + 1))
theorem mt_insertD : Mt g X W "list.insert" insertM := by
  intro σ α H st a x ds vs Q s ra rs p
  unfold insertM at p
  split at p
  · split at p
    · split at p
      · rename_i n i d _ xs e hl
        obtain ⟨a1, ws, rfl, ha, h1, r1⟩ := s.lst ra e
        obtain ⟨v1, v2, rfl, rv1, rv2⟩ := rs.two'
        cases rv1
        have ex : Ext α H α (upd H a1 (.lst (ws.take i.toNat ++ [v2] ++ ws.drop i.toNat))) := ext_write s ha ⟨_, h1, fun _ z => (nomatch z), fun _ _ z => (nomatch z)⟩
        refine ⟨_, mt_insert, a1, ws, i, v2, rfl, rfl, h1, by rw [← r1.length]; exact hl.1, hl.2.1, hl.2.2, ?_⟩
        exact p α _ ex (s.write ha ex ⟨_, upd_same, (((r1.take _).append (.cons rv2 .nil)).append (r1.drop _)).mono ex⟩) _ rfl
      · exact p.elim
    · exact p.elim
  · exact p.elim
theorem mt_popAtD : Mt g X W "list.pop" popAtM := by
  intro σ α H st a x ds vs Q s ra rs p
  unfold popAtM at p
  split at p
  · split at p
    · split at p
      · split at p
        · rename_i n i _ xs e hl _ d ed
          obtain ⟨a1, ws, rfl, ha, h1, r1⟩ := s.lst ra e
          obtain ⟨v1, rfl, rv1⟩ := rs.one
          cases rv1
          obtain ⟨y, ey, ry⟩ := r1.get ed
          have hk : i.toNat < ws.length := (List.getElem?_eq_some_iff.mp ey).1
          have ex : Ext α H α (upd H a1 (.lst (ws.eraseIdx i.toNat))) := ext_write s ha ⟨_, h1, fun _ z => (nomatch z), fun _ _ z => (nomatch z)⟩
          refine ⟨_, mtr mt_popAt, a1, ws, i, i.toNat, y, rfl, rfl, h1, by omega, hl.2, ?_, ey, ?_⟩
          · have := hl.1
            have hn : ¬ i < 0 := by omega
            unfold seqIndex?
            simp only [if_neg hn]
            rw [if_pos (by simp; omega)]
          · exact p α _ ex (s.write ha ex ⟨_, upd_same, (r1.erase _).mono ex⟩) _ (ry.mono ex)
        · exact p.elim
      · exact p.elim
    · exact p.elim
  · exact p.elim
theorem mt_popD : Mt g X W "list.pop" popM := by
  intro σ α H st a x ds vs Q s ra rs p
  unfold popM at p
  split at p
  · split at p
    · split at p
      · rename_i n _ xs e _ d ed
        obtain ⟨a1, ws, rfl, ha, h1, r1⟩ := s.lst ra e
        cases rs
        obtain ⟨y, ey, ry⟩ := r1.get ed
        rw [r1.length] at ey
        have ex : Ext α H α (upd H a1 (.lst ws.dropLast)) := ext_write s ha ⟨_, h1, fun _ z => (nomatch z), fun _ _ z => (nomatch z)⟩
        refine ⟨_, mtr mt_pop, a1, ws, y, rfl, rfl, h1, ey, ?_⟩
        exact p α _ ex (s.write ha ex ⟨_, upd_same, r1.dropLast.mono ex⟩) _ (ry.mono ex)
      · exact p.elim
    · exact p.elim
  · exact p.elim
theorem mt_clearD : Mt g X W "list.clear" clearM := by
  intro σ α H st a x ds vs Q s ra rs p
  unfold clearM at p
  split at p
  · split at p
    · rename_i n xs e
      obtain ⟨a1, ws, rfl, ha, h1, r1⟩ := s.lst ra e
      cases rs
      have ex : Ext α H α (upd H a1 (.lst [])) := ext_write s ha ⟨_, h1, fun _ z => (nomatch z), fun _ _ z => (nomatch z)⟩
      refine ⟨_, mtr mt_clear, a1, ws, rfl, rfl, h1, ?_⟩
      exact p α _ ex (s.write ha ex ⟨_, upd_same, RDs.nil⟩) _ rfl
    · exact p.elim
  · exact p.elim
theorem mt_reverseD : Mt g X W "list.reverse" reverseM := by
  intro σ α H st a x ds vs Q s ra rs p
  unfold reverseM at p
  split at p
  · split at p
    · rename_i n xs e
      obtain ⟨a1, ws, rfl, ha, h1, r1⟩ := s.lst ra e
      cases rs
      have ex : Ext α H α (upd H a1 (.lst ws.reverse)) := ext_write s ha ⟨_, h1, fun _ z => (nomatch z), fun _ _ z => (nomatch z)⟩
      refine ⟨_, mtr mt_reverse, a1, ws, rfl, rfl, h1, ?_⟩
      exact p α _ ex (s.write ha ex ⟨_, upd_same, (RDs.reverse r1).mono ex⟩) _ rfl
    · exact p.elim
  · exact p.elim
end
end Mi

namespace Mi
open PySem PySem.Spec PyProof.Rows L2
/-! ### `a, b, *rest = t` -/
section
variable {prog : Program} {w : World} {A : Around} {E : Value → Shared → Prop} {s : Shared}
theorem ent_ti : entryFor table "tuple_iterator.__iter__" = some Builtin.«dict_keyiterator.__iter__» := entryFor_alias (id' := "dict_keyiterator.__iter__") (by kernel_rfl) rfl (by decide +kernel) (by kernel_rfl)
theorem iter_ti {it t : Addr} {i : Nat} {Q : Value → Shared → Prop} (x : IsTupIter s.heap it t i) (h : Q (.ref it) s) : wpAny (model prog w) A (pyIter (.ref it)) Q E s := by
  refine wpAny_pyIter_slot x.typeIs PySem.F.slot_tuple_iterator_iter (wpAny_call_entry PySem.F.slot_tuple_iterator_iter x.typeIs ent_ti ?_ (PySem.F.args_tuple_iterator_iter_1 _))
  exact wpAny_pure ⟨_, rfl, "tuple_iterator", _, x.typeIs, slot_tupleiter_next.lookup, h⟩
/-- a tuple's iterator from its place k on -/
theorem walks_tup (A : Around) (hh : A.handled = none) {it t : Addr} {items : Array Value} {k n : Nat} (hne : t ≠ it) (hn : k + n = items.size) :
    WalksS prog w A it [it, t] [it] (fun a b => a = b) n (fun j v => items[k + j]? = some v) (fun j s => IsTupIter s.heap it t (k + j) ∧ IsTup s.heap t items) where
  sub := fun b hb => by simp at hb; simp [hb]
  grefl := fun _ => rfl
  gtrans := fun _ _ _ e f => e.trans f
  frame := fun i s h' tk ⟨⟨o, ho, hc, hd⟩, ⟨ot, hot, hct, m, hdt⟩⟩ _ keep => ⟨⟨o, keep it (by simp) _ ho, hc, hd⟩, ⟨ot, keep t (by simp) _ hot, hct, m, hdt⟩⟩
  item := fun i s Q E hi ⟨hit, ht⟩ hQ => by
    have hlt : k + i < items.size := by omega
    refine next_tuple_item hit ht (x := items[k + i]) (by simp [hlt]) fun h' hit' sb => ?_
    refine hQ _ _ (by simp [hlt]) ⟨by rw [← Nat.add_assoc]; exact hit', ht.extBut sb.extBut hne⟩ ⟨fun b o hb e => (sb.2 b (by simpa using hb)).trans e, rfl, rfl, rfl, Nat.le_refl _⟩
  done := fun s Q E ⟨hit, ht⟩ hQ => by
    refine next_tuple_end hh hit ht (by simp; omega) fun h' ex => ?_
    exact hQ _ ⟨fun b o hb e => ex b o (by simpa using hb) e, rfl, rfl, rfl, Nat.le_refl _⟩
  self := fun i s Q E ⟨hit, ht⟩ h => iter_ti hit h
theorem items_drop {items acc : Array Value} {k n : Nat} (hn : k + n = items.size) (h : ItemsOf (fun j v => items[k + j]? = some v) acc n) : acc.toList = items.toList.drop k := by
  obtain ⟨h1, h2⟩ := h
  refine List.ext_getElem? fun j => ?_
  rw [List.getElem?_drop, Array.getElem?_toList, Array.getElem?_toList]
  by_cases c : j < n
  · have hj : j < acc.size := by omega
    have := h2 j acc[j] (by simp [hj])
    rw [this]
    simp [hj]
  · rw [Array.getElem?_eq_none (by omega), Array.getElem?_eq_none (by omega)]
theorem unpackItems_star {t : Addr} {items : Array Value} {k n : Nat} {Q : List Value → Shared → Prop} (hh : A.handled = none) (ht : IsTup s.heap t items) (hk : k ≤ items.size) (hn : n = k + 1) (hz : items.size ≤ sizeLine)
    (hQ : ∀ h' tk, Heap.ExtBut s.heap.objs.size s.heap h' → Q (items.toList.take k ++ [.ref h'.objs.size]) { s with heap := h'.push { cls := .type "list", data := .seq (items.toList.drop k).toArray }, toks := tk }) : wpAny (model prog w) A (unpackItems (.ref t) n (some k)) Q E s := by
  have hlt : t ≠ s.heap.objs.size := by obtain ⟨o, ho, _⟩ := ht; exact Nat.ne_of_lt (Heap.lt_size ho)
  unfold unpackItems
  refine wpAny_bind ?_
  unfold notIterableAtAll
  refine wpAny_bind (wpAny_specialOf ht.typeIs slot_tuple_iter.lookup (wpAny_pure ?_))
  simp only [Bool.false_eq_true, if_false]
  refine wpAny_bind (wpAny_holding (iter_tuple ht (wpAny_bind (wpAny_holding (draw_tuple hlt k 0 _ _ ⟨_, Heap.get?_push_size _ rfl, rfl, rfl⟩ (ht.push _) (by omega) fun h1 hit1 sb1 => ?_)))))
  rw [List.drop_zero]
  have hl : (items.toList.take k).length = k := by rw [List.length_take]; simp; omega
  rw [if_neg (by rw [hl]; omega)]
  have ht1 : IsTup h1 t items := (ht.push _).extBut sb1.extBut hlt
  have hm : k + (items.size - k) = items.size := by omega
  have hs1 : s.heap.objs.size < h1.objs.size := by
    obtain ⟨o, ho, _⟩ := hit1
    exact Heap.lt_size ho
  refine wpAny_bind (wpAny_holding (wpAny_collect_iter (T := "tuple_iterator") (.inr (.inr (.inr rfl))) (walks_tup A.in1 hh (items := items) (k := k) hlt hm) (fun i s st => st.1.typeIs) (by rw [Nat.zero_add] at hit1; exact ⟨hit1, ht1⟩) (fun b hb => ?_) (by simp) (fun s' acc mv it => ?_) (by omega)))
  · simp only [List.mem_cons, List.not_mem_nil, or_false] at hb
    rcases hb with rfl | rfl
    · exact hs1
    · obtain ⟨o, ho, _⟩ := ht1
      exact Heap.lt_size ho
  · have ea : acc.toList = items.toList.drop k := items_drop hm it
    obtain ⟨hp', g', d', tk', os'⟩ := s'
    obtain ⟨mh, mg, md, mo, mt⟩ := mv
    simp only at mh mg md mo mt
    subst mg md mo
    have hx : Heap.ExtBut s.heap.objs.size s.heap hp' := fun b o hb e => mh b o (by simpa using hb) (sb1.extBut b o hb (Heap.get?_push_of_some _ e))
    rw [ea]
    subst hn
    simp only [Nat.add_sub_cancel, Nat.sub_self, Nat.sub_zero]
    rw [if_neg (by omega)]
    refine wpAny_bind (wpAny_newList ?_ (by simp; omega))
    refine wpAny_pure ?_
    simp only [List.take_length, List.drop_length, List.append_nil]
    exact hQ hp' tk' hx
end
def gStar (K : PySem.W.Frag) (n : Nat) (t : TGs) : TG := fun v σ H Q => ∃ a xs, v = .ref a ∧ SqT K H a xs ∧ n ≤ xs.length ∧ ∀ q, H q = none → t (xs.take n ++ [.ref q]) σ (upd H q (.lst (xs.drop n))) Q
section
variable {X : Cx} {pos : Pos}
theorem vals_take : ∀ {xs : List V} {us : List Value} (n : Nat), Vals xs us → Vals (xs.take n) (us.take n)
  | [], _, n, .nil => by simp; exact .nil
  | _ :: xs, _, 0, .cons a r => by simp; exact .nil
  | _ :: xs, _, n + 1, .cons a r => by simpa using .cons a (vals_take n r)
theorem vals_drop : ∀ {xs : List V} {us : List Value} (n : Nat), Vals xs us → Vals (xs.drop n) (us.drop n)
  | [], _, n, .nil => by simp; exact .nil
  | _ :: xs, _, 0, .cons a r => .cons a r
  | _ :: xs, _, n + 1, .cons a r => by simpa using vals_drop n r
theorem vals_snoc : ∀ {xs : List V} {us : List Value} {x : V} {u : Value}, Vals xs us → RelV x u → Vals (xs ++ [x]) (us ++ [u])
  | [], _, _, _, .nil, h => .cons h .nil
  | _ :: _, _, _, _, .cons a r, h => .cons a (vals_snoc r h)
theorem pg_star {es : List Expr} {k n : Nat} {t : TGs} (hc : X.calm = true) (h : PGs X es t) (hn : (assignEach es X.env).length = n + 1) (hst : (assignEach es X.env).findIdx? (·.1) = some n) : PG X (.Tuple es k pos) (gStar X.K n t) := by
  refine ⟨fun pins s σ H v u Q I r hw => ?_⟩
  obtain ⟨a, xs, rfl, hq, hl, hw⟩ := hw
  cases r
  obtain ⟨its, rv, ht, hz⟩ := I.tuple hq
  have el : xs.length = its.length := rv.length
  rw [assign_Tuple]
  refine wpAny_bind (wpAny_standAt ?_)
  unfold unpack
  rw [hn, hst]
  refine wpAny_bind (wpAny_holding (unpackItems_star (I.ok.hd hc) ht (by simp; omega) rfl (by simp; omega) fun h' tk ex => ?_))
  have I1 : Inv X pins σ H { s with heap := h', toks := tk } := I.kept (t' := tk) fun b o e => ex b o (Nat.ne_of_lt (Heap.lt_size e)) e
  have I2 : Inv X pins σ (upd H h'.objs.size (.lst (xs.drop n))) { s with heap := h'.push { cls := .type "list", data := .seq (its.toArray.toList.drop n).toArray }, toks := tk } :=
    I1.laid (t' := tk) (fun b u e => Heap.get?_push_of_some _ e) (Nat.le_refl _) (show ObjOk X.prog X.w _ _ _ (.lst (xs.drop n)) from ⟨by rw [List.length_drop]; omega, its.drop n, 0, vals_drop n rv, Heap.get?_push_size _ rfl⟩)
  exact h.run pins _ σ _ _ _ Q I2 (vals_snoc (x := .ref h'.objs.size) (by simpa using vals_take n rv) rfl) (hw _ (I1.hok.fresh (Nat.le_refl _)))
theorem ogs_star {i : Nat} {x : Str} {p p' : Pos} (hN : X.N.Nodup) (hi : X.N[i]? = some x := by rfl) (hx : Loc X.env.scope x := by first | exact Or.inl rfl | exact Or.inr rfl)
    (hf : X.fn x = true ∨ X.env.scope.names.lookup x = some .local := by first | exact .inl rfl | exact .inr rfl) : OGs X [.Starred (.Name x p) p'] [i] :=
  ⟨fun pins s σ H vs us Q I r h => (show PGs X [.Name x p] (gNames [i]) from pgs_cons (pg_name hN hi hx hf) pgs_nil).run pins s σ H vs us Q I r h⟩
end
/-- `a, b, *rest = t`: the last name takes a new list -/
def sStar (is : List Nat) (F : DE) : DS := fun env st => bindS (F env st) env fun d st1 => match d with
  | .tup ds => if is.length ≤ ds.length + 1 ∧ is ≠ [] then .nx (setAll env is (ds.take (is.length - 1) ++ [.obj st1.length])) (st1 ++ [.lst (ds.drop (is.length - 1))]) else .stuck
  | _ => .stuck
section
variable {g : Gd} {X : Cx} {W : WX} {pos : Pos}
theorem os_star (c : Ck g X W) {es : List Expr} {e : Expr} {is : List Nat} {k n : Nat} {p : Pos} {F : DE} (h : OE g X W e F) (k1 : OGs X es is) (hi : is.length = n + 1 := by rfl) (hn : (assignEach es X.env).length = n + 1 := by rfl) (hst : (assignEach es X.env).findIdx? (·.1) = some n := by rfl)
    (hs : swapsWithSole [.Tuple es k p] e pos.line X.env = pure false := by rfl) (hw : swappedStores [.Tuple es k p] e X.env = pure none := by rfl) (h1 : (assignEach [.Tuple es k p] X.env).map (·.2) = [assign (.Tuple es k p) X.env] := by rfl) :
    OS g X W (.Assign [.Tuple es k p] e pos) (sStar is F) :=
  ofS (ps_asg h (pg_star c.calm k1 hn hst) hs hw h1) fun E σ H ⟨α, env, st, hE, hS, p⟩ => by
    refine tE.run hE hS ((p.bind hE).imp fun d st1 α1 H1 x1 s1 q v r => ?_)
    split at q
    · rename_i ds
      split at q
      · rename_i hl
        obtain ⟨a, xs, rfl, q1, q2⟩ := r
        rw [hi, Nat.add_sub_cancel] at q
        refine ⟨a, xs, rfl, by rw [c.hK]; exact q1, by rw [← q2.length]; omega, fun b hb => ?_⟩
        have ex := ext_alloc s1 hb (.lst (xs.drop n))
        have sx : StR g (α1 ++ [b]) (st1 ++ [.lst (ds.drop n)]) (upd H1 b (.lst (xs.drop n))) := s1.alloc hb ⟨_, upd_same, (q2.drop n).mono ex⟩
        have rr : RDs g (α1 ++ [b]) (upd H1 b (.lst (xs.drop n))) (ds.take n ++ [.obj st1.length]) (xs.take n ++ [.ref b]) := ((q2.take n).mono ex).append (.cons ⟨b, rfl, alloc_at s1 b⟩ .nil)
        obtain ⟨k2, k3⟩ := setAll_r is ((hE.mono x1).mono ex) rr (by rw [List.length_append, List.length_take, hi]; simp; omega)
        exact k3 _ (q _ _ _ ex sx k2)
      · exact q.elim
    · exact q.elim
end
end Mi

namespace Mi
open PySem PySem.Spec PyProof.Rows L2
/-! ### zip(tuple, list, strict=True), walked by a pair of names -/
abbrev ZipS (h : Heap) (z A B : Addr) (f : Value) : Prop := h.get? z = some { cls := .type "zip", dict := none, data := .fields #[f, .bool false, .bool true, .ref A, .ref B], slots := #[] }
section
variable {prog : Program} {w : World} {A : Around} {E : Value → Shared → Prop} {s : Shared}
theorem noe {v : Value} {Q : Option Value → Shared → Prop} (h : wpAny (model prog w) A (Builtin.SmallTypes.nextOf v) (fun x s1 => Q (some x) s1) (fun e s1 => s1.TypeIs e "StopIteration" ∧ Q none s1) s) : wpAny (model prog w) A (Builtin.SmallTypes.nextOrEnd v) Q E s := by
  unfold Builtin.SmallTypes.nextOrEnd
  refine wpAny_bind (wpAny_attempt (wpAny_mono h (fun x s1 q => wpAny_pure q) fun e s1 q => ?_))
  exact wpAny_bind (wpAny_isInstance (T := "StopIteration") (b := true) q.1 isSubtype_stop (wpAny_pure q.2))
theorem noe_t {it l : Addr} {i : Nat} {items : Array Value} {x : Value} {Q : Option Value → Shared → Prop} (hit : s.heap.IsTupleIter it l i) (hl : s.heap.IsTuple l items) (hx : items[i]? = some x)
    (hQ : ∀ h', h'.IsTupleIter it l (i + 1) → Heap.SameBut it s.heap h' → Q (some x) { s with heap := h' }) : wpAny (model prog w) A (Builtin.SmallTypes.nextOrEnd (.ref it)) Q E s := noe (RZ.nextOf_tuple_item hit hl hx hQ)
theorem noe_l {it l : Addr} {i : Nat} {items : Array Value} {x : Value} {Q : Option Value → Shared → Prop} (hit : s.heap.IsListIter it l i) (hl : s.heap.IsList l items) (hx : items[i]? = some x)
    (hQ : ∀ h', h'.IsListIter it l (i + 1) → Heap.SameBut it s.heap h' → Q (some x) { s with heap := h' }) : wpAny (model prog w) A (Builtin.SmallTypes.nextOrEnd (.ref it)) Q E s := noe (wpAny_nextOf_list_item hit hl hx hQ)
theorem noe_tx {it l : Addr} {i : Nat} {items : Array Value} {Q : Option Value → Shared → Prop} (hh : A.handled = none) (hit : s.heap.IsTupleIter it l i) (hl : s.heap.IsTuple l items) (hx : items[i]? = none)
    (hQ : ∀ h', Heap.ExtBut it s.heap h' → Q none { s with heap := h' }) : wpAny (model prog w) A (Builtin.SmallTypes.nextOrEnd (.ref it)) Q E s := noe (RZ.nextOf_tuple_end hh hit hl hx fun h' e ex ⟨o, ho, hc⟩ => ⟨⟨o, ho, hc⟩, hQ h' ex⟩)
theorem noe_lx {it l : Addr} {i : Nat} {items : Array Value} {Q : Option Value → Shared → Prop} (hh : A.handled = none) (hit : s.heap.IsListIter it l i) (hl : s.heap.IsList l items) (hx : items[i]? = none)
    (hQ : ∀ h', Heap.ExtBut it s.heap h' → Q none { s with heap := h' }) : wpAny (model prog w) A (Builtin.SmallTypes.nextOrEnd (.ref it)) Q E s := noe (wpAny_nextOf_list_end hh hit hl hx fun h' e ex ⟨o, ho, hc⟩ => ⟨⟨o, ho, hc⟩, hQ h' ex⟩)
theorem zs_item {z P R i j l m : Addr} {k : Nat} {xs ys : Array Value} {x y a b : Value} {Q : Value → Shared → Prop} (D : ZipApart z P R i j l m)
    (cz : ZipS s.heap z P R .none) (cP : IsPair s.heap P (.ref i) (.ref j)) (cR : IsPair s.heap R a b)
    (c1 : s.heap.IsTupleIter i l k) (c2 : s.heap.IsListIter j m k) (cl : s.heap.IsTuple l xs) (cm : s.heap.IsList m ys) (ex : xs[k]? = some x) (ey : ys[k]? = some y)
    (fin : ∀ h', ZipS h' z P R (rawInt s.heap.objs.size) → IsPair h' R x y → h'.IsTupleIter i l (k + 1) → h'.IsListIter j m (k + 1) → IsPair h' s.heap.objs.size x y → h'.objs.size = s.heap.objs.size + 1 →
      (∀ c o, c ≠ z → c ≠ R → c ≠ i → c ≠ j → s.heap.get? c = some o → h'.get? c = some o) → Q (.ref s.heap.objs.size) { s with heap := h' }) :
    wpAny (model prog w) A (Builtin.«zip.__next__» ⟨[.ref z], []⟩) (fun fin s' => ∃ v, fin = .done (.ret v) ∧ Q v s') E s := by
  show wpAny _ _ (field (.ref z) 2 >>= _) _ _ _
  refine wpAny_bind (wpAny_field cz rfl (x := .bool true) rfl ?_)
  show wpAny _ _ (field (.ref z) 3 >>= _) _ _ _
  refine wpAny_bind (wpAny_field cz rfl (x := .ref P) rfl (wpAny_bind (wpAny_seqItems cP rfl ?_)))
  show wpAny _ _ (Builtin.SmallTypes.ownedTupleIsFree (.ref z) >>= _) _ _ _
  refine wpAny_bind ?_
  unfold Builtin.SmallTypes.ownedTupleIsFree
  refine wpAny_bind (wpAny_field cz rfl (x := .none) rfl (wpAny_pure ?_))
  simp only [if_true]
  refine wpAny_bind (wpAny_rule (wpAny_bind (wpAny_field cz rfl (x := .ref R) rfl ?_)))
  refine wpAny_bind (wpAny_setField_rec cz (by simp) fun g1 z1 u1 => ?_)
  replace z1 : ZipS g1 z P R .ellipsis := z1
  refine wpAny_bind ?_
  simp only [List.zipIdx_cons, List.zipIdx_nil, List.forIn_cons, List.forIn_nil]
  refine wpAny_bind (wpAny_bind (wpAny_onRaise ?_))
  show wpAny _ _ (Builtin.SmallTypes.nextOrEnd (.ref i)) _ _ _
  refine noe_t (c1.extBut u1.extBut D.i1z) (cl.extBut u1.extBut D.l1z) ex fun g2 d1 u2 => ?_
  have r2 : IsPair g2 R a b := u2.extBut _ _ D.TOi1 (u1.extBut _ _ D.TOz cR)
  refine wpAny_bind (wpAny_seqItems r2 rfl (wpAny_bind (wpAny_updateSeq_pair r2 fun g3 r3 u3 => ?_)))
  replace r3 : IsPair g3 R x b := r3
  refine wpAny_bind (wpAny_letGo (wpAny_pure (wpAny_bind (wpAny_bind (wpAny_onRaise ?_)))))
  show wpAny _ _ (Builtin.SmallTypes.nextOrEnd (.ref j)) _ _ _
  refine noe_l (((c2.extBut u1.extBut D.i2z).extBut u2.extBut D.i12.symm).extBut u3.extBut D.TOi2.symm) (((cm.extBut u1.extBut D.l2z).extBut u2.extBut D.l2i1).extBut u3.extBut D.l2TO) ey fun g4 d2 u4 => ?_
  have r4 : IsPair g4 R x b := u4.extBut _ _ D.TOi2 r3
  refine wpAny_bind (wpAny_seqItems r4 rfl (wpAny_bind (wpAny_updateSeq_pair r4 fun g5 r5 u5 => ?_)))
  replace r5 : IsPair g5 R x y := r5
  refine wpAny_bind (wpAny_letGo (wpAny_pure (wpAny_pure (wpAny_bind (wpAny_seqItems r5 rfl (wpAny_bind (wpAny_newTuple ?_)))))))
  have sz : g5.objs.size = s.heap.objs.size := by rw [u5.1, u4.1, u3.1, u2.1, u1.1]
  have z5 : ZipS g5 z P R .ellipsis := u5.extBut _ _ D.TOz.symm (u4.extBut _ _ D.i2z.symm (u3.extBut _ _ D.TOz.symm (u2.extBut _ _ D.i1z.symm z1)))
  have k5 : ∀ c o, c ≠ z → c ≠ R → c ≠ i → c ≠ j → s.heap.get? c = some o → g5.get? c = some o := fun c o n1 n2 n3 n4 e => u5.extBut _ _ n2 (u4.extBut _ _ n4 (u3.extBut _ _ n2 (u2.extBut _ _ n3 (u1.extBut _ _ n1 e))))
  have e1 : g5.IsTupleIter i l (k + 1) := ((d1.extBut u3.extBut D.TOi1.symm).extBut u4.extBut D.i12).extBut u5.extBut D.TOi1.symm
  have e2 : g5.IsListIter j m (k + 1) := d2.extBut u5.extBut D.TOi2.symm
  have zl : z < g5.objs.size := Heap.lt_size z5
  show wpAny _ _ (Builtin.SmallTypes.ownedTupleHandOut (.ref z) (.ref g5.objs.size) >>= _) _ _ _
  refine wpAny_bind ?_
  unfold Builtin.SmallTypes.ownedTupleHandOut
  have z6 : ZipS (g5.push { cls := .type "tuple", data := .seq #[x, y] }) z P R .ellipsis := Heap.get?_push_of_some _ z5
  refine wpAny_bind (wpAny_setField_rec z6 (by simp) fun g7 z7 u7 => ?_)
  replace z7 : ZipS g7 z P R (rawInt g5.objs.size) := z7
  refine wpAny_setField_rec z7 (by simp) fun g8 z8 u8 => ?_
  replace z8 : ZipS g8 z P R (rawInt g5.objs.size) := z8
  have up : ∀ c o, c ≠ z → g5.get? c = some o → g8.get? c = some o := fun c o n e => u8.extBut _ _ n (u7.extBut _ _ n (Heap.get?_push_of_some _ e))
  have t8 : IsPair g8 g5.objs.size x y := u8.extBut _ _ (Nat.ne_of_gt zl) (u7.extBut _ _ (Nat.ne_of_gt zl) (Heap.get?_push_size _ rfl))
  have s8 : g8.objs.size = g5.objs.size + 1 := by rw [u8.1, u7.1, Heap.size_push]
  rw [sz] at z8 t8 s8
  refine wpAny_pure ⟨_, rfl, ?_⟩
  show Q (.ref g5.objs.size) _
  rw [sz]
  exact fin g8 z8 (up _ _ D.TOz r5) (e1.at fun o e => up _ o D.i1z e) (e2.at fun o e => up _ o D.i2z e) t8 s8 fun c o n1 n2 n3 n4 e => up c o n1 (k5 c o n1 n2 n3 n4 e)
theorem stop_it {β : Type} {Q : β → Shared → Prop} (hh : A.handled = none) (fin : ∀ h' e, (∀ b o, s.heap.get? b = some o → h'.get? b = some o) → (∃ o, h'.get? e = some o ∧ o.cls = .type "StopIteration") → E (.ref e) { s with heap := h' }) : wpAny (model prog w) A (Builtin.SmallTypes.stopIteration : Sem β) Q E s := by
  unfold Builtin.SmallTypes.stopIteration
  refine wpAny_bind ?_
  simp only [newExc, newTuple]
  refine wpAny_bind (wpAny_newObj_type (wpAny_bind (m := firstArgMember _ _) (wpAny_of_eq (a := Value.none) (by first | rfl | (simp only [firstArgMember]; rfl)) (wpAny_newObj_type ?_ (by size_fits)))) (by size_fits))
  simp only [raiseNew]
  refine wpAny_bind (wpAny_handled ?_)
  rw [hh]
  exact wpAny_bind (wpAny_pure (wpAny_throw (fin _ _ (fun b o q => Heap.get?_push_of_some _ (Heap.get?_push_of_some _ q)) ⟨_, Heap.get?_push_size _ rfl, rfl⟩)))
theorem zs_end {z P R i j l m : Addr} {k : Nat} {xs ys : Array Value} {a b : Value} {Q : Fin → Shared → Prop} (hh : A.handled = none) (D : ZipApart z P R i j l m)
    (cz : ZipS s.heap z P R .none) (cP : IsPair s.heap P (.ref i) (.ref j)) (cR : IsPair s.heap R a b)
    (c1 : s.heap.IsTupleIter i l k) (c2 : s.heap.IsListIter j m k) (cl : s.heap.IsTuple l xs) (cm : s.heap.IsList m ys) (ex : xs[k]? = none) (ey : ys[k]? = none)
    (fin : ∀ h' e, (∀ c o, c ≠ z → c ≠ R → c ≠ i → c ≠ j → s.heap.get? c = some o → h'.get? c = some o) → (∃ o, h'.get? e = some o ∧ o.cls = .type "StopIteration") → E (.ref e) { s with heap := h' }) :
    wpAny (model prog w) A (Builtin.«zip.__next__» ⟨[.ref z], []⟩) Q E s := by
  show wpAny _ _ (field (.ref z) 2 >>= _) _ _ _
  refine wpAny_bind (wpAny_field cz rfl (x := .bool true) rfl ?_)
  show wpAny _ _ (field (.ref z) 3 >>= _) _ _ _
  refine wpAny_bind (wpAny_field cz rfl (x := .ref P) rfl (wpAny_bind (wpAny_seqItems cP rfl ?_)))
  show wpAny _ _ (Builtin.SmallTypes.ownedTupleIsFree (.ref z) >>= _) _ _ _
  refine wpAny_bind ?_
  unfold Builtin.SmallTypes.ownedTupleIsFree
  refine wpAny_bind (wpAny_field cz rfl (x := .none) rfl (wpAny_pure ?_))
  simp only [if_true]
  refine wpAny_bind (wpAny_rule (wpAny_bind (wpAny_field cz rfl (x := .ref R) rfl ?_)))
  refine wpAny_bind (wpAny_setField_rec cz (by simp) fun g1 z1 u1 => ?_)
  replace z1 : ZipS g1 z P R .ellipsis := z1
  refine wpAny_bind ?_
  simp only [List.zipIdx_cons, List.zipIdx_nil, List.forIn_cons, List.forIn_nil]
  refine wpAny_bind (wpAny_bind (wpAny_onRaise ?_))
  show wpAny _ _ (Builtin.SmallTypes.nextOrEnd (.ref i)) _ _ _
  refine noe_tx hh (c1.extBut u1.extBut D.i1z) (cl.extBut u1.extBut D.l1z) ex fun g2 u2 => ?_
  have z2 : ZipS g2 z P R .ellipsis := u2 _ _ D.i1z.symm z1
  refine wpAny_bind (wpAny_setField_rec z2 (by simp) fun g3 z3 u3 => ?_)
  refine wpAny_bind ?_
  wp_delta
  rw [if_neg (by decide)]
  have d2 : g3.IsListIter j m k := (((c2.extBut u1.extBut D.i2z).extBut u2 D.i12.symm).extBut u3.extBut D.i2z)
  have m2 : g3.IsList m ys := (((cm.extBut u1.extBut D.l2z).extBut u2 D.l2i1).extBut u3.extBut D.l2z)
  show wpAny _ _ (_ >>= _) _ _ _
  refine wpAny_bind ?_
  simp only [List.drop_succ_cons, List.drop_zero, List.zipIdx_cons, List.zipIdx_nil, List.forIn_cons, List.forIn_nil]
  refine wpAny_bind (wpAny_bind (noe_lx hh d2 m2 ey fun g4 u4 => ?_))
  simp only [Option.isSome_none, Bool.false_eq_true, if_false]
  refine wpAny_pure (wpAny_pure (wpAny_bind (wpAny_rule ?_)))
  refine stop_it hh fun g5 e u5 he => fin g5 e (fun c o n1 n2 n3 n4 q => u5 c o (u4 c o n4 (u3.extBut c o n1 (u2 c o n3 (u1.extBut c o n1 q))))) he
theorem zs_next_item {z P R i j l m : Addr} {k : Nat} {xs ys : Array Value} {x y a b : Value} {Q : Option Value → Shared → Prop} (D : ZipApart z P R i j l m)
    (cz : ZipS s.heap z P R .none) (cP : IsPair s.heap P (.ref i) (.ref j)) (cR : IsPair s.heap R a b)
    (c1 : s.heap.IsTupleIter i l k) (c2 : s.heap.IsListIter j m k) (cl : s.heap.IsTuple l xs) (cm : s.heap.IsList m ys) (ex : xs[k]? = some x) (ey : ys[k]? = some y)
    (fin : ∀ h', ZipS h' z P R (rawInt s.heap.objs.size) → IsPair h' R x y → h'.IsTupleIter i l (k + 1) → h'.IsListIter j m (k + 1) → IsPair h' s.heap.objs.size x y → h'.objs.size = s.heap.objs.size + 1 →
      (∀ c o, c ≠ z → c ≠ R → c ≠ i → c ≠ j → s.heap.get? c = some o → h'.get? c = some o) → Q (some (.ref s.heap.objs.size)) { s with heap := h' }) : wpAny (model prog w) A (pyNext (.ref z)) Q E s := by
  have ty : s.TypeIs (.ref z) "zip" := ⟨_, cz, rfl⟩
  unfold pyNext
  exact wpAny_bind (wpAny_attempt (wpAny_callSpecial?_slot (name := Str.ofString "__next__") ty PySem.F.slot_zip_next (wpAny_call_entry PySem.F.slot_zip_next ty PySem.F.entry_zip_next (zs_item D cz cP cR c1 c2 cl cm ex ey fun h' q1 q2 q3 q4 q5 q6 q7 => wpAny_pure (fin h' q1 q2 q3 q4 q5 q6 q7)) (PySem.F.args_zip_next_1 _))))
theorem zs_next_end {z P R i j l m : Addr} {k : Nat} {xs ys : Array Value} {a b : Value} {Q : Option Value → Shared → Prop} (hh : A.handled = none) (D : ZipApart z P R i j l m)
    (cz : ZipS s.heap z P R .none) (cP : IsPair s.heap P (.ref i) (.ref j)) (cR : IsPair s.heap R a b)
    (c1 : s.heap.IsTupleIter i l k) (c2 : s.heap.IsListIter j m k) (cl : s.heap.IsTuple l xs) (cm : s.heap.IsList m ys) (ex : xs[k]? = none) (ey : ys[k]? = none)
    (fin : ∀ h', (∀ c o, c ≠ z → c ≠ R → c ≠ i → c ≠ j → s.heap.get? c = some o → h'.get? c = some o) → Q none { s with heap := h' }) : wpAny (model prog w) A (pyNext (.ref z)) Q E s := by
  have ty : s.TypeIs (.ref z) "zip" := ⟨_, cz, rfl⟩
  unfold pyNext
  refine wpAny_bind (wpAny_attempt (wpAny_callSpecial?_slot (name := Str.ofString "__next__") ty PySem.F.slot_zip_next (wpAny_call_entry PySem.F.slot_zip_next ty PySem.F.entry_zip_next (zs_end hh D cz cP cR c1 c2 cl cm ex ey fun h' e hk he => ?_) (PySem.F.args_zip_next_1 _))))
  obtain ⟨o, ho, hc⟩ := he
  exact wpAny_bind (wpAny_isInstance (T := "StopIteration") (b := true) ⟨o, ho, hc⟩ isSubtype_stop (wpAny_pure (fin _ hk)))
theorem zs_go {elts : List Expr} {n} {pos : Pos} {z P R T : Addr} {Q : Unit → Shared → Prop} (cz : ZipS s.heap z P R (rawInt T)) (fin : ∀ h', ZipS h' z P R .none → Heap.SameBut z s.heap h' → Q () { s with heap := h' }) : wpAny (model prog w) A (letOwnedTupleGo (.Tuple elts n pos) (.ref z) (.ref T)) Q E s := by
  unfold letOwnedTupleGo
  refine wpAny_bind (wpAny_load cz ?_)
  simp only
  rw [if_pos (by simp)]
  refine wpAny_bind (wpAny_rule ?_)
  exact wpAny_setField_rec cz (by simp) fun h' q1 q2 => fin h' q1 q2
theorem zs_self {z P R : Addr} {f : Value} {Q : Value → Shared → Prop} (cz : ZipS s.heap z P R f) (h : Q (.ref z) s) : wpAny (model prog w) A (pyIter (.ref z)) Q E s := by
  have ty : s.TypeIs (.ref z) "zip" := ⟨_, cz, rfl⟩
  refine wpAny_pyIter_slot ty PySem.F.slot_zip_iter (wpAny_call_entry PySem.F.slot_zip_iter ty PySem.F.entry_zip_iter ?_ (PySem.F.args_zip_iter_1 _))
  exact wpAny_pure ⟨_, rfl, "zip", _, ty, PySem.F.slot_zip_next.lookup, h⟩
end
end Mi

namespace Mi
open PySem PySem.Spec PyProof.Rows L2
section
variable {M : Model} {prog : Program} {w : World} {A : Around} {E : Value → Shared → Prop} {s : Shared}
theorem callWith_tyK {pos : Pos} {T : String} {e : Expr} {rest : List Expr} {kws : List Keyword} {env : PySem.Env} {Q : Value → Shared → Prop}
    (h : wpAny M A (spliced (backTo pos (starEach (e :: rest) env))) (fun vs s1 => wpAny M A (evalAll ((backToKw pos (keywordEach kws env)).map (·.2))) (fun us s2 => wpAny M A (call (.type T) vs (((backToKw pos (keywordEach kws env)).filterMap (·.1)).zip us)) Q E s2) E s1) E s)
    (he : backTo pos (starEach (e :: rest) env) = (false, eval e env) :: backTo pos (starEach rest env) := by rfl) (hp : (backTo pos (starEach (e :: rest) env)).any (·.1) = false := by rfl)
    (ha : (backToKw pos (keywordEach kws env)).all (·.1.isSome) = true := by rfl) (hn : (backToKw pos (keywordEach kws env)).any (·.1.isNone) = false := by rfl) :
    wpAny M A (callWith pos (.type T) [] (backTo pos (starEach (e :: rest) env)) (backToKw pos (keywordEach kws env))) Q E s := by
  unfold callWith
  have g : wpAny M A (evalArgs (.type T) true (backTo pos (starEach (e :: rest) env)) (backToKw pos (keywordEach kws env))) (fun a s1 => wpAny M A (call (.type T) a.pos a.kw) Q E s1) E s := by
    rw [he] at h ⊢
    exact evalArgs_kwB ha h
  refine wpAny_bind (wpAny_holding (wpAny_mono g (fun a s1 q => wpAny_bind (wpAny_standAt ?_)) fun _ _ x => x))
  simp only [hp, hn, Bool.or_false]
  refine wpAny_bind (wpAny_pure (wpAny_bind (wpAny_mono q (fun r s2 hr => wpAny_bind (wpAny_holding (wpAny_point (wpAny_pure hr)))) fun _ _ x => x)))
abbrev zH1 (h : Heap) (l : Addr) : Heap := h.push { cls := .type "tuple_iterator", data := .fields #[.ref l, .int 0 0] }
abbrev zH2 (h : Heap) (l m : Addr) : Heap := (zH1 h l).push { cls := .type "list_iterator", data := .fields #[.ref m, .int 0 0] }
abbrev zH3 (h : Heap) (l m : Addr) : Heap := (zH2 h l m).push { cls := .type "tuple", data := .seq #[.ref h.objs.size, .ref (zH1 h l).objs.size] }
abbrev zH4 (h : Heap) (l m : Addr) : Heap := (zH3 h l m).push { cls := .type "tuple", data := .seq #[.none, .none] }
abbrev zH5 (h : Heap) (l m : Addr) : Heap := (zH4 h l m).push { cls := .type "zip", data := .fields #[.none, .bool false, .bool true, .ref (zH2 h l m).objs.size, .ref (zH3 h l m).objs.size] }
theorem zs_new (l m : Addr) (xs ys : Array Value) : Meets (Builtin.«zip.__new__» ⟨[.type "zip", .ref l, .ref m], [("strict", .bool true)]⟩) (fun _ R s => s.heap.IsTuple l xs ∧ s.heap.IsList m ys ∧ R (.ok (.ret (.ref (zH4 s.heap l m).objs.size))) { s with heap := zH5 s.heap l m }) :=
  .of_wp fun prog w A R s h => by
    obtain ⟨hp, g, d, tk, os⟩ := s
    obtain ⟨q1, q2, h⟩ := h
    have sub := sub_zip
    have L1 : Heap.IsTuple (Shared.heap ⟨hp, g, d, tk, os⟩) l xs := q1
    have L2 : Heap.IsList (Shared.heap ⟨hp.push { cls := .type "tuple_iterator", data := .fields #[.ref l, .int 0 0] }, g, d, tk, os⟩) m ys := Heap.IsList.push q2 _
    wp_walk using wpAny_pyIter_tuple L1, wpAny_pyIter_list L2
    exact ⟨_, rfl, h⟩
theorem oi_kw {self a b k : Value} : Meets (Builtin.«object.__init__» ⟨[self, a, b], [("strict", k)]⟩) (fun _ R s => s.TypeIs self "zip" ∧ R (.ok (.ret .none)) s) := by
  refine Meets.of_wp fun prog w A R s hs => ?_
  obtain ⟨hT, hq⟩ := hs
  have hl := PySem.F.called_zip.init.lookup
  have hm := PySem.F.called_zip.made
  have hne : (some "zip.__new__" != some "object.__new__") = true := by decide
  repeat (any_goals (first | assumption | wp_step))
  all_goals exact ⟨_, rfl, hq⟩
theorem zs_ct (a b : Value) : checkTypeCall "zip" ⟨[a, b], [("strict", .bool true)]⟩ = pure () := by kernel_rfl
theorem zs_cn (a b : Value) : checkBuiltinCall "zip.__new__" ⟨[.type "zip", a, b], [("strict", .bool true)]⟩ = pure () := by kernel_rfl
theorem zs_ci (o a b : Value) : argsOk "object.__init__" ⟨[o, a, b], [("strict", .bool true)]⟩ := by unfold argsOk; kernel_rfl
theorem zs_call {l m : Addr} {xs ys : Array Value} {Q : Value → Shared → Prop} (q1 : s.heap.IsTuple l xs) (q2 : s.heap.IsList m ys)
    (fin : ZipS (zH5 s.heap l m) (zH4 s.heap l m).objs.size (zH2 s.heap l m).objs.size (zH3 s.heap l m).objs.size .none → Q (.ref (zH4 s.heap l m).objs.size) { s with heap := zH5 s.heap l m }) :
    wpAny (model prog w) A (call (.type "zip") [.ref l, .ref m] [("strict", .bool true)]) Q E s := by
  have ft := PySem.F.called_zip
  obtain ⟨c, tl, hmro⟩ := ft.mro
  have hmade := ft.made
  have hsub := ft.sub
  refine wpAny_call (codeAny_of_tree ?_)
  show wpAny _ _ (callAny (.type "zip") _) _ _ _
  refine wpAny_pure ⟨Code.quiet_builtin _ (by decide +kernel), codeAny_builtin PySem.F.entry_type_call ?_⟩
  rw [Around.under_plain (weight_type_call_type "zip" _ _) (units_type_call_type "zip" _ _)]
  have h1 := ft.notType
  have h2 := ft.canCreate
  have hct := zs_ct (.ref l) (.ref m)
  repeat (any_goals (first | assumption | wp_step))
  refine codeAny_mono (codeAny_call_builtin ft.plain PySem.F.entry_zip_new (wpAny_of_eq (zs_cn (.ref l) (.ref m)) (zs_new l m xs ys prog w A.in1 (wants (fun obj s1 => obj = .ref (zH4 s.heap l m).objs.size ∧ s1 = { s with heap := zH5 s.heap l m }) E) s ⟨q1, q2, rfl, rfl⟩))) fun r s1 hr => ?_
  cases r with
  | error e => exact hr
  | ok fl =>
    cases fl with
    | ret obj =>
      obtain ⟨rfl, rfl⟩ := hr
      have g5 : ZipS (zH5 s.heap l m) (zH4 s.heap l m).objs.size (zH2 s.heap l m).objs.size (zH3 s.heap l m).objs.size .none := Heap.get?_push_size _ rfl
      have hT : ({ s with heap := zH5 s.heap l m } : Shared).TypeIs (.ref (zH4 s.heap l m).objs.size) "zip" := ⟨_, g5, rfl⟩
      have hli := ft.init.lookup
      have hbi := ft.init.bind (.ref (zH4 s.heap l m).objs.size)
      repeat (any_goals (first | assumption | wp_step))
      refine codeAny_mono (codeAny_call_builtin ft.init.plain PySem.F.entry_object_init (ft.init.check _ _ _ _ _ _ _ _ hT (zs_ci _ (.ref l) (.ref m)) (oi_kw prog w A.in1 (wants (fun r s2 => r = .none ∧ Q (.ref (zH4 s.heap l m).objs.size) s2) E) _ ⟨hT, rfl, fin g5⟩))) fun r2 s2 hr2 => ?_
      cases r2 with
      | error e => exact hr2
      | ok fl2 =>
        cases fl2 with
        | ret r =>
          obtain ⟨rfl, hq⟩ := hr2
          repeat (any_goals (first | assumption | wp_step))
        | _ => exact hr2.elim
    | _ => exact hr.elim
end
end Mi

namespace Mi
open PySem PySem.Spec PyProof.Rows L2
def ItS (K : PySem.W.Frag) (a b : Addr) : It :=
  ⟨fun i H => ∃ (us vs : List V) (u v : V), SqT K H a us ∧ SqL K H b vs ∧ us[i]? = some u ∧ vs[i]? = some v,
    fun i H r H' => ∃ T u v, r = .ref T ∧ H T = none ∧ H' = upd H T (.tup [u, v]) ∧ (∀ us, SqT K H a us → us[i]? = some u) ∧ ∀ vs, SqL K H b vs → vs[i]? = some v,
    fun i H => ∃ us vs : List V, SqT K H a us ∧ SqL K H b vs ∧ us.length ≤ i ∧ vs.length ≤ i⟩
theorem turn_zs {P : Program} {w : World} {K : PySem.W.Frag} {elts : List Expr} {n : Nat} {tp : Pos} {l m z Q R i1 i2 : Addr} (D : ZipApart z Q R i1 i2 l m) :
    Turn P w K (.Tuple elts n tp) (ItS K l m) [z, Q, R, i1, i2] z (fun i h => ZipS h z Q R .none ∧ IsPair h Q (.ref i1) (.ref i2) ∧ (∃ x y, IsPair h R x y) ∧ h.IsTupleIter i1 l i ∧ h.IsListIter i2 m i) where
  mem := by simp
  obj := fun i h st c hc => by
    obtain ⟨cz, cQ, ⟨x, y, cR⟩, ⟨o1, e1, _, d1⟩, ⟨o2, e2, _, d2⟩⟩ := st
    simp only [List.mem_cons, List.not_mem_nil, or_false] at hc
    rcases hc with rfl | rfl | rfl | rfl | rfl
    · exact ⟨_, cz, fun v q => nomatch q⟩
    · exact ⟨_, cQ, fun v q => nomatch q⟩
    · exact ⟨_, cR, fun v q => nomatch q⟩
    · exact ⟨o1, e1, fun v q => by rw [d1] at q; cases q⟩
    · exact ⟨o2, e2, fun v q => by rw [d2] at q; cases q⟩
  keep := fun i h h' st k => by
    obtain ⟨cz, cQ, ⟨x, y, cR⟩, c1, c2⟩ := st
    exact ⟨k z (by simp) _ cz, k Q (by simp) _ cQ, ⟨x, y, k R (by simp) _ cR⟩, c1.at fun o q => k i1 (by simp) o q, c2.at fun o q => k i2 (by simp) o q⟩
  item := by
    intro X hP hw hK hc i pins s σ H E I hf st hg
    subst hP hw hK
    obtain ⟨cz, cQ, ⟨x0, y0, cR⟩, c1, c2⟩ := st
    obtain ⟨us, vs, u, v, g1, g2, eu, ev⟩ := hg
    obtain ⟨its, rv, p1, _⟩ := I.tuple g1
    obtain ⟨its2, rv2, p2, _⟩ := I.list g2
    obtain ⟨a1, ea1, r1⟩ := rv.get eu
    obtain ⟨a2, ea2, r2⟩ := rv2.get ev
    have zl : z < s.heap.objs.size := Heap.lt_size cz
    refine zs_next_item D cz cQ cR c1 c2 p1 p2.isList (x := a1) (y := a2) (by simpa using ea1) (by simpa using ea2) fun h' z' R' d1 d2 hT sz hk => ?_
    refine ⟨_, rfl, zs_go (s := { s with heap := h' }) z' fun h2 z2 sb => ?_⟩
    have t2 : h2.get? s.heap.objs.size = some { cls := .type "tuple", data := .seq #[a1, a2] } := (sb.2 _ (Nat.ne_of_gt zl)).trans hT
    have nw : ObjOk X.prog X.w (upd H s.heap.objs.size (.tup [u, v])) h2 s.heap.objs.size (.tup [u, v]) := ⟨by show 2 ≤ sizeLine; decide, [a1, a2], .cons r1 (.cons r2 .nil), ⟨_, t2, rfl, _, rfl⟩⟩
    have ne : ∀ {c : Addr}, c ∉ [z, Q, R, i1, i2] → c ≠ z ∧ c ≠ R ∧ c ≠ i1 ∧ c ≠ i2 := fun {c} hb => by simp at hb; exact ⟨hb.1, hb.2.2.1, hb.2.2.2.1, hb.2.2.2.2⟩
    have I1 : Inv X pins σ (upd H s.heap.objs.size (.tup [u, v])) { s with heap := h2 } := I.turnedNew (t' := s.toks) (ch := [z, Q, R, i1, i2]) (fun c o hb q => (sb.2 c (ne hb).1).trans (hk c o (ne hb).1 (ne hb).2.1 (ne hb).2.2.1 (ne hb).2.2.2 q)) hf (Nat.le_refl _) nw
    refine ⟨.ref s.heap.objs.size, _, I1, rfl, ⟨_, u, v, rfl, I.hok.fresh (Nat.le_refl _), rfl, fun l hl => by rw [I.tuple_inj hl g1]; exact eu, fun l hl => by rw [I.list_inj hl g2]; exact ev⟩, ⟨z2, ?_, ⟨a1, a2, ?_⟩, ?_, ?_⟩, fun c hcm => ?_⟩
    · exact (sb.2 _ D.TIz).trans (hk _ _ D.TIz D.TITO D.TIi1 D.TIi2 cQ)
    · exact (sb.2 _ D.TOz).trans R'
    · exact d1.at fun o q => (sb.2 _ D.i1z).trans q
    · exact d2.at fun o q => (sb.2 _ D.i2z).trans q
    · have lt : c < s.heap.objs.size := by
        simp only [List.mem_cons, List.not_mem_nil, or_false] at hcm
        rcases hcm with rfl | rfl | rfl | rfl | rfl
        · exact zl
        · exact Heap.lt_size cQ
        · exact Heap.lt_size cR
        · obtain ⟨_, e1, _⟩ := c1; exact Heap.lt_size e1
        · obtain ⟨_, e2, _⟩ := c2; exact Heap.lt_size e2
      rw [upd_ne (Nat.ne_of_lt lt)]
      exact (hf c hcm).1
  done := by
    intro X hP hw hK hc i pins s σ H E I hf st hg
    subst hP hw hK
    obtain ⟨cz, cQ, ⟨x0, y0, cR⟩, c1, c2⟩ := st
    obtain ⟨us, vs, g1, g2, e1, e2⟩ := hg
    obtain ⟨its, rv, p1, _⟩ := I.tuple g1
    obtain ⟨its2, rv2, p2, _⟩ := I.list g2
    have l1 := rv.length
    have l2 := rv2.length
    have ne : ∀ {c : Addr}, c ∉ [z, Q, R, i1, i2] → c ≠ z ∧ c ≠ R ∧ c ≠ i1 ∧ c ≠ i2 := fun {c} hb => by simp at hb; exact ⟨hb.1, hb.2.2.1, hb.2.2.2.1, hb.2.2.2.2⟩
    exact zs_next_end (I.ok.hd hc) D cz cQ cR c1 c2 p1 p2.isList (by simp; omega) (by simp; omega) fun h' hk => ⟨rfl, I.turnedL (t' := s.toks) (ch := [z, Q, R, i1, i2]) (fun c o hb q => hk c o (ne hb).1 (ne hb).2.1 (ne hb).2.2.1 (ne hb).2.2.2 q) hf⟩
  self := fun A i s Q E st h => zs_self st.1 h
def iZs (K : PySem.W.Frag) (ta : TA) : TI := fun σ H R => ta σ H fun vs H1 => ∃ a b xs ys, vs = [.ref a, .ref b] ∧ SqT K H1 a xs ∧ SqL K H1 b ys ∧ R (ItS K a b) H1
theorem pi_zs {X : Cx} {e e2 : Expr} {ta : TA} {p pos tpos kp vp : Pos} {j} {elts : List Expr} {kk : Nat} (hg : L2.Gl X "zip") (hm : X.mg "zip" = none) (ha : PA X [e, e2] ta)
    (hs : backTo pos (starEach [e, e2] X.env) = (false, eval e X.env) :: backTo pos (starEach [e2] X.env) := by rfl) (hpl : (backTo pos (starEach [e, e2] X.env)).any (·.1) = false := by rfl) :
    PI X (.Tuple elts kk tpos) (.Call (.Name "zip" p) [e, e2] [⟨some "strict", .Constant (.bool true) j vp, kp⟩] pos) (iZs X.K ta) := by
  refine ⟨fun pins s σ H R I h => ?_⟩
  refine wpAny_Call_Name_kw (ld_blt I hg hm PyProof.Rows.boot_zip ?_ (by decide) (by decide))
  refine callWith_tyK (thn (ha.run pos pins s σ H _ I h) fun us s1 ⟨vs, H1, I1, r1, q1⟩ => thn ((show PK X [⟨some "strict", .Constant (.bool true) j vp, kp⟩] (tCons (tC (.bl true)) tNil) from pk_cons pe_bl pk_nil).run pos pins s1 σ H1 (fun zs H2 => zs = [.bl true] ∧ H2 = H1) I1 ⟨rfl, rfl⟩) fun ws s2 ⟨zs, H2, I2, r2, ez, eH⟩ => ?_) hs hpl
  subst ez eH
  obtain ⟨a, b, xs, ys, rfl, g1, g2, q⟩ := q1
  cases r2 with
  | cons rz rr =>
    cases rr
    obtain rfl : _ = Value.bool true := rz
    cases r1 with
    | cons r rr =>
      cases rr with
      | cons r' rr =>
        cases rr
        cases r
        cases r'
        obtain ⟨its, rv, p1, _⟩ := I2.tuple g1
        obtain ⟨its2, rv2, p2, _⟩ := I2.list g2
        obtain ⟨o1, ho1, _⟩ := id p1
        have lb : b < s2.heap.objs.size := p2.lt
        refine zs_call (xs := its.toArray) (ys := its2.toArray) p1 p2.isList fun cz => zs_self cz ?_
        have z1 : (zH1 s2.heap a).objs.size = s2.heap.objs.size + 1 := Heap.size_push ..
        have z2 : (zH2 s2.heap a b).objs.size = s2.heap.objs.size + 2 := by rw [Heap.size_push, z1]
        have z3 : (zH3 s2.heap a b).objs.size = s2.heap.objs.size + 3 := by rw [Heap.size_push, z2]
        have z4 : (zH4 s2.heap a b).objs.size = s2.heap.objs.size + 4 := by rw [Heap.size_push, z3]
        have f4 : (zH5 s2.heap a b).get? (zH3 s2.heap a b).objs.size = some _ := Heap.get?_push_of_some _ (Heap.get?_push_size _ rfl)
        have f3 : (zH5 s2.heap a b).get? (zH2 s2.heap a b).objs.size = some _ := Heap.get?_push_of_some _ (Heap.get?_push_of_some _ (Heap.get?_push_size _ rfl))
        have f2 : (zH5 s2.heap a b).get? (zH1 s2.heap a).objs.size = some _ := Heap.get?_push_of_some _ (Heap.get?_push_of_some _ (Heap.get?_push_of_some _ (Heap.get?_push_size _ rfl)))
        have f1 : (zH5 s2.heap a b).get? s2.heap.objs.size = some _ := Heap.get?_push_of_some _ (Heap.get?_push_of_some _ (Heap.get?_push_of_some _ (Heap.get?_push_of_some _ (Heap.get?_push_size _ rfl))))
        have kp : ∀ c o, s2.heap.get? c = some o → (zH5 s2.heap a b).get? c = some o := fun c o x => Heap.get?_push_of_some _ (Heap.get?_push_of_some _ (Heap.get?_push_of_some _ (Heap.get?_push_of_some _ (Heap.get?_push_of_some _ x))))
        have I3 : Inv X pins σ H2 { s2 with heap := zH5 s2.heap a b } := I2.kept (t' := s2.toks) kp
        rw [z2, z3, z4] at cz
        rw [z3] at f4
        rw [z2, z1] at f3
        rw [z1] at f2
        rw [z4]
        refine ⟨s2.heap.objs.size + 4, [s2.heap.objs.size + 4, s2.heap.objs.size + 2, s2.heap.objs.size + 3, s2.heap.objs.size, s2.heap.objs.size + 1], _, _, H2, rfl, I3, turn_zs (PySem.W.ktu_apart s2.heap.objs.size a b (Heap.lt_size ho1) lb), ⟨cz, f3, ⟨_, _, f4⟩, ⟨_, f1, rfl, rfl⟩, ⟨_, f2, rfl, rfl⟩⟩, fun c hcm => ?_, q⟩
        have le : s2.heap.objs.size ≤ c := by
          simp only [List.mem_cons, List.not_mem_nil, or_false] at hcm
          rcases hcm with rfl | rfl | rfl | rfl | rfl
          · exact Nat.le_add_right _ _
          · exact Nat.le_add_right _ _
          · exact Nat.le_add_right _ _
          · exact Nat.le_refl _
          · exact Nat.le_add_right _ _
        exact I2.fpOk le (I2.hok.fresh le)
def zipStr (a b : D) (st : Sto) : R (List D × Wat) := match a, b with
  | .tup xs, .obj n => (match seqOf st n with | some ys => if xs.length = ys.length then .ok (pairs xs ys, [(n, ys)]) st else .stuck | none => .stuck)
  | _, _ => .stuck
def zsR (ds : List D) (st : Sto) : R (List D × Wat) := match ds with
  | [a, b] => zipStr a b st
  | _ => .stuck
def iZipS (G : DA) : DIt := fun env st => (G env st).bind zsR
section
variable {g : Gd} {X : Cx} {W : WX} {α0 : List Addr} {H0 : Hp}
theorem it_zs {n : Nat} {a b : Addr} {us : List V} {xs ys : List D} (h1 : SqT g.K H0 a us) (r : RDs g α0 H0 xs us) (hb : α0[n]? = some b) (hl : xs.length = ys.length) : ItR g (ItS g.K a b) (pairs xs ys) [(n, ys)] α0 H0 where
  go := fun i α H st x s ok hi => by
    obtain ⟨o1, _⟩ := okW_one ok
    obtain ⟨_, ws, e1, _, h2, r2⟩ := s.seq (v := .ref b) ⟨b, rfl, x.at hb⟩ o1
    cases e1
    rw [pairs_len, r.length, r2.length] at hi
    exact ⟨us, ws, us[i]'(by omega), ws[i]'(by omega), x.sqt h1, h2, List.getElem?_eq_getElem _, List.getElem?_eq_getElem _⟩
  yl := fun i α H st v H' x s ok ⟨T, y, y2, e1, hT, e2, hy, hy2⟩ d hd => by
    subst e1 e2
    obtain ⟨o1, _⟩ := okW_one ok
    obtain ⟨_, ws, e1, _, h2, r2⟩ := s.seq (v := .ref b) ⟨b, rfl, x.at hb⟩ o1
    cases e1
    obtain ⟨z, z2, hz, hz2, rfl⟩ := pairs_get hd
    obtain ⟨u, q1, h3⟩ := r.get hz
    obtain ⟨u2, q2, h4⟩ := r2.get hz2
    have k1 := hy us (x.sqt h1)
    have k2 := hy2 ws h2
    rw [q1] at k1
    rw [q2] at k2
    cases k1; cases k2
    exact out_tup s hT (.cons (h3.mono x) (.cons h4 .nil))
  stop := fun i α H st x s ok hi => by
    obtain ⟨o1, _⟩ := okW_one ok
    obtain ⟨_, ws, e1, _, h2, r2⟩ := s.seq (v := .ref b) ⟨b, rfl, x.at hb⟩ o1
    cases e1
    have := r.length
    have := r2.length
    rw [pairs_len] at hi
    exact ⟨us, ws, x.sqt h1, h2, by omega, by omega⟩
theorem oi_zipS (c : Ck g X W) {e e0 : Expr} {G : DA} {p pos tpos kp vp : Pos} {j} {elts : List Expr} {kk : Nat} (h : OA g X W [e, e0] G) (hm : g.mg "zip" = none) (hg : L2.Gl X "zip" := by rfl)
    (hs : backTo pos (starEach [e, e0] X.env) = (false, eval e X.env) :: backTo pos (starEach [e0] X.env) := by rfl) (hpl : (backTo pos (starEach [e, e0] X.env)).any (·.1) = false := by rfl) :
    OI g X W (.Tuple elts kk tpos) (.Call (.Name "zip" p) [e, e0] [⟨some "strict", .Constant (.bool true) j vp, kp⟩] pos) (iZipS G) := by
  refine ⟨fun pins s σ H S I ⟨α, env, st, hE, hS, p⟩ => ?_⟩
  refine (pi_zs hg (by rw [c.hmg]; exact hm) h hs hpl).run pins s σ H S I (tA.run hE hS (p.bind.imp fun ds st1 α1 H1 x1 s1 q vs r => ?_))
  unfold zsR at q
  split at q
  · rename_i d1 d2
    obtain ⟨v1, _, rfl, r1, v2, _, rfl, r2, rfl⟩ := r
    unfold zipStr at q
    split at q
    · rename_i xs n
      split at q
      · rename_i ys e1
        split at q
        · rename_i hl
          obtain ⟨a, us, rfl, h1, k1⟩ := r1
          obtain ⟨b, ws, rfl, hb, h2, k2⟩ := s1.seq r2 e1
          rw [c.hK]
          exact ⟨a, b, us, ws, rfl, h1, h2, q α1 H1 (Ext.refl _ _) s1 _ (it_zs h1 k1 hb hl)⟩
        · exact q.elim
      · exact q.elim
    · exact q.elim
  · exact q.elim
end
end Mi

namespace Mi
open PySem PySem.Spec PyProof.Rows L2
/-! ### dicts of the store -/
def keyOf : D → Option Key
  | .int i => some (.inl i)
  | .str x => some (.inr x)
  | _ => none
def dgetL (kvs : List (Key × D)) (k : Key) : Option D := (kvs.find? fun p => decide (p.1 = k)).map (·.2)
def putL (kvs : List (Key × D)) (k : Key) (d : D) : List (Key × D) := if (kvs.any fun p => decide (p.1 = k)) = true then kvs.map (fun p => if p.1 = k then (p.1, d) else p) else kvs ++ [(k, d)]
section
variable {g : Gd} {X : Cx} {W : WX} {α : List Addr} {H : Hp} {st : Sto}
theorem keyOf_v {d : D} {v : V} {k : Key} (h : RD g α H d v) (e : keyOf d = some k) : v = kV k := by
  cases d <;> simp only [keyOf] at e <;> try cases e
  · cases h; rfl
  · cases h; rfl
theorem RKs.get {k : Key} : ∀ {kvs : List (Key × D)} {ps : List (Key × V)}, RKs g α H kvs ps → (dgetL kvs k = none ∧ valV ps k = none) ∨ ∃ d v, dgetL kvs k = some d ∧ valV ps k = some v ∧ RD g α H d v
  | [], ps, h => by cases h; exact .inl ⟨rfl, rfl⟩
  | p :: kvs, ps, h => by
    obtain ⟨v, r, rfl, h1, h2⟩ := h
    by_cases c : p.1 = k
    · exact .inr ⟨p.2, v, by simp [dgetL, c], by simp [valV, c], h1⟩
    · have := RKs.get (k := k) h2
      simpa [dgetL, valV, c] using this
theorem RKs.length : ∀ {kvs : List (Key × D)} {ps : List (Key × V)}, RKs g α H kvs ps → kvs.length = ps.length
  | [], ps, h => by cases h; rfl
  | p :: kvs, ps, h => by
    obtain ⟨v, r, rfl, h1, h2⟩ := h
    simp [RKs.length h2]
theorem StR.dic (s : StR g α st H) {n : Nat} {v : V} {kvs : List (Key × D)} (h : RD g α H (.obj n) v) (e : st[n]? = some (.dic kvs)) : ∃ a ps, v = .ref a ∧ α[n]? = some a ∧ H a = some (.dK ps) ∧ RKs g α H kvs ps := by
  obtain ⟨a, rfl, ha⟩ := h
  obtain ⟨ps, h1, h2⟩ := s.ob n a _ ha e
  exact ⟨a, ps, rfl, ha, h1, h2⟩
theorem op_din (hu : X.A.units + 1 < cLine) : OpR X (compareOp .In) (fun x y H Q => ∃ a o, y = .ref a ∧ DGet H a x o ∧ Q (.bl o.isSome) H) := fun pins s σ H x y v u Q I rx ry ⟨a, o, e, gt, q⟩ => by
  subst e
  cases ry
  exact d_in hu I gt rx fun s3 I3 => ⟨.bl o.isSome, H, I3, rfl, q⟩
theorem op_dnotin (hu : X.A.units + 1 < cLine) : OpR X (compareOp .NotIn) (fun x y H Q => ∃ a o, y = .ref a ∧ DGet H a x o ∧ Q (.bl (!o.isSome)) H) := fun pins s σ H x y v u Q I rx ry ⟨a, o, e, gt, q⟩ => by
  subst e
  cases ry
  exact d_notIn hu I gt rx fun s3 I3 => ⟨.bl (!o.isSome), H, I3, rfl, q⟩
end
def dicO (o : Option Ob) : Option (List (Key × D)) := match o with | some (.dic kvs) => some kvs | _ => none
@[simp] theorem dicO_dic {kvs : List (Key × D)} : dicO (some (.dic kvs)) = some kvs := rfl
@[simp] theorem dicO_lst {ds : List D} : dicO (some (.lst ds)) = none := rfl
@[simp] theorem dicO_none : dicO none = none := rfl
def dinD : D → D → Sto → R D
  | a, .obj n, st => (match keyOf a, dicO st[n]? with | some k, some kvs => .ok (.bl (dgetL kvs k).isSome) st | _, _ => .stuck)
  | _, _, _ => .stuck
def dnotinD : D → D → Sto → R D
  | a, .obj n, st => (match keyOf a, dicO st[n]? with | some k, some kvs => .ok (.bl (!(dgetL kvs k).isSome)) st | _, _ => .stuck)
  | _, _, _ => .stuck
def dgetD : D → D → Sto → R D
  | .obj n, a, st => (match keyOf a, dicO st[n]? with | some k, some kvs => ofO (dgetL kvs k) st | _, _ => .stuck)
  | _, _, _ => .stuck
section
variable {g : Gd} {X : Cx} {W : WX} {α : List Addr} {H : Hp} {st : Sto}
theorem dicO_some {o : Option Ob} {kvs : List (Key × D)} (h : dicO o = some kvs) : o = some (.dic kvs) := by
  unfold dicO at h
  split at h
  · cases h; rfl
  · cases h
theorem op_dinD (c : Ck g X W) : Op2 g X W (compareOp .In) dinD := by
  refine op2_of (fun ds b st => by cases b <;> rfl) (fun a ds st => rfl) ?_
  intro σ α H st a b x y Q s ra rb p
  unfold dinD at p
  split at p
  · split at p
    · rename_i k kvs e1 e2
      obtain ⟨l, ps, rfl, _, h1, r1⟩ := s.dic rb (dicO_some e2)
      have e := keyOf_v ra e1
      subst e
      refine ⟨_, op_din (by have := c.hu; omega), l, valV ps k, rfl, DGet.k h1, ?_⟩
      rcases r1.get (k := k) with ⟨q1, q2⟩ | ⟨d, v, q1, q2, _⟩
      · rw [q1] at p; rw [q2]; exact p.ok s rfl
      · rw [q1] at p; rw [q2]; exact p.ok s rfl
    · exact p.elim
  · exact p.elim
theorem op_dnotinD (c : Ck g X W) : Op2 g X W (compareOp .NotIn) dnotinD := by
  refine op2_of (fun ds b st => by cases b <;> rfl) (fun a ds st => rfl) ?_
  intro σ α H st a b x y Q s ra rb p
  unfold dnotinD at p
  split at p
  · split at p
    · rename_i k kvs e1 e2
      obtain ⟨l, ps, rfl, _, h1, r1⟩ := s.dic rb (dicO_some e2)
      have e := keyOf_v ra e1
      subst e
      refine ⟨_, op_dnotin (by have := c.hu; omega), l, valV ps k, rfl, DGet.k h1, ?_⟩
      rcases r1.get (k := k) with ⟨q1, q2⟩ | ⟨d, v, q1, q2, _⟩
      · rw [q1] at p; rw [q2]; exact p.ok s rfl
      · rw [q1] at p; rw [q2]; exact p.ok s rfl
    · exact p.elim
  · exact p.elim
theorem oe_dget (c : Ck g X W) {o i : Expr} {Fo Fi : DE} {pos : Pos} (ho : OE g X W o Fo) (hi : OE g X W i Fi) (hs : NoSl i) : OE g X W (.Subscript o i pos) (e2 dgetD Fo Fi) :=
  ofE (pe_dget (by have := c.hu; omega) ho hi hs) fun σ H Q ⟨α, env, st, hE, hS, p⟩ => by
    refine tE.run hE hS (p.bind.imp fun d1 st1 α1 H1 x1 s1 q v1 r1 => ?_)
    refine tE.run (hE.mono x1) s1 (q.bind.imp fun d2 st2 α2 H2 x2 s2 q2 v2 r2 => ?_)
    unfold dgetD at q2
    split at q2
    · split at q2
      · rename_i k kvs e1 e2
        obtain ⟨l, ps, rfl, _, h1, rr⟩ := s2.dic (r1.mono x2) (dicO_some e2)
        have e := keyOf_v r2 e1
        subst e
        rcases rr.get (k := k) with ⟨q1, _⟩ | ⟨d, v, q1, q3, rd⟩
        · rw [q1] at q2; exact q2.elim
        · rw [q1] at q2
          exact ⟨l, v, rfl, by rw [← q3]; exact DGet.k h1, Post.ok q2 s2 v rd⟩
      · exact q2.elim
    · exact q2.elim
/-- {} -/
def eDic0 : DE := fun _ st => new (.dic []) st
@[simp] theorem ap_dic0 {env : Env} {st : Sto} : eDic0 env st = .ok (.obj st.length) (st ++ [.dic []]) := rfl
theorem oe_dic0 {pos : Pos} : OE g X W (.Dict [] [] pos) eDic0 :=
  ofE pe_dnewK fun σ H Q ⟨α, env, st, hE, hS, p⟩ q hq => p (α ++ [q]) _ (ext_alloc hS hq _) (hS.alloc hq ⟨[], upd_same, rfl⟩) _ ⟨q, rfl, alloc_at hS q⟩
/-! ### a written dict: `dict(NAME)` -/
def KEs (g : Gd) : List DictEntry → List (Str × D) → Prop
  | [], kvs => kvs = []
  | e :: es, kvs => ∃ x d r, kvs = (x, d) :: r ∧ (∃ t, e.key = .str x t) ∧ e.hash = PyData.keyHash g.w.params x ∧ (∃ v, RelV v e.val ∧ ∀ α H, RD g α H d v) ∧ KEs g es r
structure KDic (g : Gd) (a : Addr) (kvs : List (Str × D)) : Prop where
  at_ : ∃ es n, g.K.lookup a = some ⟨.type "dict", none, .dict es n, #[]⟩ ∧ KEs g es.toList kvs
  lo : (a == sysModules) = false
  nd : (kvs.map (·.1)).Nodup
  sz : kvs.length ≤ 1000
theorem KEs.go : ∀ {es : List DictEntry} {kvs : List (Str × D)}, KEs g es kvs → ∃ (vs : List (Key × Value)) (ps : List (Key × V)), (∀ e ∈ es, ∃ k, (mixKind g.P g.w).is k e.key = true ∧ e.hash = (mixKind g.P g.w).hash k) ∧ Pairs (mixKind g.P g.w) es vs ∧ KV ps vs ∧ (∀ α H, RKs g α H (kvs.map fun p => (.inr p.1, p.2)) ps) ∧ vs.map (·.1) = kvs.map fun p => .inr p.1
  | [], kvs, h => by cases h; exact ⟨[], [], by simp, .nil, .nil, fun _ _ => rfl, rfl⟩
  | e :: es, kvs, h => by
    obtain ⟨x, d, r, rfl, ⟨t, ek⟩, eh, ⟨v, rv, rd⟩, h2⟩ := h
    obtain ⟨vs, ps, q1, q2, q3, q4, q5⟩ := KEs.go h2
    refine ⟨(.inr x, e.val) :: vs, (.inr x, v) :: ps, fun y hy => ?_, .cons (by rw [ek]; exact keyIs_str x t) rfl q2, .cons ⟨rfl, rv⟩ q3, fun α H => ⟨v, ps, rfl, rd α H, q4 α H⟩, by simp [q5]⟩
    rcases List.mem_cons.mp hy with rfl | hy
    · exact ⟨.inr x, by rw [ek]; exact keyIs_str x t, eh⟩
    · exact q1 y hy
def eKDic (kvs : List (Str × D)) : DE := fun _ st => new (.dic (kvs.map fun p => (.inr p.1, p.2))) st
@[simp] theorem ap_kdic {kvs : List (Str × D)} {env : Env} {st : Sto} : eKDic kvs env st = .ok (.obj st.length) (st ++ [.dic (kvs.map fun p => (.inr p.1, p.2))]) := rfl
theorem oe_kdic (c : Ck g X W) {x : Str} {a : Addr} {kvs : List (Str × D)} {p p2 pos : Pos} (hd : g.mg "dict" = none) (hv : bootBuiltins "dict" = some (.type "dict")) (hm : g.mg x = some (.ref a)) (k : KDic g a kvs) (hg : L2.Gl X "dict" := by rfl) (hg2 : L2.Gl X x := by rfl) (hdb : (x == ("__debug__" : Str)) = false := by decide)
    (he : starEach [.Name x p2] X.env = (false, eval (.Name x p2) X.env) :: starEach [] X.env := by rfl) : OE g X W (.Call (.Name "dict" p) [.Name x p2] [] pos) (eKDic kvs) := by
  obtain ⟨⟨es, n, hl, ke⟩, lo, nd, sz⟩ := k
  obtain ⟨vs, ps, q1, q2, q3, q4, q5⟩ := ke.go
  have el : vs.length = kvs.length := by have := congrArg List.length q5; simpa using this
  have nd2 : (kvs.map fun p => (Sum.inr p.1 : Key)).Nodup := by
    have z := List.Pairwise.map (S := fun (x y : Key) => x ≠ y) (fun x : Str => (Sum.inr x : Key)) (fun x y hxy z => hxy (Sum.inr.inj z)) (show List.Pairwise (· ≠ ·) (kvs.map (·.1)) from nd)
    rw [List.map_map] at z
    exact z
  have cr : CallR X (.type "dict") (fun xs H Q => xs = [.ref a] ∧ ∀ q, H q = none → Q (.ref q) (upd H q (.dK ps))) := by
    intro pins s σ H xs us Q I r ⟨ex, fin⟩
    subst ex
    obtain ⟨u, eu, rx⟩ := vals1 r
    subst eu
    cases rx
    have hz : vs.length ≤ sizeLine := by have := szL; omega
    have dd : s.heap.DictOf (mixKind X.prog X.w) a vs := ⟨_, es, n, I.kIn a _ (by rw [c.hK]; exact hl), ⟨rfl, rfl, rfl⟩, rfl, fun e he => by rw [c.hP, c.hw]; exact q1 e (Array.mem_toList_iff.mpr he), by rw [c.hP, c.hw]; exact q2, by rw [q5]; exact nd2⟩
    refine kt_call_dict lo dd hz fun h' d' hs => ?_
    have hm' : (s.heap.objs.size == sysModules) = false := beq_eq_false_iff_ne.mpr (Nat.ne_of_gt I.big)
    exact ⟨.ref s.heap.objs.size, upd H s.heap.objs.size (.dK ps), I.laid (t' := s.toks) (fun b u e => (hs.2 b (Nat.ne_of_lt (Heap.lt_size e))).trans (Heap.get?_push_of_some _ e)) (Nat.le_refl _) (show ObjOk X.prog X.w _ _ _ (.dK ps) from ⟨by rw [q3.length]; exact hz, hm', vs, q3, d'⟩), rfl, fin _ (I.hok.fresh (Nat.le_refl _))⟩
  refine ofE (pe_callTy cr hg (by rw [c.hmg]; exact hd) hv (pa_cons (pe_glob (v := .ref a) hg2 (by rw [c.hmg]; exact hm) rfl hdb) pa_nil he) (by decide) (by decide) he (by rfl)) fun σ H Q ⟨α, env, st, hE, hS, p⟩ => ?_
  exact ⟨rfl, fun q hq => p (α ++ [q]) _ (ext_alloc hS hq _) (hS.alloc hq ⟨ps, upd_same, q4 _ _⟩) _ ⟨q, rfl, alloc_at hS q⟩⟩
end
end Mi

namespace Mi
open PySem PySem.Spec PyProof.Rows L2
/-! ### raise C(e), C's own __init__ keeping e in one field -/
def spX (C : Addr) (f : Str) : Sp := fun vs H Q _ => ∃ a y, vs = [.ref a, y] ∧ H a = some (exo a C none) ∧ ∀ dx, H dx = none → dx ≠ a → Q .non (upd (upd H dx (exd dx [(f, y)])) a (exo a C (some dx)))
section
variable {g : Gd}
theorem fnX {CX : CXT} {k : Nat} {x qual : Str} {st : Stmt} {fI C : Addr} {fd : FuncData} {N : List Str} {p1 p2 f : Str} {q1 q2 q3 q4 : Pos} (T : OexC g.K C) (no : PySem.W.findIn g.K (.ref C) f = some none) (F : Fun g.K x qual st fI fd) (S : FnScope N [p1, p2] (defScope st))
    (hB : defBody st = [.Assign [.Attribute (.Name p1 q1) f q2] (.Name p2 q3) q4]) (hN : N = [p1, p2]) (v1 : Vis (defScope st) p1) (v2 : Vis (defScope st) p2) (d1 : (p1 == ("__debug__" : Str)) = false) (d2 : (p2 == ("__debug__" : Str)) = false) (c1 : (p1 == ("__classdict__" : Str)) = false) (c2 : (p2 == ("__classdict__" : Str)) = false) :
    FnOk g.P g.w g.K g.mg g.base CX (k + 1) fI fd [p1, p2] (spX C f) := by
  obtain ⟨oc, od, kV, doc, pm, an, cdv, ct, osl, rfl, lk, hcd⟩ := F.ex
  subst hN
  refine fn_of lk hcd S (fun vs H Q E ⟨a, y, e, _⟩ => by rw [e]; rfl) fun A outer s H vs Q E rm ⟨a, y, e, ha, fin⟩ => ?_
  subst e
  rw [hB]
  refine ⟨_, pss_cons (ps_ost (pe_var (i := 0) rfl v1 d1 c1) (pe_var (i := 1) rfl v2 d2 c2) rfl) pss_nil, ?_⟩
  exact ⟨y, rfl, .ref a, rfl, a, C, rfl, T, no, .inl ⟨ha, fun dx h1 h2 => fin dx h1 h2⟩⟩
end
def sRaise1 (c : Nat) (f : Str) (F : DE) : DS := fun env st => bindS (F env st) env fun d st1 => .exc c [(f, d)] env st1
@[simp] theorem ap_raise0 {c : Nat} {env : Env} {st : Sto} : sRaise0 c env st = .exc c [] env st := rfl
def gRs (c : Nat) (f : Str) (env : Env) (r : R D) : RS := bindS r env fun d st1 => .exc c [(f, d)] env st1
@[simp] theorem gRs_ok {c : Nat} {f : Str} {env : Env} {d : D} {st : Sto} : gRs c f env (.ok d st) = .exc c [(f, d)] env st := rfl
@[simp] theorem gRs_ex {c e : Nat} {f : Str} {env : Env} {fs : List (Str × D)} {st : Sto} : gRs c f env (.exc e fs st) = .exc e fs env st := rfl
@[simp] theorem gRs_st {c : Nat} {f : Str} {env : Env} : gRs c f env .stuck = .stuck := rfl
@[simp] theorem ap_raise1 {c : Nat} {f : Str} {F : DE} {env : Env} {st : Sto} : sRaise1 c f F env st = gRs c f env (F env st) := rfl
theorem passes_false {CX : CXT} {X : Cx} (h : ∀ outer H s e s', ¬ CX outer H s (fun _ _ _ => False) e s') : Passes CX X (fun _ _ _ => False) := fun pins σ H s e s' I c => (h _ _ _ _ _ c).elim
theorem cx_false {P : Program} {w : World} (outer : List PySem.Env) (H : Hp) (s : Shared) (e : Value) (s' : Shared) : ¬ L2.CX P w outer H s (fun _ _ _ => False) e s' := fun ⟨_, _, _, _, _, _, _, _, _, _, _, _, z⟩ => z
section
variable {g : Gd} {X : Cx} {W : WX} {pos : Pos}
theorem os_raise1 (c : Ck g X W) {cc k : Nat} {C fI : Addr} {f x p1 p2 : Str} {fd : FuncData} {e : Expr} {F : DE} {p p3 : Pos} (hC : g.ca cc = some C) (T : OexC g.K C) (iC : PySem.W.findIn g.K (.ref C) "__init__" = some (some (.ref fI))) (tI : PySem.W.typeIn g.K (.ref fI) = some (.type "function"))
    (F1 : FnOk g.P g.w g.K g.mg g.base (L2.CX g.P g.w) k fI fd [p1, p2] (spX C f)) (hr : Room (k + 1) X.A) (hb : Binds g.K fd [p1, p2] []) (hm : g.mg x = some (.ref C)) (h : OE g X W e F) (hg : L2.Gl X x := by rfl) (hdb : (x == ("__debug__" : Str)) = false := by decide)
    (he : starEach [e] X.env = (false, eval e X.env) :: starEach [] X.env := by rfl) (hpl : (backTo p3 (starEach [] X.env)).any (·.1) = false := by rfl) : OS g X W (.Raise (some (.Call (.Name x p) [e] [] p3)) none pos) (sRaise1 cc f F) := by
  have F2 : FnOk X.prog X.w X.K X.mg X.base (L2.CX X.prog X.w) k fI fd [p1, p2] (spX C f) := by rw [c.hP, c.hw, c.hK, c.hmg, c.hb]; exact F1
  refine ofS (ps_raise c.calm c.tk (pmk_oex (by rw [c.hK]; exact T) (by rw [c.hK]; exact iC) (by rw [c.hK]; exact tI) F2 hr (by rw [c.hK]; exact hb) (dvs := []) .nil (passes_false cx_false) hg (by rw [c.hmg]; exact hm) (pa_cons h pa_nil he) hdb he hpl)) fun E σ H ⟨α, env, st, hE, hS, q⟩ => ?_
  refine tE.run hE hS ((q.bind hE).imp fun d st1 α1 H1 x1 s1 q1 v r => ?_)
  refine ⟨by simp, fun a ha => ⟨a, v, rfl, upd_same, fun dx h1 h2 => ⟨rfl, dx, [(f, v)], upd_same, ?_, ?_, ?_⟩⟩⟩
  · rw [upd_ne h2, upd_same]
  · rw [upd_ne h2] at h1; exact h1
  · have h3 : H1 dx = none := by rw [upd_ne h2] at h1; exact h1
    have eq : upd (del (upd (upd (upd H1 a (exo a C none)) dx (exd dx [(f, v)])) a (exo a C (some dx))) a) dx (.xd [(f, v)]) = upd H1 dx (.xd [(f, v)]) := by
      funext b
      by_cases hb1 : b = dx
      · rw [hb1, upd_same, upd_same]
      · rw [upd_ne hb1, upd_ne hb1]
        by_cases hb2 : b = a
        · rw [hb2, del_same, ha]
        · rw [del_ne hb2, upd_ne hb2, upd_ne hb1, upd_ne hb2]
    rw [eq]
    have ex := ext_new s1 h3 (.xd [(f, v)])
    exact q1 α1 _ (.ref C) (some dx) σ ex (s1.temp h3 _) ((hE.mono x1).mono ex) ⟨C, hC, rfl, .inr ⟨dx, [(f, v)], rfl, upd_same, ⟨v, [], rfl, r.mono ex, rfl⟩⟩⟩
end
end Mi

namespace Mi
open PySem PySem.Spec PyProof.Rows L2
/-! ### written values -/
def KVd (g : Gd) (u : Value) (d : D) : Prop := ∃ v, RelV v u ∧ ∀ α H, RD g α H d v
def KVds (g : Gd) : List Value → List D → Prop
  | [], ds => ds = []
  | u :: us, ds => ∃ d r, ds = d :: r ∧ KVd g u d ∧ KVds g us r
section
variable {g : Gd} {X : Cx} {W : WX}
theorem kvd_non : KVd g .none .non := ⟨.non, rfl, fun _ _ => rfl⟩
theorem kvd_bl {b : Bool} : KVd g (.bool b) (.bl b) := ⟨.bl b, rfl, fun _ _ => rfl⟩
theorem kvd_int {i : Int} {t : Tok} : KVd g (.int i t) (.int i) := ⟨.int i, ⟨t, rfl⟩, fun _ _ => rfl⟩
theorem kvd_str {x : Str} {t : Tok} : KVd g (.str x t) (.str x) := ⟨.str x, ⟨t, rfl⟩, fun _ _ => rfl⟩
theorem kvd_fn {j : Nat} {a : Addr} (h : g.fa j = some a) : KVd g (.ref a) (.fn j) := ⟨.ref a, rfl, fun _ _ => ⟨a, rfl, h⟩⟩
theorem KVds.nil : KVds g [] [] := rfl
theorem KVds.cons {u : Value} {d : D} {us : List Value} {ds : List D} (h : KVd g u d) (k : KVds g us ds) : KVds g (u :: us) (d :: ds) := ⟨d, ds, rfl, h, k⟩
theorem KVds.go : ∀ {us : List Value} {ds : List D}, KVds g us ds → ∃ vs, Vals vs us ∧ ∀ α H, RDs g α H ds vs
  | [], ds, h => by cases h; exact ⟨[], .nil, fun _ _ => rfl⟩
  | u :: us, ds, h => by
    obtain ⟨d, r, rfl, ⟨v, rv, rd⟩, k⟩ := h
    obtain ⟨vs, q1, q2⟩ := KVds.go k
    exact ⟨v :: vs, .cons rv q1, fun α H => ⟨v, vs, rfl, rd α H, q2 α H⟩⟩
theorem kvd_tup {a : Addr} {od : Option Addr} {us : Array Value} {n : Nat} {sl : Array (Option Value)} {ds : List D} (h : g.K.lookup a = some ⟨.type "tuple", od, .seq us n, sl⟩) (hz : us.size ≤ 1000) (k : KVds g us.toList ds) : KVd g (.ref a) (.tup ds) := by
  obtain ⟨vs, q1, q2⟩ := k.go
  exact ⟨.ref a, rfl, fun α H => ⟨a, vs, rfl, .inr ⟨_, us, n, h, rfl, rfl, by have := szL; omega, q1⟩, q2 α H⟩⟩
theorem oe_globK (c : Ck g X W) {x : Str} {d : D} {pos : Pos} (h : ∃ u, g.mg x = some u ∧ KVd g u d) (hg : L2.Gl X x := by rfl) (hd : (x == ("__debug__" : Str)) = false := by decide) : OE g X W (.Name x pos) (eC d) := by
  obtain ⟨u, hm, v, rv, rd⟩ := h
  exact oe_glob c hm rv rd hg hd
theorem nosl {i : Expr} (h : NoSl i := by first | exact rfl | (intro; rfl) | (intros; rfl)) : NoSl i := h
end
end Mi

namespace Mi
open PySem PySem.Spec PyProof.Rows L2
/-! ### x.bit_length() -/
def bitsD : D → Sto → R D
  | .int i, st => .ok (.int (Builtin.Int.intBits i : Nat)) st
  | _, _ => .stuck
section
variable {g : Gd} {X : Cx} {W : WX} {α : List Addr} {H : Hp} {st : Sto}
theorem oe_bits {o : Expr} {Fo : DE} {apos pos : Pos} (ho : OE g X W o Fo) (hbase : attributeBase o "bit_length" X.env (eval o X.env) = eval o X.env := by rfl) (hline : (apos.endLine == pos.line) = true := by rfl) : OE g X W (.Call (.Attribute o "bit_length" apos) [] [] pos) (e1 bitsD Fo) :=
  ofE (pe_bits ho hbase hline) fun σ H Q ⟨α, env, st, hE, hS, p⟩ => by
    refine tE.run hE hS (p.bind.imp fun d1 st1 α1 H1 x1 s1 q v1 r1 => ?_)
    unfold bitsD at q
    split at q
    · cases r1
      exact ⟨_, rfl, Post.ok q s1 _ rfl⟩
    · exact q.elim
end
/-! ### d.get(k, x), d.update(e) -/
def dget2M : D → List D → Sto → R D
  | .obj n, [a, x], st => (match keyOf a, dicO st[n]? with | some k, some kvs => .ok ((dgetL kvs k).getD x) st | _, _ => .stuck)
  | _, _, _ => .stuck
def dget1M : D → List D → Sto → R D
  | .obj n, [a], st => (match keyOf a, dicO st[n]? with | some k, some kvs => .ok ((dgetL kvs k).getD .non) st | _, _ => .stuck)
  | _, _, _ => .stuck
def mergeL (kvs more : List (Key × D)) : List (Key × D) := more.foldl (fun acc p => putL acc p.1 p.2) kvs
def updateM : D → List D → Sto → R D
  | .obj n, [.obj m], st => (match dicO st[n]?, dicO st[m]? with | some kvs, some more => if n ≠ m ∧ kvs.length + more.length ≤ 1000 then .ok .non (st.set n (.dic (mergeL kvs more))) else .stuck | _, _ => .stuck)
  | _, _, _ => .stuck
section
variable {g : Gd} {X : Cx} {W : WX} {α : List Addr} {H : Hp} {st : Sto}
theorem mtr_get2 (hu : X.A.units + 1 < cLine) : MtR X "dict.get" (fun x xs H Q => ∃ a y z o, x = .ref a ∧ xs = [y, z] ∧ DGet H a y o ∧ Q (o.getD z) H) := fun pins s σ H x xs v us Q I rx rs ⟨a, y, z, o, e1, e2, gt, q⟩ => by
  subst e1 e2
  cases rx
  obtain ⟨u1, u2, rfl, r1, r2⟩ := rs.two
  exact d_get2 hu I gt r1 r2 fun w' s' I' r' => ⟨_, H, I', r', q⟩
theorem mtr_get1 (hu : X.A.units + 1 < cLine) : MtR X "dict.get" (fun x xs H Q => ∃ a y o, x = .ref a ∧ xs = [y] ∧ DGet H a y o ∧ Q (o.getD .non) H) := fun pins s σ H x xs v us Q I rx rs ⟨a, y, o, e1, e2, gt, q⟩ => by
  subst e1 e2
  cases rx
  obtain ⟨u1, rfl, r1⟩ := vals1 rs
  exact d_get1 hu I gt r1 fun w' s' I' r' => ⟨_, H, I', r', q⟩
theorem mt_dget2D (c : Ck g X W) : Mt g X W "dict.get" dget2M := by
  intro σ α H st a x ds vs Q s ra rs p
  unfold dget2M at p
  split at p
  · split at p
    · rename_i k kvs e1 e2
      obtain ⟨l, ps, rfl, _, h1, r1⟩ := s.dic ra (dicO_some e2)
      obtain ⟨v1, v2, rfl, rv1, rv2⟩ := rs.two'
      have e := keyOf_v rv1 e1
      subst e
      refine ⟨_, mtr_get2 (by have := c.hu; omega), l, kV k, v2, valV ps k, rfl, rfl, DGet.k h1, ?_⟩
      rcases r1.get (k := k) with ⟨q1, q2⟩ | ⟨d, v, q1, q2, rd⟩
      · rw [q1] at p; rw [q2]; exact PD.ok p s rv2
      · rw [q1] at p; rw [q2]; exact PD.ok p s rd
    · exact p.elim
  · exact p.elim
theorem mt_dget1D (c : Ck g X W) : Mt g X W "dict.get" dget1M := by
  intro σ α H st a x ds vs Q s ra rs p
  unfold dget1M at p
  split at p
  · split at p
    · rename_i k kvs e1 e2
      obtain ⟨l, ps, rfl, _, h1, r1⟩ := s.dic ra (dicO_some e2)
      obtain ⟨v1, rfl, rv1⟩ := rs.one
      have e := keyOf_v rv1 e1
      subst e
      refine ⟨_, mtr_get1 (by have := c.hu; omega), l, kV k, valV ps k, rfl, rfl, DGet.k h1, ?_⟩
      rcases r1.get (k := k) with ⟨q1, q2⟩ | ⟨d, v, q1, q2, rd⟩
      · rw [q1] at p; rw [q2]; exact PD.ok p s rfl
      · rw [q1] at p; rw [q2]; exact PD.ok p s rd
    · exact p.elim
  · exact p.elim
theorem RKs.any {k : Key} : ∀ {kvs : List (Key × D)} {ps : List (Key × V)}, RKs g α H kvs ps → (kvs.any fun p => decide (p.1 = k)) = (ps.any fun p => decide (p.1 = k))
  | [], ps, h => by cases h; rfl
  | p :: kvs, ps, h => by
    obtain ⟨v, r, rfl, h1, h2⟩ := h
    simp [RKs.any h2]
theorem RKs.repl {k : Key} {d : D} {v : V} (rd : RD g α H d v) : ∀ {kvs : List (Key × D)} {ps : List (Key × V)}, RKs g α H kvs ps → RKs g α H (kvs.map fun p => if p.1 = k then (p.1, d) else p) (ps.map fun p => if p.1 = k then (p.1, v) else p)
  | [], ps, h => by cases h; rfl
  | p :: kvs, ps, h => by
    obtain ⟨u, r, rfl, h1, h2⟩ := h
    by_cases c : p.1 = k
    · exact ⟨v, _, by simp [c], by simpa [c] using rd, RKs.repl rd h2⟩
    · exact ⟨u, _, by simp [c], by simpa [c] using h1, RKs.repl rd h2⟩
theorem RKs.snoc {k : Key} {d : D} {v : V} (rd : RD g α H d v) : ∀ {kvs : List (Key × D)} {ps : List (Key × V)}, RKs g α H kvs ps → RKs g α H (kvs ++ [(k, d)]) (ps ++ [(k, v)])
  | [], ps, h => by cases h; exact ⟨v, [], rfl, rd, rfl⟩
  | p :: kvs, ps, h => by
    obtain ⟨u, r, rfl, h1, h2⟩ := h
    exact ⟨u, _, rfl, h1, RKs.snoc rd h2⟩
theorem RKs.put {k : Key} {d : D} {v : V} {kvs : List (Key × D)} {ps : List (Key × V)} (h : RKs g α H kvs ps) (rd : RD g α H d v) : RKs g α H (putL kvs k d) (putK ps k v) := by
  unfold putL putK
  rw [h.any]
  split
  · exact h.repl rd
  · exact h.snoc rd
theorem RKs.merge : ∀ {more : List (Key × D)} {qs : List (Key × V)} {kvs : List (Key × D)} {ps : List (Key × V)}, RKs g α H more qs → RKs g α H kvs ps → RKs g α H (mergeL kvs more) (mergeK ps qs)
  | [], qs, kvs, ps, h, k => by cases h; exact k
  | p :: more, qs, kvs, ps, h, k => by
    obtain ⟨u, r, rfl, h1, h2⟩ := h
    show RKs g α H (mergeL (putL kvs p.1 p.2) more) (mergeK (putK ps p.1 u) r)
    exact RKs.merge h2 (k.put h1)
theorem mtr_update : MtR X "dict.update" (fun x xs H Q => ∃ a b kvs more, x = .ref a ∧ xs = [.ref b] ∧ a ≠ b ∧ H a = some (.dK kvs) ∧ H b = some (.dK more) ∧ kvs.length + more.length ≤ sizeLine ∧ Q .non (upd H a (.dK (mergeK kvs more)))) := fun pins s σ H x xs v us Q I rx rs ⟨a, b, kvs, more, e1, e2, ne, ha, hb, hz, q⟩ => by
  subst e1 e2
  cases rx
  obtain ⟨u1, rfl, r1⟩ := vals1 rs
  cases r1
  obtain ⟨z1, hd1, vs1, rel1, dd1⟩ := dk_of I.hok ha
  obtain ⟨z2, hd2, vs2, rel2, dd2⟩ := dk_of I.hok hb
  refine call_meetsIn PySem.F.slot_dict_update dd1.typeIs PySem.F.entry_dict_update (PySem.F.args_dict_update_2 _ _) (meets_dict_update (mixKind X.prog X.w) a b ne hd2) ⟨vs1, vs2, dd1, dd2, by rw [← rel1.length, ← rel2.length]; exact hz, fun h' d1 d2 sb => ⟨.non, _, ?_, rfl, q⟩⟩
  have hl : (mergeK kvs more).length ≤ sizeLine := Nat.le_trans (length_mergeK more kvs) hz
  exact d_write I (by rw [ha]; exact True.intro) sb (let ⟨q, _, _, hq, _⟩ := d1; ⟨q, hq⟩) (dk_new hl hd1 (rel2.merge rel1) d1)
theorem mt_updateD : Mt g X W "dict.update" updateM := by
  intro σ α H st a x ds vs Q s ra rs p
  unfold updateM at p
  split at p
  · split at p
    · rename_i n m _ _ kvs more e1 e2
      split at p
      · rename_i hh
        obtain ⟨l1, ps, rfl, a1, h1, r1⟩ := s.dic ra (dicO_some e1)
        obtain ⟨v1, rfl, rv1⟩ := rs.one
        obtain ⟨l2, qs, rfl, a2, h2, r2⟩ := s.dic rv1 (dicO_some e2)
        have ne : l1 ≠ l2 := fun z => hh.1 (by
          subst z
          obtain ⟨q1, f1⟩ := List.getElem?_eq_some_iff.mp a1
          obtain ⟨q2, f2⟩ := List.getElem?_eq_some_iff.mp a2
          exact (List.getElem_inj s.nd).mp (f1.trans f2.symm))
        have ex : Ext α H α (upd H l1 (.dK (mergeK ps qs))) := ext_write s a1 ⟨_, h1, fun _ z => (nomatch z), fun _ _ z => (nomatch z)⟩
        refine ⟨_, mtr_update, l1, l2, ps, qs, rfl, rfl, ne, h1, h2, by have := r1.length; have := r2.length; have := szL; omega, ?_⟩
        exact p α _ ex (s.write a1 ex ⟨_, upd_same, (r2.merge r1).mono ex⟩) _ rfl
      · exact p.elim
    · exact p.elim
  · exact p.elim
end
/-! ### {k: e, ..}, the keys written -/
def evals : List (Key × DE) → DA
  | [] => aNil
  | p :: r => aCons p.2 (evals r)
def dispR (n : Nat) (ks : List Key) (ds : List D) (st : Sto) : R D := match dicO st[n]? with
  | some [] => .ok (.obj n) (st.set n (.dic (mergeL [] (ks.zip ds))))
  | _ => .stuck
def eDisp (l : List (Key × DE)) : DE := fun env st => (evals l env (st ++ [.dic []])).bind fun ds st1 => dispR st.length (l.map (·.1)) ds st1
section
variable {g : Gd} {X : Cx} {W : WX} {α : List Addr} {H : Hp} {st : Sto}
theorem pairs_run : ∀ (l : List (Key × DE)) (env : Env) (st : Sto) (α : List Addr) (H : Hp) (σ : L2.St) (Q : List (V × V) → Hp → Prop), EnvR g α H env σ → StR g α st H →
    Post g W σ α H (evals l env st) (fun ds st' α' H' => ∀ vs, RDs g α' H' ds vs → Q ((l.map fun p => kV p.1).zip vs) H') → tPairs (l.map fun p => (tC (kV p.1), tE g W p.2)) σ H Q
  | [], env, st, α, H, σ, Q, hE, hS, p => p.ok hS [] rfl
  | q :: l, env, st, α, H, σ, Q, hE, hS, p => by
    show tE g W q.2 σ H _
    refine tE.run hE hS ((show Post g W σ α H ((q.2 env st).bind fun d st1 => (evals l env st1).bind fun ds st2 => .ok (d :: ds) st2) _ from p).bind.imp fun d st1 α1 H1 x1 s1 p1 v r => ?_)
    refine pairs_run l env st1 α1 H1 σ _ (hE.mono x1) s1 (p1.bind.imp fun ds st2 α2 H2 x2 s2 p2 vs rs => ?_)
    exact p2.ok s2 (v :: vs) ⟨v, vs, rfl, r.mono x2, rs⟩
theorem evals_len : ∀ (l : List (Key × DE)) (env : Env) (st : Sto) (ds : List D) (st1 : Sto), evals l env st = .ok ds st1 → ds.length = l.length
  | [], env, st, ds, st1, h => by cases h; rfl
  | q :: l, env, st, ds, st1, h => by
    have := aCons_len (F := q.2) (G := evals l) (n := l.length) (fun env st ds st1 e => evals_len l env st ds st1 e) env st ds st1 h
    simpa using this
theorem zip_kv {ks : List Key} : ∀ {ds : List D} {vs : List V}, RDs g α H ds vs → ds.length = ks.length → RKs g α H (ks.zip ds) (ks.zip vs) := by
  induction ks with
  | nil => intro ds vs h hl; simp; rfl
  | cons k ks ih =>
    intro ds vs h hl
    cases ds with
    | nil => cases hl
    | cons d ds =>
      obtain ⟨v, r, rfl, h1, h2⟩ := h
      exact ⟨v, _, rfl, h1, ih h2 (by simpa using hl)⟩
theorem zip_two : ∀ (l : List (Key × DE)) (vs : List V), (l.map fun p => kV p.1).zip vs = ((l.map (·.1)).zip vs).map fun kv => (kV kv.1, kv.2)
  | [], vs => by simp
  | p :: l, [] => by simp
  | p :: l, v :: vs => by simp [zip_two l vs]
theorem oe_disp {pos : Pos} {keys : List (Option Expr)} {values : List Expr} (l : List (Key × DE)) (h : PPs X pos keys values (l.map fun p => (tC (kV p.1), tE g W p.2))) (hl : l.length = keys.length := by rfl) (hall : keys.all (·.isSome) = true := by rfl) (hv : keys.length = values.length := by rfl) (h0 : keys ≠ [] := by simp) (h15 : keys.length ≤ 15 := by decide) : OE g X W (.Dict keys values pos) (eDisp l) :=
  ofE (pe_disp h hall hv h0 h15) fun σ H Q ⟨α, env, st, hE, hS, p⟩ q hq => by
    have ex0 := ext_alloc hS hq (.dK [])
    have s0 : StR g (α ++ [q]) (st ++ [.dic []]) (upd H q (.dK [])) := hS.alloc hq ⟨[], upd_same, rfl⟩
    have p' : Post g W σ (α ++ [q]) (upd H q (.dK [])) (eDisp l env st) (fun d _ α' H' => ∀ v, RD g α' H' d v → Q v H') := Post.mono ex0 p
    have pb := p'.bind
    cases hG : evals l env (st ++ [.dic []]) with
    | stuck => rw [hG] at pb; exact pb.elim
    | exc cc fs st1 =>
      refine pairs_run l env _ _ _ σ _ (hE.mono ex0) s0 ?_
      rw [hG] at pb ⊢
      exact pb
    | ok ds st1 =>
      refine pairs_run l env _ _ _ σ _ (hE.mono ex0) s0 ?_
      rw [hG] at pb ⊢
      intro α1 H1 x1 s1 vs rs
      have el := evals_len l _ _ _ _ hG
      have p2 : Post g W σ α1 H1 (dispR st.length (l.map (·.1)) ds st1) (fun d _ α' H' => ∀ v, RD g α' H' d v → Q v H') := pb α1 H1 x1 s1
      have aq : (α ++ [q])[st.length]? = some q := alloc_at hS q
      have aq1 := x1.at aq
      unfold dispR at p2
      split at p2
      · rename_i e1
        obtain ⟨a, ps, e2, a2, h2, r2⟩ := s1.dic (v := .ref q) ⟨q, rfl, aq1⟩ (dicO_some e1)
        cases e2
        cases r2
        have zk : RKs g α1 H1 ((l.map (·.1)).zip ds) ((l.map (·.1)).zip vs) := zip_kv rs (by rw [List.length_map, el])
        have ll : ((l.map (·.1)).zip vs).length ≤ 15 := by rw [List.length_zip, List.length_map]; omega
        refine ⟨h2, (l.map (·.1)).zip vs, ?_, ll, ?_⟩
        · exact zip_two l vs
        · have ex : Ext α1 H1 α1 (upd H1 q (.dK (mergeK [] ((l.map (·.1)).zip vs)))) := ext_write s1 aq1 ⟨_, h2, fun _ z => (nomatch z), fun _ _ z => (nomatch z)⟩
          exact p2 α1 _ ex (s1.write aq1 ex ⟨_, upd_same, (zk.merge (kvs := []) (ps := []) rfl).mono ex⟩) _ ⟨q, rfl, aq1⟩
      · exact p2.elim
end
/-- a, b, c = x, y, z -/
def sPar3 (i j l : Nat) (G : DA) : DS := fun env st => bindS (G env st) env fun ds st1 => match ds with | [a, b, e] => .nx (((env.set i (some a)).set j (some b)).set l (some e)) st1 | _ => .stuck
section
variable {g : Gd} {X : Cx} {W : WX} {pos : Pos}
theorem os_par3 (c : Ck g X W) {i j l : Nat} {x y z : Str} {a b e : Expr} {G : DA} {px py pz pt : Pos} {kt k2 pt2} (ha : OA g X W [a, b, e] G) (hij : i ≠ j) (hil : i ≠ l) (hjl : j ≠ l)
    (hw : swappedStores [.Tuple [.Name x px, .Name y py, .Name z pz] kt pt] (.Tuple [a, b, e] k2 pt2) X.env = pure (some [x, y, z])) (hi : X.N[i]? = some x := by rfl) (hj : X.N[j]? = some y := by rfl) (hl : X.N[l]? = some z := by rfl)
    (hx : X.env.scope.names.lookup x = some .local := by rfl) (hy : X.env.scope.names.lookup y = some .local := by rfl) (hz : X.env.scope.names.lookup z = some .local := by rfl)
    (hs : swapsWithSole [.Tuple [.Name x px, .Name y py, .Name z pz] kt pt] (.Tuple [a, b, e] k2 pt2) pos.line X.env = pure false := by rfl) : OS g X W (.Assign [.Tuple [.Name x px, .Name y py, .Name z pz] kt pt] (.Tuple [a, b, e] k2 pt2) pos) (sPar3 i j l G) :=
  ofS (ps_par3 c.calm c.nd hi hj hl hij hil hjl hx hy hz ha hw hs) fun E σ H ⟨α, env, st, hE, hS, p⟩ => by
    refine tA.run hE hS ((p.bind hE).imp fun ds st1 α1 H1 x1 s1 q vs r => ?_)
    split at q
    · obtain ⟨v, _, rfl, r1, w, _, rfl, r2, u, _, rfl, r3, rfl⟩ := r
      exact ⟨v, w, u, rfl, q α1 H1 _ (Ext.refl _ _) s1 ((((hE.mono x1).set i r1).set j r2).set l r3)⟩
    · exact q.elim
end
def gPar3 (i j l : Nat) (env : Env) (r : R (List D)) : RS := bindS r env fun ds st1 => match ds with | [a, b, e] => .nx (((env.set i (some a)).set j (some b)).set l (some e)) st1 | _ => .stuck
@[simp] theorem ap_par3 {i j l : Nat} {G : DA} {env : Env} {st : Sto} : sPar3 i j l G env st = gPar3 i j l env (G env st) := rfl
@[simp] theorem gPar3_ok {i j l : Nat} {env : Env} {a b e : D} {st : Sto} : gPar3 i j l env (.ok [a, b, e] st) = .nx (((env.set i (some a)).set j (some b)).set l (some e)) st := rfl
/-! ### for simp -/
@[simp] theorem evals_nil : evals [] = aNil := rfl
@[simp] theorem evals_cons {p : Key × DE} {r : List (Key × DE)} : evals (p :: r) = aCons p.2 (evals r) := rfl
def fDsp (n : Nat) (ks : List Key) (r : R (List D)) : R D := r.bind fun ds st1 => dispR n ks ds st1
def dspO (o : Option (List (Key × D))) (n : Nat) (ks : List Key) (ds : List D) (st : Sto) : R D := match o with
  | some [] => .ok (.obj n) (st.set n (.dic (mergeL [] (ks.zip ds))))
  | _ => .stuck
@[simp] theorem ap_disp {l : List (Key × DE)} {env : Env} {st : Sto} : eDisp l env st = fDsp st.length (l.map (·.1)) (evals l env (st ++ [.dic []])) := rfl
@[simp] theorem fDsp_ok {n : Nat} {ks : List Key} {ds : List D} {st : Sto} : fDsp n ks (.ok ds st) = dspO (dicO st[n]?) n ks ds st := rfl
@[simp] theorem dspO_nil {n : Nat} {ks : List Key} {ds : List D} {st : Sto} : dspO (some []) n ks ds st = .ok (.obj n) (st.set n (.dic (mergeL [] (ks.zip ds)))) := rfl
@[simp] theorem at_add {st t : Sto} {k : Nat} : (st ++ t)[st.length + k]? = t[k]? := by
  rw [List.getElem?_append_right (by omega)]
  congr 1
  omega
@[simp] theorem at_add0 {st t : Sto} : (st ++ t)[st.length]? = t[0]? := at_add (k := 0)
@[simp] theorem set_add {st t : Sto} {k : Nat} {o : Ob} : (st ++ t).set (st.length + k) o = st ++ t.set k o := by
  rw [List.set_append_right _ _ (by omega)]
  congr 2
  omega
@[simp] theorem set_add0 {st t : Sto} {o : Ob} : (st ++ t).set st.length o = st ++ t.set 0 o := set_add (k := 0)
def getO (o : Option (List (Key × D))) (a x : D) (st : Sto) : R D := match keyOf a, o with | some k, some kvs => .ok ((dgetL kvs k).getD x) st | _, _ => .stuck
@[simp] theorem get2_at {n : Nat} {a x : D} {st : Sto} : dget2M (.obj n) [a, x] st = getO (dicO st[n]?) a x st := rfl
@[simp] theorem get1_at {n : Nat} {a : D} {st : Sto} : dget1M (.obj n) [a] st = getO (dicO st[n]?) a .non st := rfl
@[simp] theorem getO_str {kvs : List (Key × D)} {z : Str} {x : D} {st : Sto} : getO (some kvs) (.str z) x st = .ok ((dgetL kvs (.inr z)).getD x) st := rfl
def ixO (o : Option (List (Key × D))) (a : D) (st : Sto) : R D := match keyOf a, o with | some k, some kvs => ofO (dgetL kvs k) st | _, _ => .stuck
@[simp] theorem dget_at {n : Nat} {a : D} {st : Sto} : dgetD (.obj n) a st = ixO (dicO st[n]?) a st := rfl
@[simp] theorem ixO_str {kvs : List (Key × D)} {z : Str} {st : Sto} : ixO (some kvs) (.str z) st = ofO (dgetL kvs (.inr z)) st := rfl
def hasO (b : Bool) (o : Option (List (Key × D))) (a : D) (st : Sto) : R D := match keyOf a, o with | some k, some kvs => .ok (.bl (if b then (dgetL kvs k).isSome else !(dgetL kvs k).isSome)) st | _, _ => .stuck
@[simp] theorem din_at {n : Nat} {a : D} {st : Sto} : dinD a (.obj n) st = hasO true (dicO st[n]?) a st := rfl
@[simp] theorem dnotin_at {n : Nat} {a : D} {st : Sto} : dnotinD a (.obj n) st = hasO false (dicO st[n]?) a st := rfl
@[simp] theorem hasO_str {b : Bool} {kvs : List (Key × D)} {z : Str} {st : Sto} : hasO b (some kvs) (.str z) st = .ok (.bl (if b then (dgetL kvs (.inr z)).isSome else !(dgetL kvs (.inr z)).isSome)) st := rfl
def updO (o p : Option (List (Key × D))) (n m : Nat) (st : Sto) : R D := match o, p with | some kvs, some more => if n ≠ m ∧ kvs.length + more.length ≤ 1000 then .ok .non (st.set n (.dic (mergeL kvs more))) else .stuck | _, _ => .stuck
@[simp] theorem upd_at {n m : Nat} {st : Sto} : updateM (.obj n) [.obj m] st = updO (dicO st[n]?) (dicO st[m]?) n m st := rfl
@[simp] theorem updO_some {kvs more : List (Key × D)} {n m : Nat} {st : Sto} : updO (some kvs) (some more) n m st = if n ≠ m ∧ kvs.length + more.length ≤ 1000 then .ok .non (st.set n (.dic (mergeL kvs more))) else .stuck := rfl
@[simp] theorem has_dic {n : Nat} {st : Sto} : hasT "dict" (.obj n) st = (dicO st[n]?).isSome := by
  unfold hasT dicO
  split <;> simp_all
  split <;> simp_all
def starO (is : List Nat) (env : Env) (d : D) (st : Sto) : RS := match d with
  | .tup ds => if is.length ≤ ds.length + 1 ∧ is ≠ [] then .nx (setAll env is (ds.take (is.length - 1) ++ [.obj st.length])) (st ++ [.lst (ds.drop (is.length - 1))]) else .stuck
  | _ => .stuck
def gStr (is : List Nat) (env : Env) (r : R D) : RS := bindS r env fun d st1 => starO is env d st1
@[simp] theorem ap_star {is : List Nat} {F : DE} {env : Env} {st : Sto} : sStar is F env st = gStr is env (F env st) := rfl
@[simp] theorem gStr_ok {is : List Nat} {env : Env} {ds : List D} {st : Sto} : gStr is env (.ok (.tup ds) st) = if is.length ≤ ds.length + 1 ∧ is ≠ [] then .nx (setAll env is (ds.take (is.length - 1) ++ [.obj st.length])) (st ++ [.lst (ds.drop (is.length - 1))]) else .stuck := rfl
@[simp] theorem gStr_ex {is : List Nat} {env : Env} {c : Nat} {fs : List (Str × D)} {st : Sto} : gStr is env (.exc c fs st) = .exc c fs env st := rfl
def fZs (r : R (List D)) : R (List D × Wat) := r.bind fun ds st => zsR ds st
@[simp] theorem ap_zipS {G : DA} {env : Env} {st : Sto} : iZipS G env st = fZs (G env st) := rfl
def zsO (xs : List D) (n : Nat) (o : Option (List D)) (st : Sto) : R (List D × Wat) := match o with | some ys => if xs.length = ys.length then .ok (pairs xs ys, [(n, ys)]) st else .stuck | none => .stuck
@[simp] theorem fZs_ok {xs : List D} {n : Nat} {st : Sto} : fZs (.ok [.tup xs, .obj n] st) = zsO xs n (seqOf st n) st := rfl
@[simp] theorem zsO_some {xs ys : List D} {n : Nat} {st : Sto} : zsO xs n (some ys) st = if xs.length = ys.length then .ok (pairs xs ys, [(n, ys)]) st else .stuck := rfl
@[simp] theorem bits_int {i : Int} {st : Sto} : bitsD (.int i) st = .ok (.int (Builtin.Int.intBits i : Nat)) st := rfl
end Mi

namespace Mi
open PySem PySem.Spec PyProof.Rows L2
/-! ### comprehensions with two fors: the new list lies at place n of the store while it grows -/
def c2In (n : Nat) (w : Wat) (t : Tg) (C : DT) (F : DE) (env : Env) : List D → Sto → R Unit
  | [], st => if okW w st = true then .ok () st else .stuck
  | d :: ds, st => if okW w st = true then (match bindT t d env with
    | some env1 => (noX (C env1 st)).bind fun b st1 => if b = true then (noX (F env1 st1)).bind fun y st2 => (match st2[n]? with | some (.lst acc) => if acc.length < sizeLine then c2In n w t C F env ds (st2.set n (.lst (acc ++ [y]))) else .stuck | _ => .stuck) else c2In n w t C F env ds st1
    | none => .stuck) else .stuck
def c2Out (n : Nat) (w : Wat) (t : Tg) (C : DT) (vs1 : List Nat) (t1 : Tg) (I1 : DIt) (C1 : DT) (F : DE) (env : Env) : List D → Sto → R Unit
  | [], st => if okW w st = true then .ok () st else .stuck
  | d :: ds, st => if okW w st = true then (match bindT t d env with
    | some env1 => (noX (C env1 st)).bind fun b st1 => if b = true then (noX (I1 env1 st1)).bind fun p st2 => (c2In n p.2 t1 C1 F (wipeE env1 vs1) p.1 st2).bind fun _ st3 => c2Out n w t C vs1 t1 I1 C1 F env ds st3 else c2Out n w t C vs1 t1 I1 C1 F env ds st1
    | none => .stuck) else .stuck
def eComp2 (vs : List Nat) (t : Tg) (I : DIt) (C : DT) (vs1 : List Nat) (t1 : Tg) (I1 : DIt) (C1 : DT) (F : DE) : DE := fun env st => (I env st).bind fun p st1 => (c2Out st1.length p.2 t C vs1 t1 I1 C1 F (wipeE env vs) p.1 (st1 ++ [.lst []])).bind fun _ st2 => .ok (.obj st1.length) st2
section
variable {g : Gd} {X : Cx} {W : WX}
theorem lc2_step (hK : X.K = g.K) {t t1 : Tg} {I I1 : DIt} {C C1 : DT} {F : DE} {vs vs1 : List Nat} (hsl : ∀ i ∈ t.slots, i ∈ vs) (hsl1 : ∀ i ∈ t1.slots, i ∈ vs1) :
    ∀ σ H Q, tE g W (eComp2 vs t I C vs1 t1 I1 C1 F) σ H Q → tLc2 (tI g W I) (tgV X.K t) (tT g W0 C) (tI g W0 I1) (tgV X.K t1) (tT g W0 C1) (tE g W0 F) vs vs1 σ H Q := fun σ H Q ⟨α, env, st, hE, hS, p⟩ => by
  refine ⟨α, env, st, hE, hS, p.bind.imp fun pr st1 α1 H1 x1 s1 q J hJ => ?_⟩
  obtain ⟨ds, w⟩ := pr
  dsimp only at q hJ
  intro Dd hD
  have wE := (hE.mono x1).wipe vs
  have x2 := ext_alloc s1 hD (.lst [])
  have s2 : StR g (α1 ++ [Dd]) (st1 ++ [.lst []]) (upd H1 Dd (.lst [])) := s1.alloc hD ⟨[], upd_same, RDs.nil⟩
  have aD : (α1 ++ [Dd])[st1.length]? = some Dd := by
    have := s1.len
    rw [List.getElem?_append_right (by omega)]
    simp [this]
  refine ⟨fun i m H' => m = ds.length - i ∧ i ≤ ds.length ∧ ∃ α' st', Ext α1 H1 α' H' ∧ StR g α' st' H' ∧ α'[st1.length]? = some Dd ∧
      c2Out st1.length w t C vs1 t1 I1 C1 F (wipeE env vs) ds (st1 ++ [.lst []]) = c2Out st1.length w t C vs1 t1 I1 C1 F (wipeE env vs) (ds.drop i) st',
    ⟨ds.length, by simp, Nat.zero_le _, _, _, x2, s2, aD, by rw [List.drop_zero]⟩, ?_⟩
  rintro i m H' ⟨rfl, hi, α', st', x', hS', aD', eq⟩
  by_cases hlt : i < ds.length
  · refine .inr ?_
    rw [List.drop_eq_getElem_cons hlt, c2Out] at eq
    split at eq
    case isFalse => rw [eq] at q; exact q.elim
    rename_i ok
    refine ⟨hJ.go i α' H' st' x' hS' ok hlt, fun H2 => i + 1 ≤ ds.length ∧ ∃ α' st', Ext α1 H1 α' H2 ∧ StR g α' st' H2 ∧ α'[st1.length]? = some Dd ∧
      c2Out st1.length w t C vs1 t1 I1 C1 F (wipeE env vs) ds (st1 ++ [.lst []]) = c2Out st1.length w t C vs1 t1 I1 C1 F (wipeE env vs) (ds.drop (i + 1)) st', fun H2 n2 => ⟨ds.length - (i + 1), by omega, rfl, n2⟩, fun y H2 hy => ?_⟩
    obtain ⟨y2, s2, r2⟩ := hJ.yl i α' H' st' y H2 x' hS' ok hy _ (List.getElem?_eq_getElem hlt)
    split at eq
    case h_2 => rw [eq] at q; exact q.elim
    rename_i env1 e1
    obtain ⟨σ1, k1, k2, k3⟩ := bindT_ok hK (wE.mono (x'.trans y2)) r2 e1
    refine k2 _ ⟨by rw [k3 vs hsl, wipe_wipe], ?_⟩
    refine ⟨α', env1, st', k1, s2, ?_⟩
    cases hC : C env1 st' with
    | stuck => rw [hC] at eq; rw [eq] at q; exact q.elim
    | exc cc fs s => rw [hC] at eq; rw [eq] at q; exact q.elim
    | ok b st2 =>
      rw [hC] at eq
      intro α3 H3 x3 s3
      cases b with
      | false =>
        refine iteF ?_
        simp only [noX_ok, R.bind_ok, Bool.false_eq_true, if_false] at eq
        exact ⟨hlt, α3, st2, (x'.trans y2).trans x3, s3, x3.at (y2.at aD'), eq⟩
      | true =>
        refine iteT ?_
        simp only [noX_ok, R.bind_ok, if_true] at eq
        refine ⟨α3, env1, st2, k1.mono x3, s3, ?_⟩
        cases hI : I1 env1 st2 with
        | stuck => rw [hI] at eq; rw [eq] at q; exact q.elim
        | exc cc fs s => rw [hI] at eq; rw [eq] at q; exact q.elim
        | ok p1 st4 =>
          rw [hI] at eq
          simp only [noX_ok, R.bind_ok] at eq
          intro α4 H4 x4 s4 J1 hJ1
          obtain ⟨es, w1⟩ := p1
          dsimp only at eq hJ1
          have wE1 := ((k1.mono x3).mono x4).wipe vs1
          have xx := ((x'.trans y2).trans x3).trans x4
          refine ⟨fun j k H5 => k = es.length - j ∧ j ≤ es.length ∧ ∃ α' st', Ext α4 H4 α' H5 ∧ StR g α' st' H5 ∧ α'[st1.length]? = some Dd ∧
              c2Out st1.length w t C vs1 t1 I1 C1 F (wipeE env vs) ds (st1 ++ [.lst []]) = (c2In st1.length w1 t1 C1 F (wipeE env1 vs1) (es.drop j) st').bind fun _ st3 => c2Out st1.length w t C vs1 t1 I1 C1 F (wipeE env vs) (ds.drop (i + 1)) st3,
            ⟨es.length, by simp, Nat.zero_le _, α4, st4, Ext.refl _ _, s4, x4.at (x3.at (y2.at aD')), by rw [List.drop_zero]; exact eq⟩, ?_⟩
          clear eq
          rintro j k H5 ⟨rfl, hj, α5, st5, x5, s5, a5, eq⟩
          by_cases hlt1 : j < es.length
          · refine .inr ?_
            rw [List.drop_eq_getElem_cons hlt1, c2In] at eq
            split at eq
            case isFalse => rw [eq] at q; exact q.elim
            rename_i ok1
            refine ⟨hJ1.go j α5 H5 st5 x5 s5 ok1 hlt1, fun H6 => j + 1 ≤ es.length ∧ ∃ α' st', Ext α4 H4 α' H6 ∧ StR g α' st' H6 ∧ α'[st1.length]? = some Dd ∧
              c2Out st1.length w t C vs1 t1 I1 C1 F (wipeE env vs) ds (st1 ++ [.lst []]) = (c2In st1.length w1 t1 C1 F (wipeE env1 vs1) (es.drop (j + 1)) st').bind fun _ st3 => c2Out st1.length w t C vs1 t1 I1 C1 F (wipeE env vs) (ds.drop (i + 1)) st3, fun H6 n6 => ⟨es.length - (j + 1), by omega, rfl, n6⟩, fun y1 H6 hy1 => ?_⟩
            obtain ⟨y6, s6, r6⟩ := hJ1.yl j α5 H5 st5 y1 H6 x5 s5 ok1 hy1 _ (List.getElem?_eq_getElem hlt1)
            split at eq
            case h_2 => rw [eq] at q; exact q.elim
            rename_i env2 e2
            obtain ⟨σ2, m1, m2, m3⟩ := bindT_ok hK (wE1.mono (x5.trans y6)) r6 e2
            refine m2 _ ⟨by rw [m3 vs1 hsl1, wipe_wipe], ?_⟩
            refine ⟨α5, env2, st5, m1, s6, ?_⟩
            cases hC1 : C1 env2 st5 with
            | stuck => rw [hC1] at eq; rw [eq] at q; exact q.elim
            | exc cc fs s => rw [hC1] at eq; rw [eq] at q; exact q.elim
            | ok b st6 =>
              rw [hC1] at eq
              intro α7 H7 x7 s7
              cases b with
              | false =>
                refine iteF ?_
                simp only [noX_ok, R.bind_ok, Bool.false_eq_true, if_false] at eq
                exact ⟨hlt1, α7, st6, (x5.trans y6).trans x7, s7, x7.at (y6.at a5), eq⟩
              | true =>
                refine iteT ?_
                simp only [noX_ok, R.bind_ok, if_true] at eq
                refine ⟨α7, env2, st6, m1.mono x7, s7, ?_⟩
                cases hF : F env2 st6 with
                | stuck => rw [hF] at eq; rw [eq] at q; exact q.elim
                | exc cc fs s => rw [hF] at eq; rw [eq] at q; exact q.elim
                | ok z st8 =>
                  rw [hF] at eq
                  simp only [noX_ok, R.bind_ok] at eq
                  intro α8 H8 x8 s8 v rv
                  have a8 : α8[st1.length]? = some Dd := x8.at (x7.at (y6.at a5))
                  split at eq
                  case h_2 => rw [eq] at q; exact q.elim
                  rename_i acc ea
                  split at eq
                  case isFalse => rw [eq] at q; exact q.elim
                  rename_i hl
                  obtain ⟨ws, h1, r1⟩ := s8.ob _ _ _ a8 ea
                  have ex : Ext α8 H8 α8 (upd H8 Dd (.lst (ws ++ [v]))) := ext_write s8 a8 ⟨_, h1, fun _ z => (nomatch z), fun _ _ z => (nomatch z)⟩
                  refine ⟨ws, h1, by rw [← r1.length]; exact hl, hlt1, α8, _, ((((x5.trans y6).trans x7).trans x8).trans ex), s8.write (o := .lst (acc ++ [z])) a8 ex ⟨_, upd_same, (r1.append (.cons rv .nil)).mono ex⟩, a8, eq⟩
          · refine .inl ?_
            have e : es.drop j = [] := List.drop_eq_nil_of_le (by omega)
            rw [e, c2In] at eq
            split at eq
            · rename_i ok1
              simp only [R.bind_ok] at eq
              exact ⟨hJ1.stop j α5 H5 st5 x5 s5 ok1 (by omega), hlt, α5, st5, xx.trans x5, s5, a5, eq⟩
            · rw [eq] at q; exact q.elim
  · refine .inl ?_
    have e : ds.drop i = [] := List.drop_eq_nil_of_le (by omega)
    rw [e, c2Out] at eq
    split at eq
    · rename_i ok
      rw [eq] at q
      simp only [R.bind_ok] at q
      exact ⟨hJ.stop i α' H' st' x' hS' ok (by omega), q α' H' x' hS' _ ⟨Dd, rfl, aD'⟩⟩
    · rw [eq] at q; exact q.elim
theorem oe_comp2 (c : Ck g X W) {elt tg iter tg1 iter1 : Expr} {ifs ifs1 : List Expr} {scope : Scope} {own : List (Str × Nat)} {vs1 : List Nat} {pos : Pos} {t t1 : Tg} {I I1 : DIt} {C C1 : DT} {F : DE} (ok : BlkOk X.N X.env.scope scope own) (hv : ∀ i ∈ vs1, i ∈ own.map (·.2)) (hi : OI g X W tg iter I)
    (hg : ∀ (s : Shared) (H : Hp) (C : Addr) (cl : List (Str × Addr)) (fp : List Addr), OG (X.blk s H scope (compEnvC scope cl C X.env) fp) tg t)
    (ht : ∀ (s : Shared) (H : Hp) (C1 : Addr) (cl : List (Str × Addr)) (fp : List Addr), OTs g (X.blk s H scope (compEnvC scope cl C1 X.env) fp) W0 ifs C)
    (hi1 : ∀ (s : Shared) (H : Hp) (C : Addr) (cl : List (Str × Addr)) (fp : List Addr), OI g (X.blk s H scope (compEnvC scope cl C X.env) fp) W0 tg1 iter1 I1)
    (hg1 : ∀ (s : Shared) (H : Hp) (C : Addr) (cl : List (Str × Addr)) (fp : List Addr), OG (X.blk s H scope (compEnvC scope cl C X.env) fp) tg1 t1)
    (ht1 : ∀ (s : Shared) (H : Hp) (C : Addr) (cl : List (Str × Addr)) (fp : List Addr), OTs g (X.blk s H scope (compEnvC scope cl C X.env) fp) W0 ifs1 C1)
    (he : ∀ (s : Shared) (H : Hp) (C : Addr) (cl : List (Str × Addr)) (fp : List Addr), OE g (X.blk s H scope (compEnvC scope cl C X.env) fp) W0 elt F)
    (hsl : ∀ i ∈ t.slots, i ∈ own.map (·.2)) (hsl1 : ∀ i ∈ t1.slots, i ∈ vs1) (hs : ∀ x, foldedSetIterable iter X.env x = pure x := by intro _; rfl) (hs1 : ∀ env x, foldedSetIterable iter1 env x = pure x := by intro _ _; rfl) :
    OE g X W (.ListComp elt [⟨tg, iter, ifs, 0⟩, ⟨tg1, iter1, ifs1, 0⟩] scope pos) (eComp2 (own.map (·.2)) t I C vs1 t1 I1 C1 F) :=
  ofE (pe_lc2 (g := tgV X.K t) (tt := tT g W0 C) (wi1 := tI g W0 I1) (g1 := tgV X.K t1) (tt1 := tT g W0 C1) (te := tE g W0 F) c.calm c.nd hi ok hv hg ht hi1 hg1 ht1 he hs hs1) (lc2_step c.hK hsl hsl1)
end
end Mi

namespace Mi
open PySem PySem.Spec PyProof.Rows PyProof.V L2
/-! ### repr of data with dicts -/
def kP : Key → PyData
  | .inl i => .int i
  | .inr x => .str x
mutual
inductive Dq (K : PySem.W.Frag) (H : Hp) : V → PyData → Prop
  | non : Dq K H .non .none
  | bl (b : Bool) : Dq K H (.bl b) (.bool b)
  | int (i : Int) : Dq K H (.int i) (.int i)
  | str (x : Str) : Dq K H (.str x) (.str x)
  | lst {a : Addr} {xs : List V} {ds : List PyData} : SqL K H a xs → H a ≠ none → DqAll K H xs ds → Dq K H (.ref a) (.list ds)
  | tup {a : Addr} {xs : List V} {ds : List PyData} : SqT K H a xs → DqAll K H xs ds → Dq K H (.ref a) (.tuple ds)
  | dic {a : Addr} {ps : List (Key × V)} {ks : List (PyData × PyData)} : H a = some (.dK ps) → DqKs K H ps ks → Dq K H (.ref a) (.dict ks)
inductive DqAll (K : PySem.W.Frag) (H : Hp) : List V → List PyData → Prop
  | nil : DqAll K H [] []
  | cons {v : V} {vs : List V} {d : PyData} {ds : List PyData} : Dq K H v d → DqAll K H vs ds → DqAll K H (v :: vs) (d :: ds)
inductive DqKs (K : PySem.W.Frag) (H : Hp) : List (Key × V) → List (PyData × PyData) → Prop
  | nil : DqKs K H [] []
  | cons {k : Key} {v : V} {ps : List (Key × V)} {d : PyData} {ks : List (PyData × PyData)} : Dq K H v d → DqKs K H ps ks → DqKs K H ((k, v) :: ps) ((kP k, d) :: ks)
end
section
variable {X : Cx} {pins : List (Addr × Obj)} {σ : L2.St} {H : Hp} {s : Shared}
mutual
theorem Dq.reads (I : Inv X pins σ H s) (sm : H sysModules = none) : ∀ {v : V} {d : PyData}, Dq X.K H v d → ∀ u : Value, RelV v u → ∃ as, Reads s.heap u d as ∧ sysModules ∉ as
  | _, _, .non, _, r => by cases r; exact ⟨_, Reads.none, by simp⟩
  | _, _, .bl b, _, r => by cases r; exact ⟨_, Reads.bool b, by simp⟩
  | _, _, .int i, _, r => by obtain ⟨t, rfl⟩ := r; exact ⟨_, Reads.int i t, by simp⟩
  | _, _, .str x, _, r => by obtain ⟨t, rfl⟩ := r; exact ⟨_, Reads.str x t, by simp⟩
  | _, _, .lst hs hn ha, _, r => by
    cases r
    obtain ⟨its, rv, ⟨o, n, ho, hc, _, hd⟩, _⟩ := I.list hs
    obtain ⟨as, hr, hm⟩ := DqAll.reads I sm ha its rv
    refine ⟨_, Reads.list ho hc hd hr, ?_⟩
    simp only [List.mem_cons, not_or]
    exact ⟨fun e => hn (by rw [← e]; exact sm), hm⟩
  | _, _, .tup hs ha, _, r => by
    cases r
    obtain ⟨its, rv, ⟨o, ho, hc, n, hd⟩, _⟩ := I.tuple hs
    obtain ⟨as, hr, hm⟩ := DqAll.reads I sm ha its rv
    exact ⟨_, Reads.tuple ho hc hd hr, hm⟩
  | _, _, .dic h hk, _, r => by
    cases r
    obtain ⟨z, hs, vs, rel, dd⟩ := dk_of I.hok h
    obtain ⟨bs, hr, hm⟩ := DqKs.reads I sm hk vs rel
    refine ⟨_, reads_dictOf (enc := kP) (fun k key hk => ?_) dd hr, ?_⟩
    · rcases keyIs_shape (show keyIs k key = true from hk) with ⟨i, t, rfl, rfl⟩ | ⟨x, t, rfl, rfl⟩
      · exact Reads.int i t
      · exact Reads.str x t
    · simp only [List.mem_cons, not_or]
      exact ⟨fun e => by rw [← e] at hs; simp at hs, hm⟩
theorem DqAll.reads (I : Inv X pins σ H s) (sm : H sysModules = none) : ∀ {vs : List V} {ds : List PyData}, DqAll X.K H vs ds → ∀ us : List Value, Vals vs us → ∃ as, ReadsAll s.heap us ds as ∧ sysModules ∉ as
  | _, _, .nil, _, r => by cases r; exact ⟨_, ReadsAll.nil, by simp⟩
  | _, _, .cons h1 h2, _, r => by
    cases r with
    | cons r1 r2 =>
      obtain ⟨as, q1, m1⟩ := Dq.reads I sm h1 _ r1
      obtain ⟨bs, q2, m2⟩ := DqAll.reads I sm h2 _ r2
      exact ⟨_, ReadsAll.cons q1 q2, by simp [m1, m2]⟩
theorem DqKs.reads (I : Inv X pins σ H s) (sm : H sysModules = none) : ∀ {ps : List (Key × V)} {ks : List (PyData × PyData)}, DqKs X.K H ps ks → ∀ us : List (Key × Value), KV ps us → ∃ as, PairsRead s.heap kP us ks as ∧ sysModules ∉ as
  | _, _, .nil, _, r => by cases r; exact ⟨_, PairsRead.nil, by simp⟩
  | _, _, .cons h1 h2, _, r => by
    cases r with
    | @cons p q _ _ r1 r2 =>
      obtain ⟨k, u⟩ := q
      obtain ⟨rfl, r1⟩ := r1
      obtain ⟨as, q1, m1⟩ := Dq.reads I sm h1 _ r1
      obtain ⟨bs, q2, m2⟩ := DqKs.reads I sm h2 _ r2
      exact ⟨_, PairsRead.cons q1 q2, by simp [m1, m2]⟩
end
end
def keyQ {β : Type} (f : D → Option β) : List (Key × D) → Option (List (PyData × β))
  | [] => some []
  | (k, d) :: r => match f d, keyQ f r with
    | some b, some bs => some ((kP k, b) :: bs)
    | _, _ => none
def toQ (st : Sto) : Nat → D → Option PyData
  | _, .non => some .none
  | _, .bl b => some (.bool b)
  | _, .int i => some (.int i)
  | _, .str x => some (.str x)
  | n + 1, .tup ds => match allO (toQ st n) ds with | some ps => some (.tuple ps) | none => none
  | n + 1, .obj k => match st[k]? with
    | some (.lst ds) => (match allO (toQ st n) ds with | some ps => some (.list ps) | none => none)
    | some (.dic kvs) => (match keyQ (toQ st n) kvs with | some ps => some (.dict ps) | none => none)
    | _ => none
  | _, _ => none
section
variable {g : Gd} {X : Cx} {W : WX} {α : List Addr} {H : Hp} {st : Sto}
theorem dqs {f : D → Option PyData} (hf : ∀ d v p, f d = some p → RD g α H d v → Dq g.K H v p) : ∀ {ds : List D} {vs : List V} {ps : List PyData}, allO f ds = some ps → RDs g α H ds vs → DqAll g.K H vs ps
  | [], vs, ps, e, h => by
    cases e
    cases h
    exact .nil
  | d :: ds, vs, ps, e, h => by
    obtain ⟨v, r, rfl, h1, h2⟩ := h
    rw [allO] at e
    split at e
    · rename_i b bs e1 e2
      cases e
      exact .cons (hf d v _ e1 h1) (dqs hf e2 h2)
    · cases e
theorem dqk {f : D → Option PyData} (hf : ∀ d v p, f d = some p → RD g α H d v → Dq g.K H v p) : ∀ {kvs : List (Key × D)} {ps : List (Key × V)} {ks : List (PyData × PyData)}, keyQ f kvs = some ks → RKs g α H kvs ps → DqKs g.K H ps ks
  | [], ps, ks, e, h => by
    cases e
    cases h
    exact .nil
  | (k, d) :: kvs, ps, ks, e, h => by
    obtain ⟨v, r, rfl, h1, h2⟩ := h
    rw [keyQ] at e
    split at e
    · rename_i b bs e1 e2
      cases e
      exact .cons (hf d v _ e1 h1) (dqk hf e2 h2)
    · cases e
theorem dq (s : StR g α st H) : ∀ (n : Nat) (d : D) (v : V) (p : PyData), toQ st n d = some p → RD g α H d v → Dq g.K H v p := by
  intro n
  induction n with
  | zero =>
    intro d v p e h
    cases d <;> simp only [toQ] at e <;> first
      | (cases e; cases h; constructor)
      | cases e
  | succ n ih =>
    intro d v p e h
    cases d with
    | non => cases e; cases h; constructor
    | bl => cases e; cases h; constructor
    | int => cases e; cases h; constructor
    | str => cases e; cases h; constructor
    | tup ds =>
      obtain ⟨a, vs, rfl, h1, h2⟩ := h
      rw [toQ] at e
      split at e
      · rename_i ps e'
        cases e
        exact .tup h1 (dqs ih e' h2)
      · cases e
    | obj k =>
      rw [toQ] at e
      split at e
      · rename_i ds e'
        split at e
        · rename_i ps e2
          cases e
          obtain ⟨a, vs, rfl, _, h1, h2⟩ := s.lst h e'
          exact .lst (.inl (.inl h1)) (by rw [h1]; simp) (dqs ih e2 h2)
        · cases e
      · rename_i kvs e'
        split at e
        · rename_i ps e2
          cases e
          obtain ⟨a, vs, rfl, _, h1, h2⟩ := s.dic h e'
          exact .dic h1 (dqk ih e2 h2)
        · cases e
      · cases e
    | fn => cases e
    | ty => cases e
    | kl ds => cases e
    | ev ds => exact h.elim
theorem call_reprQ (hg : X.A.guards = some []) (hu : X.A.units + 200 < cLine) (sm : ∃ o, X.base.get? sysModules = some o) : CallR X (.builtin "repr") (fun xs H Q => ∃ v p, xs = [v] ∧ Dq X.K H v p ∧ p.showable = true ∧ p.depth ≤ 64 ∧ p.shown.length ≤ sizeLine ∧ Q (.str p.shown) H) := by
  intro pins s σ H xs us Q I r h
  obtain ⟨v, p, rfl, hd, h1, h2, h3, q⟩ := h
  obtain ⟨u, rfl, ru⟩ := vals1 r
  obtain ⟨o, ho⟩ := sm
  obtain ⟨as, rd, hm⟩ := Dq.reads I (I.bs _ _ ho).2 hd u ru
  cases hd with
  | non => cases ru; exact PySem.P.repr_of_none ⟨.str _, H, I.tok _, ⟨_, rfl⟩, q⟩
  | bl b => cases ru; exact PySem.P.repr_of_bool ⟨.str _, H, I.tok _, ⟨_, rfl⟩, q⟩
  | int i =>
    obtain ⟨t, rfl⟩ := ru
    have : i.natAbs.log2 < 1920 := by simpa [PyData.showable] using h1
    exact PySem.P.repr_of_int this ⟨.str _, H, I.tok _, ⟨_, rfl⟩, q⟩
  | str x =>
    obtain ⟨t, rfl⟩ := ru
    exact PySem.P.repr_of_str ⟨.str _, H, I.tok _, ⟨_, rfl⟩, q⟩ h3
  | lst hs hn ha =>
    cases ru
    exact repr_of_reads' rd h1 (fun _ => hm) hg (by omega) (fun _ _ e => e) (fun h' u tk hk => ⟨.str _, H, I.kept (t' := tk) hk, ⟨_, rfl⟩, q⟩) h3
  | tup hs ha =>
    cases ru
    exact repr_of_reads' rd h1 (fun _ => hm) hg (by omega) (fun _ _ e => e) (fun h' u tk hk => ⟨.str _, H, I.kept (t' := tk) hk, ⟨_, rfl⟩, q⟩) h3
  | dic h hk =>
    cases ru
    exact repr_of_reads' rd h1 (fun _ => hm) hg (by omega) (fun _ _ e => e) (fun h' u tk hk => ⟨.str _, H, I.kept (t' := tk) hk, ⟨_, rfl⟩, q⟩) h3
def shwO (p : PyData) : Option Str := if (p.showable && decide (p.depth ≤ 64) && decide (p.shown.length ≤ sizeLine)) = true then some p.shown else none
def reprQ : List D → Sto → R D
  | [d], st => match toQ st 66 d with
    | some p => (match shwO p with | some x => .ok (.str x) st | none => .stuck)
    | none => .stuck
  | _, _ => .stuck
theorem bi_reprQ (c : Ck g X W) (sm : ∃ o, g.base.get? sysModules = some o) : Bi g X W (.builtin "repr") reprQ := by
  intro σ α H st ds vs Q s r p
  unfold reprQ at p
  split at p
  · obtain ⟨v, rfl, r1⟩ := r.one
    split at p
    · rename_i pd e
      split at p
      · rename_i x e2
        unfold shwO at e2
        split at e2
        · rename_i h0
          cases e2
          simp only [Bool.and_eq_true, decide_eq_true_eq] at h0
          have d := dq s _ _ _ _ e r1
          rw [← c.hK] at d
          exact ⟨_, call_reprQ c.gd c.hu (by rw [c.hb]; exact sm), v, pd, rfl, d, h0.1.1, h0.1.2, h0.2, PD.ok p s rfl⟩
        · cases e2
      · exact p.elim
    · exact p.elim
  · exact p.elim
end
end Mi

namespace Mi
open PySem PySem.Spec PyProof.Rows L2
/-! ### list(d.items()), dict(list of pairs) -/
def keyD : Key → D
  | .inl i => .int i
  | .inr x => .str x
def itemsL (kvs : List (Key × D)) : List D := kvs.map fun p => .tup [keyD p.1, p.2]
def itemsO (o : Option (List (Key × D))) (st : Sto) : R D := match o with | some kvs => new (.lst (itemsL kvs)) st | none => .stuck
def itemsD : D → Sto → R D
  | .obj n, st => itemsO (dicO st[n]?) st
  | _, _ => .stuck
@[simp] theorem items_at {n : Nat} {st : Sto} : itemsD (.obj n) st = itemsO (dicO st[n]?) st := rfl
@[simp] theorem itemsO_some {kvs : List (Key × D)} {st : Sto} : itemsO (some kvs) st = .ok (.obj st.length) (st ++ [.lst (itemsL kvs)]) := rfl
def pairOf : D → Option (Key × D)
  | .tup [k, d] => (match keyOf k with | some k => some (k, d) | none => none)
  | _ => none
def dictO (o : Option (List D)) (st : Sto) : R D := match o with
  | some ds => (match allO pairOf ds with | some kvs => new (.dic (mergeL [] kvs)) st | none => .stuck)
  | none => .stuck
def dictB : List D → Sto → R D
  | [.obj n], st => dictO (lstOf (.obj n) st) st
  | _, _ => .stuck
section
variable {g : Gd} {X : Cx} {W : WX} {α : List Addr} {H : Hp} {st : Sto}
theorem RD.keyD {k : Key} : RD g α H (keyD k) (kV k) := by cases k <;> rfl
theorem items_rds {α' : List Addr} {H' : Hp} (e : Ext α H α' H') : ∀ {kvs : List (Key × D)} {ps : List (Key × V)} {ts : List Addr}, RKs g α H kvs ps → Paired (fun (t : Addr) (q : Key × V) => H' t = some (.tup [kV q.1, q.2])) ts ps → RDs g α' H' (itemsL kvs) (ts.map V.ref)
  | [], ps, ts, r, p => by
    cases r
    cases p
    exact RDs.nil
  | (k, d) :: kvs, ps, ts, r, p => by
    obtain ⟨v, r', rfl, h1, h2⟩ := r
    cases p with
    | cons q1 q2 =>
      exact RDs.cons ⟨_, _, rfl, .inl (.inl q1), RDs.cons RD.keyD (RDs.cons (h1.mono e) RDs.nil)⟩ (items_rds e h2 q2)
theorem oe_listItems (c : Ck g X W) {e : Expr} {F : DE} {p apos cpos pos : Pos} (h : OE g X W e F) (hm : g.mg "list" = none) (hv : bootBuiltins "list" = some (.type "list")) (hg : L2.Gl X "list" := by rfl) (hbase : attributeBase e "items" X.env (eval e X.env) = eval e X.env := by rfl) (hline : (apos.endLine == cpos.line) = true := by rfl)
    (hs : starEach [.Call (.Attribute e "items" apos) [] [] cpos] X.env = (false, eval (.Call (.Attribute e "items" apos) [] [] cpos) X.env) :: starEach [] X.env := by rfl) :
    OE g X W (.Call (.Name "list" p) [.Call (.Attribute e "items" apos) [] [] cpos] [] pos) (e1 itemsD F) :=
  ofE (LiI.pe_listItems c.calm h hg (by rw [c.hmg]; exact hm) hv hbase hline hs) fun σ H Q ⟨α, env, st, hE, hS, p⟩ => by
    refine ⟨α, env, st, hE, hS, p.bind.imp fun d st1 α1 H1 x1 s1 q v r => ?_⟩
    cases d with
    | obj n =>
      simp only [items_at] at q
      cases hd : dicO st1[n]? with
      | none => rw [hd] at q; exact q.elim
      | some kvs =>
        rw [hd] at q
        obtain ⟨a, ps, rfl, ha, h1, r1⟩ := s1.dic r (dicO_some hd)
        refine ⟨a, ps, rfl, h1, fun H' p ts kp hp hts hpt hL hP => ?_⟩
        have ex : Ext α1 H1 (α1 ++ [p]) H' := ⟨⟨[p], rfl⟩, fun b u e _ => kp b u e, fun b hb n => by
          have : b = p := by simpa [n] using hb
          subst this; exact hp, fun b xs e => kp _ _ e, fun b w u e => kp _ _ e⟩
        have hp' := s1.notin hp
        have ln := s1.len
        refine q (α1 ++ [p]) H' ex ⟨by simp [s1.len], by
          rw [List.nodup_append]
          refine ⟨s1.nd, by simp, fun a ha b hb => ?_⟩
          rintro rfl
          have : a = p := by simpa using hb
          subst this
          exact hp' ha, fun m b x e1 e2 => ?_⟩ _ ⟨p, rfl, by rw [List.getElem?_append_right (by omega), ← ln]; simp⟩
        by_cases hn : m < α1.length
        · rw [List.getElem?_append_left hn] at e1
          rw [List.getElem?_append_left (by rw [← ln]; exact hn)] at e2
          have o := s1.ob m b x e1 e2
          obtain ⟨u, hu⟩ := o.some
          exact o.away ex ((kp _ _ hu).trans hu.symm)
        · have hn' : m = α1.length := by
            have := (List.getElem?_eq_some_iff.mp e1).1
            simp at this
            omega
          subst hn'
          simp at e1
          rw [ln] at e2
          simp at e2
          subst e1 e2
          exact ⟨_, hL, items_rds ex r1 hP⟩
    | _ => exact q.elim
theorem key_v {k : D} {k' : Key} {w : V} (e : keyOf k = some k') (r : RD g α H k w) : w = kV k' := by
  unfold keyOf at e
  split at e <;> cases e <;> exact r
theorem pairs_of : ∀ {ds : List D} {vs : List V} {kvs : List (Key × D)}, RDs g α H ds vs → allO pairOf ds = some kvs → ∃ (ps : List Addr) (qs : List (Key × V)), vs = ps.map V.ref ∧ Paired (fun p (kv : Key × V) => SqT g.K H p [kV kv.1, kv.2]) ps qs ∧ RKs g α H kvs qs
  | [], vs, kvs, r, e => by
    cases e
    cases r
    exact ⟨[], [], rfl, .nil, rfl⟩
  | d :: ds, vs, kvs, r, e => by
    obtain ⟨v, r', rfl, h1, h2⟩ := r
    rw [allO] at e
    split at e
    · rename_i kv kvs' e1 e2
      cases e
      obtain ⟨ps, qs, rfl, pp, rk⟩ := pairs_of h2 e2
      unfold pairOf at e1
      split at e1
      · split at e1
        · rename_i k d' k' ek
          cases e1
          obtain ⟨a, ws, rfl, hs, rr⟩ := h1
          obtain ⟨w1, r1, rfl, q1, q2⟩ := rr
          obtain ⟨w2, r2, rfl, q3, q4⟩ := q2
          cases q4
          have := key_v ek q1
          subst this
          exact ⟨a :: ps, (k', w2) :: qs, rfl, .cons hs pp, ⟨w2, qs, rfl, q3, rk⟩⟩
        · cases e1
      · cases e1
    · cases e
theorem bi_dict (c : Ck g X W) : Bi g X W (.type "dict") dictB := by
  intro σ α H st ds vs Q s r p
  unfold dictB at p
  split at p
  · rename_i n
    obtain ⟨v, rfl, r1⟩ := r.one
    unfold dictO at p
    split at p
    · rename_i ds e
      split at p
      · rename_i kvs e2
        obtain ⟨a1, vs, rfl, l1, rr⟩ := lst_of s (.inl r1) e
        obtain ⟨ps, qs, rfl, pp, rk⟩ := pairs_of rr e2
        rw [← c.hK] at l1 pp
        refine ⟨_, call_dictP c.calm, a1, ps, qs, rfl, l1, pp, fun q hq => ?_⟩
        exact p (α ++ [q]) _ (ext_alloc s hq _) (s.alloc hq ⟨_, upd_same, (rk.merge (kvs := []) (ps := []) rfl).mono (ext_alloc s hq _)⟩) _ ⟨q, rfl, alloc_at s q⟩
      · exact p.elim
    · exact p.elim
  · exact p.elim
end
@[simp] theorem dict_at {n : Nat} {st : Sto} : dictB [.obj n] st = dictO (lstOf (.obj n) st) st := rfl
theorem dict_ok {n : Nat} {st : Sto} {ds : List D} {kvs : List (Key × D)} (h : st[n]? = some (.lst ds)) (k : allO pairOf ds = some kvs) : dictB [.obj n] st = .ok (.obj st.length) (st ++ [.dic (mergeL [] kvs)]) := by
  rw [dict_at]
  unfold lstOf dictO
  simp only [h, k]
  rfl
end Mi

namespace Mi
open PySem PySem.Spec PyProof.Rows L2
/-! ### zip(list, tuple), walked by a pair of names, both as long -/
section
variable {prog : Program} {w : World} {A : Around} {E : Value → Shared → Prop} {s : Shared}
theorem zn_item {z P R i j l m : Addr} {k : Nat} {xs ys : Array Value} {x y a b : Value} {Q : Value → Shared → Prop} (D : ZipApart z P R i j l m)
    (cz : IsZip s.heap z P R .none) (cP : IsPair s.heap P (.ref i) (.ref j)) (cR : IsPair s.heap R a b)
    (c1 : s.heap.IsListIter i l k) (c2 : s.heap.IsTupleIter j m k) (cl : s.heap.IsList l xs) (cm : s.heap.IsTuple m ys) (ex : xs[k]? = some x) (ey : ys[k]? = some y)
    (fin : ∀ h', IsZip h' z P R (rawInt s.heap.objs.size) → IsPair h' R x y → h'.IsListIter i l (k + 1) → h'.IsTupleIter j m (k + 1) → IsPair h' s.heap.objs.size x y → h'.objs.size = s.heap.objs.size + 1 →
      (∀ c o, c ≠ z → c ≠ R → c ≠ i → c ≠ j → s.heap.get? c = some o → h'.get? c = some o) → Q (.ref s.heap.objs.size) { s with heap := h' }) :
    wpAny (model prog w) A (Builtin.«zip.__next__» ⟨[.ref z], []⟩) (fun fin s' => ∃ v, fin = .done (.ret v) ∧ Q v s') E s := by
  show wpAny _ _ (field (.ref z) 2 >>= _) _ _ _
  refine wpAny_bind (wpAny_field cz rfl (x := .bool false) rfl ?_)
  show wpAny _ _ (field (.ref z) 3 >>= _) _ _ _
  refine wpAny_bind (wpAny_field cz rfl (x := .ref P) rfl (wpAny_bind (wpAny_seqItems cP rfl ?_)))
  show wpAny _ _ (Builtin.SmallTypes.ownedTupleIsFree (.ref z) >>= _) _ _ _
  refine wpAny_bind ?_
  unfold Builtin.SmallTypes.ownedTupleIsFree
  refine wpAny_bind (wpAny_field cz rfl (x := .none) rfl (wpAny_pure ?_))
  simp only [if_true]
  refine wpAny_bind (wpAny_rule (wpAny_bind (wpAny_field cz rfl (x := .ref R) rfl ?_)))
  refine wpAny_bind (wpAny_setField_rec cz (by simp) fun g1 z1 u1 => ?_)
  replace z1 : IsZip g1 z P R .ellipsis := z1
  refine wpAny_bind ?_
  simp only [List.zipIdx_cons, List.zipIdx_nil, List.forIn_cons, List.forIn_nil]
  refine wpAny_bind (wpAny_bind (wpAny_onRaise ?_))
  show wpAny _ _ (Builtin.SmallTypes.nextOf (.ref i) >>= _) _ _ _
  refine wpAny_bind (wpAny_nextOf_list_item (c1.extBut u1.extBut D.i1z) (cl.extBut u1.extBut D.l1z) ex fun g2 d1 u2 => wpAny_pure ?_)
  have r2 : IsPair g2 R a b := u2.extBut _ _ D.TOi1 (u1.extBut _ _ D.TOz cR)
  refine wpAny_bind (wpAny_seqItems r2 rfl (wpAny_bind (wpAny_updateSeq_pair r2 fun g3 r3 u3 => ?_)))
  replace r3 : IsPair g3 R x b := r3
  refine wpAny_bind (wpAny_letGo (wpAny_pure (wpAny_bind (wpAny_bind (wpAny_onRaise ?_)))))
  show wpAny _ _ (Builtin.SmallTypes.nextOf (.ref j) >>= _) _ _ _
  refine wpAny_bind (RZ.nextOf_tuple_item (((c2.extBut u1.extBut D.i2z).extBut u2.extBut D.i12.symm).extBut u3.extBut D.TOi2.symm) (((cm.extBut u1.extBut D.l2z).extBut u2.extBut D.l2i1).extBut u3.extBut D.l2TO) ey fun g4 d2 u4 => wpAny_pure ?_)
  have r4 : IsPair g4 R x b := u4.extBut _ _ D.TOi2 r3
  refine wpAny_bind (wpAny_seqItems r4 rfl (wpAny_bind (wpAny_updateSeq_pair r4 fun g5 r5 u5 => ?_)))
  replace r5 : IsPair g5 R x y := r5
  refine wpAny_bind (wpAny_letGo (wpAny_pure (wpAny_pure (wpAny_bind (wpAny_seqItems r5 rfl (wpAny_bind (wpAny_newTuple ?_)))))))
  have sz : g5.objs.size = s.heap.objs.size := by rw [u5.1, u4.1, u3.1, u2.1, u1.1]
  have z5 : IsZip g5 z P R .ellipsis := u5.extBut _ _ D.TOz.symm (u4.extBut _ _ D.i2z.symm (u3.extBut _ _ D.TOz.symm (u2.extBut _ _ D.i1z.symm z1)))
  have k5 : ∀ c o, c ≠ z → c ≠ R → c ≠ i → c ≠ j → s.heap.get? c = some o → g5.get? c = some o := fun c o n1 n2 n3 n4 e => u5.extBut _ _ n2 (u4.extBut _ _ n4 (u3.extBut _ _ n2 (u2.extBut _ _ n3 (u1.extBut _ _ n1 e))))
  have e1 : g5.IsListIter i l (k + 1) := ((d1.extBut u3.extBut D.TOi1.symm).extBut u4.extBut D.i12).extBut u5.extBut D.TOi1.symm
  have e2 : g5.IsTupleIter j m (k + 1) := d2.extBut u5.extBut D.TOi2.symm
  have zl : z < g5.objs.size := Heap.lt_size z5
  show wpAny _ _ (Builtin.SmallTypes.ownedTupleHandOut (.ref z) (.ref g5.objs.size) >>= _) _ _ _
  refine wpAny_bind ?_
  unfold Builtin.SmallTypes.ownedTupleHandOut
  have z6 : IsZip (g5.push { cls := .type "tuple", data := .seq #[x, y] }) z P R .ellipsis := Heap.get?_push_of_some _ z5
  refine wpAny_bind (wpAny_setField_rec z6 (by simp) fun g7 z7 u7 => ?_)
  replace z7 : IsZip g7 z P R (rawInt g5.objs.size) := z7
  refine wpAny_setField_rec z7 (by simp) fun g8 z8 u8 => ?_
  replace z8 : IsZip g8 z P R (rawInt g5.objs.size) := z8
  have up : ∀ c o, c ≠ z → g5.get? c = some o → g8.get? c = some o := fun c o n e => u8.extBut _ _ n (u7.extBut _ _ n (Heap.get?_push_of_some _ e))
  have t8 : IsPair g8 g5.objs.size x y := u8.extBut _ _ (Nat.ne_of_gt zl) (u7.extBut _ _ (Nat.ne_of_gt zl) (Heap.get?_push_size _ rfl))
  have s8 : g8.objs.size = g5.objs.size + 1 := by rw [u8.1, u7.1, Heap.size_push]
  rw [sz] at z8 t8 s8
  refine wpAny_pure ⟨_, rfl, ?_⟩
  show Q (.ref g5.objs.size) _
  rw [sz]
  exact fin g8 z8 (up _ _ D.TOz r5) (e1.at fun o e => up _ o D.i1z e) (e2.at fun o e => up _ o D.i2z e) t8 s8 fun c o n1 n2 n3 n4 e => up c o n1 (k5 c o n1 n2 n3 n4 e)
theorem zn_end {z P R i j l m : Addr} {k : Nat} {xs : Array Value} {a b : Value} {Q : Fin → Shared → Prop} (hh : A.handled = none) (D : ZipApart z P R i j l m)
    (cz : IsZip s.heap z P R .none) (cP : IsPair s.heap P (.ref i) (.ref j)) (cR : IsPair s.heap R a b)
    (c1 : s.heap.IsListIter i l k) (cl : s.heap.IsList l xs) (ex : xs[k]? = none)
    (fin : ∀ h' e, (∀ c o, c ≠ z → c ≠ R → c ≠ i → c ≠ j → s.heap.get? c = some o → h'.get? c = some o) → (∃ o, h'.get? e = some o ∧ o.cls = .type "StopIteration") → E (.ref e) { s with heap := h' }) :
    wpAny (model prog w) A (Builtin.«zip.__next__» ⟨[.ref z], []⟩) Q E s := by
  show wpAny _ _ (field (.ref z) 2 >>= _) _ _ _
  refine wpAny_bind (wpAny_field cz rfl (x := .bool false) rfl ?_)
  show wpAny _ _ (field (.ref z) 3 >>= _) _ _ _
  refine wpAny_bind (wpAny_field cz rfl (x := .ref P) rfl (wpAny_bind (wpAny_seqItems cP rfl ?_)))
  show wpAny _ _ (Builtin.SmallTypes.ownedTupleIsFree (.ref z) >>= _) _ _ _
  refine wpAny_bind ?_
  unfold Builtin.SmallTypes.ownedTupleIsFree
  refine wpAny_bind (wpAny_field cz rfl (x := .none) rfl (wpAny_pure ?_))
  simp only [if_true]
  refine wpAny_bind (wpAny_rule (wpAny_bind (wpAny_field cz rfl (x := .ref R) rfl ?_)))
  refine wpAny_bind (wpAny_setField_rec cz (by simp) fun g1 z1 u1 => ?_)
  replace z1 : IsZip g1 z P R .ellipsis := z1
  refine wpAny_bind ?_
  simp only [List.zipIdx_cons, List.zipIdx_nil, List.forIn_cons, List.forIn_nil]
  refine wpAny_bind (wpAny_bind (wpAny_onRaise ?_))
  show wpAny _ _ (Builtin.SmallTypes.nextOf (.ref i) >>= _) _ _ _
  refine wpAny_bind (wpAny_nextOf_list_end hh (c1.extBut u1.extBut D.i1z) (cl.extBut u1.extBut D.l1z) ex fun g2 e u2 he => ?_)
  obtain ⟨oe, hoe, hce⟩ := he
  have z2 : IsZip g2 z P R .ellipsis := u2 _ _ D.i1z.symm z1
  have ne : e ≠ z := fun q => by subst q; rw [z2] at hoe; cases hoe; simp at hce
  exact wpAny_setField_rec z2 (by simp) fun g3 _ u3 => fin g3 e (fun c o n1 _ n3 _ q => u3.extBut _ _ n1 (u2 _ _ n3 (u1.extBut _ _ n1 q))) ⟨oe, u3.extBut _ _ ne hoe, hce⟩
theorem zn_next_item {z P R i j l m : Addr} {k : Nat} {xs ys : Array Value} {x y a b : Value} {Q : Option Value → Shared → Prop} (D : ZipApart z P R i j l m)
    (cz : IsZip s.heap z P R .none) (cP : IsPair s.heap P (.ref i) (.ref j)) (cR : IsPair s.heap R a b)
    (c1 : s.heap.IsListIter i l k) (c2 : s.heap.IsTupleIter j m k) (cl : s.heap.IsList l xs) (cm : s.heap.IsTuple m ys) (ex : xs[k]? = some x) (ey : ys[k]? = some y)
    (fin : ∀ h', IsZip h' z P R (rawInt s.heap.objs.size) → IsPair h' R x y → h'.IsListIter i l (k + 1) → h'.IsTupleIter j m (k + 1) → IsPair h' s.heap.objs.size x y → h'.objs.size = s.heap.objs.size + 1 →
      (∀ c o, c ≠ z → c ≠ R → c ≠ i → c ≠ j → s.heap.get? c = some o → h'.get? c = some o) → Q (some (.ref s.heap.objs.size)) { s with heap := h' }) : wpAny (model prog w) A (pyNext (.ref z)) Q E s := by
  have ty : s.TypeIs (.ref z) "zip" := ⟨_, cz, rfl⟩
  unfold pyNext
  exact wpAny_bind (wpAny_attempt (wpAny_callSpecial?_slot (name := Str.ofString "__next__") ty PySem.F.slot_zip_next (wpAny_call_entry PySem.F.slot_zip_next ty PySem.F.entry_zip_next (zn_item D cz cP cR c1 c2 cl cm ex ey fun h' q1 q2 q3 q4 q5 q6 q7 => wpAny_pure (fin h' q1 q2 q3 q4 q5 q6 q7)) (PySem.F.args_zip_next_1 _))))
theorem zn_next_end {z P R i j l m : Addr} {k : Nat} {xs : Array Value} {a b : Value} {Q : Option Value → Shared → Prop} (hh : A.handled = none) (D : ZipApart z P R i j l m)
    (cz : IsZip s.heap z P R .none) (cP : IsPair s.heap P (.ref i) (.ref j)) (cR : IsPair s.heap R a b)
    (c1 : s.heap.IsListIter i l k) (cl : s.heap.IsList l xs) (ex : xs[k]? = none)
    (fin : ∀ h', (∀ c o, c ≠ z → c ≠ R → c ≠ i → c ≠ j → s.heap.get? c = some o → h'.get? c = some o) → Q none { s with heap := h' }) : wpAny (model prog w) A (pyNext (.ref z)) Q E s := by
  have ty : s.TypeIs (.ref z) "zip" := ⟨_, cz, rfl⟩
  unfold pyNext
  refine wpAny_bind (wpAny_attempt (wpAny_callSpecial?_slot (name := Str.ofString "__next__") ty PySem.F.slot_zip_next (wpAny_call_entry PySem.F.slot_zip_next ty PySem.F.entry_zip_next (zn_end hh D cz cP cR c1 cl ex fun h' e hk he => ?_) (PySem.F.args_zip_next_1 _))))
  obtain ⟨o, ho, hc⟩ := he
  exact wpAny_bind (wpAny_isInstance (T := "StopIteration") (b := true) ⟨o, ho, hc⟩ isSubtype_stop (wpAny_pure (fin _ hk)))
theorem zn_go {elts : List Expr} {n} {pos : Pos} {z P R T : Addr} {Q : Unit → Shared → Prop} (cz : IsZip s.heap z P R (rawInt T)) (fin : ∀ h', IsZip h' z P R .none → Heap.SameBut z s.heap h' → Q () { s with heap := h' }) : wpAny (model prog w) A (letOwnedTupleGo (.Tuple elts n pos) (.ref z) (.ref T)) Q E s := by
  unfold letOwnedTupleGo
  refine wpAny_bind (wpAny_load cz ?_)
  simp only
  rw [if_pos (by simp)]
  refine wpAny_bind (wpAny_rule ?_)
  exact wpAny_setField_rec cz (by simp) fun h' q1 q2 => fin h' q1 q2
abbrev yH1 (h : Heap) (l : Addr) : Heap := h.push { cls := .type "list_iterator", data := .fields #[.ref l, .int 0 0] }
abbrev yH2 (h : Heap) (l m : Addr) : Heap := (yH1 h l).push { cls := .type "tuple_iterator", data := .fields #[.ref m, .int 0 0] }
abbrev yH3 (h : Heap) (l m : Addr) : Heap := (yH2 h l m).push { cls := .type "tuple", data := .seq #[.ref h.objs.size, .ref (yH1 h l).objs.size] }
abbrev yH4 (h : Heap) (l m : Addr) : Heap := (yH3 h l m).push { cls := .type "tuple", data := .seq #[.none, .none] }
abbrev yH5 (h : Heap) (l m : Addr) : Heap := (yH4 h l m).push { cls := .type "zip", data := .fields #[.none, .bool false, .bool false, .ref (yH2 h l m).objs.size, .ref (yH3 h l m).objs.size] }
theorem zn_new (l m : Addr) (xs ys : Array Value) : Meets (Builtin.«zip.__new__» ⟨[.type "zip", .ref l, .ref m], []⟩) (fun _ R s => s.heap.IsList l xs ∧ s.heap.IsTuple m ys ∧ R (.ok (.ret (.ref (yH4 s.heap l m).objs.size))) { s with heap := yH5 s.heap l m }) :=
  .of_wp fun prog w A R s h => by
    obtain ⟨hp, g, d, tk, os⟩ := s
    obtain ⟨q1, q2, h⟩ := h
    have sub := sub_zip
    have L1 : Heap.IsList (Shared.heap ⟨hp, g, d, tk, os⟩) l xs := q1
    have L2 : Heap.IsTuple (Shared.heap ⟨hp.push { cls := .type "list_iterator", data := .fields #[.ref l, .int 0 0] }, g, d, tk, os⟩) m ys := Heap.IsTuple.push q2 _
    wp_walk using wpAny_pyIter_list L1, wpAny_pyIter_tuple L2
    exact ⟨_, rfl, h⟩
theorem zn_call {l m : Addr} {xs ys : Array Value} {Q : Value → Shared → Prop} (q1 : s.heap.IsList l xs) (q2 : s.heap.IsTuple m ys)
    (fin : IsZip (yH5 s.heap l m) (yH4 s.heap l m).objs.size (yH2 s.heap l m).objs.size (yH3 s.heap l m).objs.size .none → Q (.ref (yH4 s.heap l m).objs.size) { s with heap := yH5 s.heap l m }) :
    wpAny (model prog w) A (call (.type "zip") [.ref l, .ref m]) Q E s := by
  refine callType_new PySem.F.called_zip (by decide) (PySem.F.typeCall_zip_2 _ _) (PySem.F.newCall_zip_2 _ _) (fun obj => PySem.F.args_object_init_3 obj _ _) PySem.F.entry_zip_new (zn_new l m xs ys) ⟨q1, q2, ?_⟩
  have g5 : IsZip (yH5 s.heap l m) (yH4 s.heap l m).objs.size (yH2 s.heap l m).objs.size (yH3 s.heap l m).objs.size .none := Heap.get?_push_size _ rfl
  exact ⟨⟨_, g5, rfl⟩, fin g5⟩
end
def ItM (K : PySem.W.Frag) (a b : Addr) : It :=
  ⟨fun i H => ∃ (us vs : List V) (u v : V), SqL K H a us ∧ SqT K H b vs ∧ us[i]? = some u ∧ vs[i]? = some v,
    fun i H r H' => ∃ T u v, r = .ref T ∧ H T = none ∧ H' = upd H T (.tup [u, v]) ∧ (∀ us, SqL K H a us → us[i]? = some u) ∧ ∀ vs, SqT K H b vs → vs[i]? = some v,
    fun i H => ∃ us : List V, SqL K H a us ∧ us.length ≤ i⟩
theorem turn_zn {P : Program} {w : World} {K : PySem.W.Frag} {elts : List Expr} {n : Nat} {tp : Pos} {l m z Q R i1 i2 : Addr} (D : ZipApart z Q R i1 i2 l m) :
    Turn P w K (.Tuple elts n tp) (ItM K l m) [z, Q, R, i1, i2] z (fun i h => IsZip h z Q R .none ∧ IsPair h Q (.ref i1) (.ref i2) ∧ (∃ x y, IsPair h R x y) ∧ h.IsListIter i1 l i ∧ h.IsTupleIter i2 m i) where
  mem := by simp
  obj := fun i h st c hc => by
    obtain ⟨cz, cQ, ⟨x, y, cR⟩, ⟨o1, e1, _, d1⟩, ⟨o2, e2, _, d2⟩⟩ := st
    simp only [List.mem_cons, List.not_mem_nil, or_false] at hc
    rcases hc with rfl | rfl | rfl | rfl | rfl
    · exact ⟨_, cz, fun v q => nomatch q⟩
    · exact ⟨_, cQ, fun v q => nomatch q⟩
    · exact ⟨_, cR, fun v q => nomatch q⟩
    · exact ⟨o1, e1, fun v q => by rw [d1] at q; cases q⟩
    · exact ⟨o2, e2, fun v q => by rw [d2] at q; cases q⟩
  keep := fun i h h' st k => by
    obtain ⟨cz, cQ, ⟨x, y, cR⟩, c1, c2⟩ := st
    exact ⟨k z (by simp) _ cz, k Q (by simp) _ cQ, ⟨x, y, k R (by simp) _ cR⟩, c1.at fun o q => k i1 (by simp) o q, c2.at fun o q => k i2 (by simp) o q⟩
  item := by
    intro X hP hw hK hc i pins s σ H E I hf st hg
    subst hP hw hK
    obtain ⟨cz, cQ, ⟨x0, y0, cR⟩, c1, c2⟩ := st
    obtain ⟨us, vs, u, v, g1, g2, eu, ev⟩ := hg
    obtain ⟨its, rv, p1, _⟩ := I.list g1
    obtain ⟨its2, rv2, p2, _⟩ := I.tuple g2
    obtain ⟨a1, ea1, r1⟩ := rv.get eu
    obtain ⟨a2, ea2, r2⟩ := rv2.get ev
    have zl : z < s.heap.objs.size := Heap.lt_size cz
    refine zn_next_item D cz cQ cR c1 c2 p1.isList p2 (x := a1) (y := a2) (by simpa using ea1) (by simpa using ea2) fun h' z' R' d1 d2 hT sz hk => ?_
    refine ⟨_, rfl, zn_go (s := { s with heap := h' }) z' fun h2 z2 sb => ?_⟩
    have t2 : h2.get? s.heap.objs.size = some { cls := .type "tuple", data := .seq #[a1, a2] } := (sb.2 _ (Nat.ne_of_gt zl)).trans hT
    have nw : ObjOk X.prog X.w (upd H s.heap.objs.size (.tup [u, v])) h2 s.heap.objs.size (.tup [u, v]) := ⟨by show 2 ≤ sizeLine; decide, [a1, a2], .cons r1 (.cons r2 .nil), ⟨_, t2, rfl, _, rfl⟩⟩
    have ne : ∀ {c : Addr}, c ∉ [z, Q, R, i1, i2] → c ≠ z ∧ c ≠ R ∧ c ≠ i1 ∧ c ≠ i2 := fun {c} hb => by simp at hb; exact ⟨hb.1, hb.2.2.1, hb.2.2.2.1, hb.2.2.2.2⟩
    have I1 : Inv X pins σ (upd H s.heap.objs.size (.tup [u, v])) { s with heap := h2 } := I.turnedNew (t' := s.toks) (ch := [z, Q, R, i1, i2]) (fun c o hb q => (sb.2 c (ne hb).1).trans (hk c o (ne hb).1 (ne hb).2.1 (ne hb).2.2.1 (ne hb).2.2.2 q)) hf (Nat.le_refl _) nw
    refine ⟨.ref s.heap.objs.size, _, I1, rfl, ⟨_, u, v, rfl, I.hok.fresh (Nat.le_refl _), rfl, fun l hl => by rw [I.list_inj hl g1]; exact eu, fun l hl => by rw [I.tuple_inj hl g2]; exact ev⟩, ⟨z2, ?_, ⟨a1, a2, ?_⟩, ?_, ?_⟩, fun c hcm => ?_⟩
    · exact (sb.2 _ D.TIz).trans (hk _ _ D.TIz D.TITO D.TIi1 D.TIi2 cQ)
    · exact (sb.2 _ D.TOz).trans R'
    · exact d1.at fun o q => (sb.2 _ D.i1z).trans q
    · exact d2.at fun o q => (sb.2 _ D.i2z).trans q
    · have lt : c < s.heap.objs.size := by
        simp only [List.mem_cons, List.not_mem_nil, or_false] at hcm
        rcases hcm with rfl | rfl | rfl | rfl | rfl
        · exact zl
        · exact Heap.lt_size cQ
        · exact Heap.lt_size cR
        · obtain ⟨_, e1, _⟩ := c1; exact Heap.lt_size e1
        · obtain ⟨_, e2, _⟩ := c2; exact Heap.lt_size e2
      rw [upd_ne (Nat.ne_of_lt lt)]
      exact (hf c hcm).1
  done := by
    intro X hP hw hK hc i pins s σ H E I hf st hg
    subst hP hw hK
    obtain ⟨cz, cQ, ⟨x0, y0, cR⟩, c1, c2⟩ := st
    obtain ⟨us, g1, e1⟩ := hg
    obtain ⟨its, rv, p1, _⟩ := I.list g1
    have l1 := rv.length
    have ne : ∀ {c : Addr}, c ∉ [z, Q, R, i1, i2] → c ≠ z ∧ c ≠ R ∧ c ≠ i1 ∧ c ≠ i2 := fun {c} hb => by simp at hb; exact ⟨hb.1, hb.2.2.1, hb.2.2.2.1, hb.2.2.2.2⟩
    exact zn_next_end (I.ok.hd hc) D cz cQ cR c1 p1.isList (by simp; omega) fun h' hk => ⟨rfl, I.turnedL (t' := s.toks) (ch := [z, Q, R, i1, i2]) (fun c o hb q => hk c o (ne hb).1 (ne hb).2.1 (ne hb).2.2.1 (ne hb).2.2.2 q) hf⟩
  self := fun A i s Q E st h => wpAny_pyIter_zip st.1 h
def iZn (K : PySem.W.Frag) (ta : TA) : TI := fun σ H R => ta σ H fun vs H1 => ∃ a b xs ys, vs = [.ref a, .ref b] ∧ SqL K H1 a xs ∧ SqT K H1 b ys ∧ R (ItM K a b) H1
theorem pi_zn {X : Cx} {e e2 : Expr} {ta : TA} {p pos tpos : Pos} {elts : List Expr} {kk : Nat} (hg : L2.Gl X "zip") (hm : X.mg "zip" = none) (ha : PA X [e, e2] ta)
    (hs : starEach [e, e2] X.env = (false, eval e X.env) :: starEach [e2] X.env := by rfl) (hpl : (backTo pos (starEach [e2] X.env)).any (·.1) = false := by rfl) :
    PI X (.Tuple elts kk tpos) (.Call (.Name "zip" p) [e, e2] [] pos) (iZn X.K ta) := by
  refine ⟨fun pins s σ H R I h => ?_⟩
  refine Call_ (ld_blt I hg hm PyProof.Rows.boot_zip (PyProof.Rows.callWith_type1 (thn (ha.run pos pins s σ H _ I h) fun us s2 ⟨vs, H2, I2, r1, q1⟩ => ?_) hs hpl))
  obtain ⟨a, b, xs, ys, rfl, g1, g2, q⟩ := q1
  cases r1 with
  | cons r rr =>
    cases rr with
    | cons r' rr =>
      cases rr
      cases r
      cases r'
      obtain ⟨its, rv, p1, _⟩ := I2.list g1
      obtain ⟨its2, rv2, p2, _⟩ := I2.tuple g2
      obtain ⟨o1, ho1, _⟩ := id p2
      have la : a < s2.heap.objs.size := p1.lt
      refine zn_call (xs := its.toArray) (ys := its2.toArray) p1.isList p2 fun cz => wpAny_pyIter_zip cz ?_
      have z1 : (yH1 s2.heap a).objs.size = s2.heap.objs.size + 1 := Heap.size_push ..
      have z2 : (yH2 s2.heap a b).objs.size = s2.heap.objs.size + 2 := by rw [Heap.size_push, z1]
      have z3 : (yH3 s2.heap a b).objs.size = s2.heap.objs.size + 3 := by rw [Heap.size_push, z2]
      have z4 : (yH4 s2.heap a b).objs.size = s2.heap.objs.size + 4 := by rw [Heap.size_push, z3]
      have f4 : (yH5 s2.heap a b).get? (yH3 s2.heap a b).objs.size = some _ := Heap.get?_push_of_some _ (Heap.get?_push_size _ rfl)
      have f3 : (yH5 s2.heap a b).get? (yH2 s2.heap a b).objs.size = some _ := Heap.get?_push_of_some _ (Heap.get?_push_of_some _ (Heap.get?_push_size _ rfl))
      have f2 : (yH5 s2.heap a b).get? (yH1 s2.heap a).objs.size = some _ := Heap.get?_push_of_some _ (Heap.get?_push_of_some _ (Heap.get?_push_of_some _ (Heap.get?_push_size _ rfl)))
      have f1 : (yH5 s2.heap a b).get? s2.heap.objs.size = some _ := Heap.get?_push_of_some _ (Heap.get?_push_of_some _ (Heap.get?_push_of_some _ (Heap.get?_push_of_some _ (Heap.get?_push_size _ rfl))))
      have kp : ∀ c o, s2.heap.get? c = some o → (yH5 s2.heap a b).get? c = some o := fun c o x => Heap.get?_push_of_some _ (Heap.get?_push_of_some _ (Heap.get?_push_of_some _ (Heap.get?_push_of_some _ (Heap.get?_push_of_some _ x))))
      have I3 : Inv X pins σ H2 { s2 with heap := yH5 s2.heap a b } := I2.kept (t' := s2.toks) kp
      rw [z2, z3, z4] at cz
      rw [z3] at f4
      rw [z2, z1] at f3
      rw [z1] at f2
      rw [z4]
      refine ⟨s2.heap.objs.size + 4, [s2.heap.objs.size + 4, s2.heap.objs.size + 2, s2.heap.objs.size + 3, s2.heap.objs.size, s2.heap.objs.size + 1], _, _, H2, rfl, I3, turn_zn (PySem.W.ktu_apart s2.heap.objs.size a b la (Heap.lt_size ho1)), ⟨cz, f3, ⟨_, _, f4⟩, ⟨_, f1, rfl, rfl⟩, ⟨_, f2, rfl, rfl⟩⟩, fun c hcm => ?_, q⟩
      have le : s2.heap.objs.size ≤ c := by
        simp only [List.mem_cons, List.not_mem_nil, or_false] at hcm
        rcases hcm with rfl | rfl | rfl | rfl | rfl
        · exact Nat.le_add_right _ _
        · exact Nat.le_add_right _ _
        · exact Nat.le_add_right _ _
        · exact Nat.le_refl _
        · exact Nat.le_add_right _ _
      exact I2.fpOk le (I2.hok.fresh le)
def zipMx (a b : D) (st : Sto) : R (List D × Wat) := match a, b with
  | .obj n, .tup ys => (match seqOf st n with | some xs => if xs.length = ys.length then .ok (pairs xs ys, [(n, xs)]) st else .stuck | none => .stuck)
  | _, _ => .stuck
def zmR (ds : List D) (st : Sto) : R (List D × Wat) := match ds with
  | [a, b] => zipMx a b st
  | _ => .stuck
def iZipM (G : DA) : DIt := fun env st => (G env st).bind zmR
def fZm (r : R (List D)) : R (List D × Wat) := r.bind zmR
@[simp] theorem ap_zipM {G : DA} {env : Env} {st : Sto} : iZipM G env st = fZm (G env st) := rfl
def zmO (n : Nat) (ys : List D) (o : Option (List D)) (st : Sto) : R (List D × Wat) := match o with | some xs => if xs.length = ys.length then .ok (pairs xs ys, [(n, xs)]) st else .stuck | none => .stuck
@[simp] theorem fZm_ok {ys : List D} {n : Nat} {st : Sto} : fZm (.ok [.obj n, .tup ys] st) = zmO n ys (seqOf st n) st := rfl
@[simp] theorem zmO_some {ys xs : List D} {n : Nat} {st : Sto} : zmO n ys (some xs) st = if xs.length = ys.length then .ok (pairs xs ys, [(n, xs)]) st else .stuck := rfl
section
variable {g : Gd} {X : Cx} {W : WX} {α0 : List Addr} {H0 : Hp}
theorem it_zn {n : Nat} {a b : Addr} {us : List V} {xs ys : List D} (h1 : SqT g.K H0 b us) (r : RDs g α0 H0 ys us) (hb : α0[n]? = some a) (hl : xs.length = ys.length) : ItR g (ItM g.K a b) (pairs xs ys) [(n, xs)] α0 H0 where
  go := fun i α H st x s ok hi => by
    obtain ⟨o1, _⟩ := okW_one ok
    obtain ⟨_, ws, e1, _, h2, r2⟩ := s.seq (v := .ref a) ⟨a, rfl, x.at hb⟩ o1
    cases e1
    rw [pairs_len, r.length, r2.length] at hi
    exact ⟨ws, us, ws[i]'(by omega), us[i]'(by omega), h2, x.sqt h1, List.getElem?_eq_getElem _, List.getElem?_eq_getElem _⟩
  yl := fun i α H st v H' x s ok ⟨T, y, y2, e1, hT, e2, hy, hy2⟩ d hd => by
    subst e1 e2
    obtain ⟨o1, _⟩ := okW_one ok
    obtain ⟨_, ws, e1, _, h2, r2⟩ := s.seq (v := .ref a) ⟨a, rfl, x.at hb⟩ o1
    cases e1
    obtain ⟨z, z2, hz, hz2, rfl⟩ := pairs_get hd
    obtain ⟨u, q1, h3⟩ := r2.get hz
    obtain ⟨u2, q2, h4⟩ := r.get hz2
    have k1 := hy ws h2
    have k2 := hy2 us (x.sqt h1)
    rw [q1] at k1
    rw [q2] at k2
    cases k1; cases k2
    exact out_tup s hT (.cons h3 (.cons (h4.mono x) .nil))
  stop := fun i α H st x s ok hi => by
    obtain ⟨o1, _⟩ := okW_one ok
    obtain ⟨_, ws, e1, _, h2, r2⟩ := s.seq (v := .ref a) ⟨a, rfl, x.at hb⟩ o1
    cases e1
    have := r2.length
    rw [pairs_len] at hi
    exact ⟨ws, h2, by omega⟩
theorem oi_zipM (c : Ck g X W) {e e0 : Expr} {G : DA} {p pos tpos : Pos} {elts : List Expr} {kk : Nat} (h : OA g X W [e, e0] G) (hm : g.mg "zip" = none) (hg : L2.Gl X "zip" := by rfl)
    (hs : starEach [e, e0] X.env = (false, eval e X.env) :: starEach [e0] X.env := by rfl) (hpl : (backTo pos (starEach [e0] X.env)).any (·.1) = false := by rfl) :
    OI g X W (.Tuple elts kk tpos) (.Call (.Name "zip" p) [e, e0] [] pos) (iZipM G) := by
  refine ⟨fun pins s σ H S I ⟨α, env, st, hE, hS, p⟩ => ?_⟩
  refine (pi_zn hg (by rw [c.hmg]; exact hm) h hs hpl).run pins s σ H S I (tA.run hE hS (p.bind.imp fun ds st1 α1 H1 x1 s1 q vs r => ?_))
  unfold zmR at q
  split at q
  · rename_i d1 d2
    obtain ⟨v1, _, rfl, r1, v2, _, rfl, r2, rfl⟩ := r
    unfold zipMx at q
    split at q
    · rename_i n ys
      split at q
      · rename_i xs e1
        split at q
        · rename_i hl
          obtain ⟨b, us, rfl, h1, k1⟩ := r2
          obtain ⟨a, ws, rfl, hb, h2, k2⟩ := s1.seq r1 e1
          rw [c.hK]
          exact ⟨a, b, ws, us, rfl, h2, h1, q α1 H1 (Ext.refl _ _) s1 _ (it_zn h1 k1 hb hl)⟩
        · exact q.elim
      · exact q.elim
    · exact q.elim
  · exact q.elim
end
/-! ### what is not served: nothing is said of it -/
def eStuck : DE := fun _ _ => .stuck
def sStuck : DS := fun _ _ => .stuck
section
variable {g : Gd} {X : Cx} {W : WX}
theorem oe_stuck {e : Expr} : OE g X W e eStuck := ⟨fun pins s σ H Q I ⟨α, env, st, hE, hS, p⟩ => p.elim⟩
theorem os_stuck {e : Stmt} : OS g X W e sStuck := ⟨fun pins s σ H Q I ⟨α, env, st, hE, hS, p⟩ => p.elim⟩
end
@[simp] theorem ap_eStuck {env : Env} {st : Sto} : eStuck env st = .stuck := rfl
@[simp] theorem ap_sStuck {env : Env} {st : Sto} : sStuck env st = .stuck := rfl
end Mi

namespace Mi
open PySem PySem.Spec PyProof.Rows L2
/-! ### list(zip(a, b)) of two lists -/
abbrev ZipO (h : Heap) (z A B : Addr) (f e : Value) : Prop := h.get? z = some { cls := .type "zip", dict := none, data := .fields #[f, e, .bool false, .ref A, .ref B], slots := #[] }
section
variable {prog : Program} {w : World} {A : Around} {E : Value → Shared → Prop} {s : Shared}
/-- the zip's own tuple is given away: it is marked so -/
theorem zo_held {z P R T : Addr} {f1 : Bool} {oT : Obj} {Q : Bool → Shared → Prop} (cz : ZipO s.heap z P R (rawInt T) (.bool f1)) (cT : s.heap.get? T = some oT)
    (fin : ∀ h', ZipO h' z P R (rawInt T) (.bool true) → Heap.SameBut z s.heap h' → Q false { s with heap := h' }) : wpAny (model prog w) A (Builtin.SmallTypes.ownedTupleIsFree (.ref z)) Q E s := by
  unfold Builtin.SmallTypes.ownedTupleIsFree
  refine wpAny_bind (wpAny_field cz rfl (x := rawInt T) rfl ?_)
  show wpAny _ _ (loadIfAlive ((T : Int).toNat) >>= _) _ _ _
  rw [Int.toNat_natCast]
  refine wpAny_bind (PySem.W.kdx_alive cT ?_)
  simp only [Option.isNone_some, Bool.false_eq_true, if_false]
  refine wpAny_bind (wpAny_field cz rfl (x := .bool f1) rfl ?_)
  cases f1 with
  | true =>
    rw [if_neg (show ¬ ((Value.bool true != Value.bool true) = true) from Bool.false_ne_true)]
    exact wpAny_pure (fin s.heap cz (Heap.SameBut.refl _ _))
  | false =>
    rw [if_pos (show (Value.bool false != Value.bool true) = true from rfl)]
    exact wpAny_bind (wpAny_setField_rec cz (by simp) fun h' q1 q2 => wpAny_pure (fin h' q1 q2))
theorem zo_item {z P R i j l m T : Addr} {k : Nat} {f1 : Bool} {xs ys : Array Value} {x y : Value} {oT : Obj} {Q : Value → Shared → Prop} (D : ZipApart z P R i j l m)
    (cz : ZipO s.heap z P R (rawInt T) (.bool f1)) (cT : s.heap.get? T = some oT) (cP : IsPair s.heap P (.ref i) (.ref j))
    (c1 : s.heap.IsListIter i l k) (c2 : s.heap.IsListIter j m k) (cl : s.heap.IsList l xs) (cm : s.heap.IsList m ys) (ex : xs[k]? = some x) (ey : ys[k]? = some y)
    (fin : ∀ h', ZipO h' z P R (rawInt T) (.bool true) → h'.IsListIter i l (k + 1) → h'.IsListIter j m (k + 1) → IsPair h' s.heap.objs.size x y → h'.objs.size = s.heap.objs.size + 1 →
      (∀ c o, c ≠ z → c ≠ i → c ≠ j → s.heap.get? c = some o → h'.get? c = some o) → Q (.ref s.heap.objs.size) { s with heap := h' }) :
    wpAny (model prog w) A (Builtin.«zip.__next__» ⟨[.ref z], []⟩) (fun fin s' => ∃ v, fin = .done (.ret v) ∧ Q v s') E s := by
  show wpAny _ _ (field (.ref z) 2 >>= _) _ _ _
  refine wpAny_bind (wpAny_field cz rfl (x := .bool false) rfl ?_)
  show wpAny _ _ (field (.ref z) 3 >>= _) _ _ _
  refine wpAny_bind (wpAny_field cz rfl (x := .ref P) rfl (wpAny_bind (wpAny_seqItems cP rfl ?_)))
  show wpAny _ _ (Builtin.SmallTypes.ownedTupleIsFree (.ref z) >>= _) _ _ _
  refine wpAny_bind (zo_held cz cT fun g1 z1 u1 => ?_)
  simp only [Bool.false_eq_true, if_false]
  refine wpAny_bind ?_
  rw [← Array.forIn_toList]
  show wpAny _ _ (forIn [Value.ref i, Value.ref j] _ _) _ _ _
  simp only [List.forIn_cons, List.forIn_nil]
  refine wpAny_bind (wpAny_bind (wpAny_holding ?_))
  show wpAny _ _ (Builtin.SmallTypes.nextOf (.ref i) >>= _) _ _ _
  refine wpAny_bind (wpAny_nextOf_list_item (c1.extBut u1.extBut D.i1z) (cl.extBut u1.extBut D.l1z) ex fun g2 d1 u2 => wpAny_pure ?_)
  refine wpAny_pure (wpAny_bind (wpAny_bind (wpAny_holding ?_)))
  show wpAny _ _ (Builtin.SmallTypes.nextOf (.ref j) >>= _) _ _ _
  refine wpAny_bind (wpAny_nextOf_list_item ((c2.extBut u1.extBut D.i2z).extBut u2.extBut D.i12.symm) ((cm.extBut u1.extBut D.l2z).extBut u2.extBut D.l2i1) ey fun g3 d2 u3 => wpAny_pure ?_)
  refine wpAny_pure (wpAny_pure ?_)
  show wpAny _ _ (newTuple [x, y] >>= _) _ _ _
  refine wpAny_bind (wpAny_newTuple ?_)
  have sz : g3.objs.size = s.heap.objs.size := by rw [u3.1, u2.1, u1.1]
  have z3 : ZipO g3 z P R (rawInt T) (.bool true) := u3.extBut _ _ D.i2z.symm (u2.extBut _ _ D.i1z.symm z1)
  have k3 : ∀ c o, c ≠ z → c ≠ i → c ≠ j → s.heap.get? c = some o → g3.get? c = some o := fun c o n1 n2 n3 e => u3.extBut _ _ n3 (u2.extBut _ _ n2 (u1.extBut _ _ n1 e))
  have e1 : g3.IsListIter i l (k + 1) := d1.extBut u3.extBut D.i12
  refine wpAny_pure ⟨_, rfl, ?_⟩
  show Q (.ref g3.objs.size) _
  rw [sz]
  refine fin _ (Heap.get?_push_of_some _ z3) (e1.at fun o e => Heap.get?_push_of_some _ e) (d2.at fun o e => Heap.get?_push_of_some _ e) ?_ ?_ fun c o n1 n2 n3 e => Heap.get?_push_of_some _ (k3 c o n1 n2 n3 e)
  · have : IsPair (g3.push { cls := .type "tuple", data := .seq #[x, y] }) g3.objs.size x y := Heap.get?_push_size _ rfl
    rw [sz] at this
    exact this
  · rw [Heap.size_push, sz]
theorem zo_end {z P R i j l m T : Addr} {k : Nat} {f1 : Bool} {xs ys : Array Value} {oT : Obj} {Q : Fin → Shared → Prop} (hh : A.handled = none) (D : ZipApart z P R i j l m)
    (cz : ZipO s.heap z P R (rawInt T) (.bool f1)) (cT : s.heap.get? T = some oT) (cP : IsPair s.heap P (.ref i) (.ref j))
    (c1 : s.heap.IsListIter i l k) (c2 : s.heap.IsListIter j m k) (cl : s.heap.IsList l xs) (cm : s.heap.IsList m ys) (he : xs[k]? = none ∨ ys[k]? = none)
    (fin : ∀ h' e, (∀ c o, c ≠ z → c ≠ i → c ≠ j → s.heap.get? c = some o → h'.get? c = some o) → (∃ o, h'.get? e = some o ∧ o.cls = .type "StopIteration") → E (.ref e) { s with heap := h' }) :
    wpAny (model prog w) A (Builtin.«zip.__next__» ⟨[.ref z], []⟩) Q E s := by
  show wpAny _ _ (field (.ref z) 2 >>= _) _ _ _
  refine wpAny_bind (wpAny_field cz rfl (x := .bool false) rfl ?_)
  show wpAny _ _ (field (.ref z) 3 >>= _) _ _ _
  refine wpAny_bind (wpAny_field cz rfl (x := .ref P) rfl (wpAny_bind (wpAny_seqItems cP rfl ?_)))
  show wpAny _ _ (Builtin.SmallTypes.ownedTupleIsFree (.ref z) >>= _) _ _ _
  refine wpAny_bind (zo_held cz cT fun g1 z1 u1 => ?_)
  simp only [Bool.false_eq_true, if_false]
  refine wpAny_bind ?_
  rw [← Array.forIn_toList]
  show wpAny _ _ (forIn [Value.ref i, Value.ref j] _ _) _ _ _
  simp only [List.forIn_cons, List.forIn_nil]
  refine wpAny_bind (wpAny_bind (wpAny_holding ?_))
  show wpAny _ _ (Builtin.SmallTypes.nextOf (.ref i) >>= _) _ _ _
  cases ex : xs[k]? with
  | none =>
    exact wpAny_bind (wpAny_nextOf_list_end hh (c1.extBut u1.extBut D.i1z) (cl.extBut u1.extBut D.l1z) ex fun g2 e u2 q => fin g2 e (fun c o n1 n2 _ z => u2 _ _ n2 (u1.extBut _ _ n1 z)) q)
  | some x =>
    have ey : ys[k]? = none := he.resolve_left (by rw [ex]; simp)
    refine wpAny_bind (wpAny_nextOf_list_item (c1.extBut u1.extBut D.i1z) (cl.extBut u1.extBut D.l1z) ex fun g2 d1 u2 => wpAny_pure ?_)
    refine wpAny_pure (wpAny_bind (wpAny_bind (wpAny_holding ?_)))
    show wpAny _ _ (Builtin.SmallTypes.nextOf (.ref j) >>= _) _ _ _
    exact wpAny_bind (wpAny_nextOf_list_end hh ((c2.extBut u1.extBut D.i2z).extBut u2.extBut D.i12.symm) ((cm.extBut u1.extBut D.l2z).extBut u2.extBut D.l2i1) ey fun g3 e u3 q => fin g3 e (fun c o n1 n2 n3 z => u3 _ _ n3 (u2.extBut _ _ n2 (u1.extBut _ _ n1 z))) q)
/-- how far the zip is: what was given out stands in as -/
structure Zg (z P R i j l m lo : Addr) (xs ys : Array Value) (k : Nat) (as : List Addr) (h : Heap) : Prop where
  zip : (k = 0 ∧ IsZip h z P R .none) ∨ ∃ (T : Addr) (f1 : Bool), as[0]? = some T ∧ ZipO h z P R (rawInt T) (.bool f1)
  cP : IsPair h P (.ref i) (.ref j)
  cR : ∃ a b, IsPair h R a b
  c1 : h.IsListIter i l k
  c2 : h.IsListIter j m k
  cl : h.IsList l xs
  cm : h.IsList m ys
  len : as.length = k
  rise : as.Pairwise (· < ·)
  above : ∀ a ∈ as, lo < a
  fit : ∀ (q : Nat) (a : Addr), as[q]? = some a → ∃ x y, xs[q]? = some x ∧ ys[q]? = some y ∧ IsPair h a x y
variable {z P R i j l m lo : Addr} {xs ys : Array Value}
theorem Zg.there {k : Nat} {as : List Addr} {h : Heap} (g : Zg z P R i j l m lo xs ys k as h) {a : Addr} (ha : a ∈ as) : a < h.objs.size := by
  obtain ⟨q, hq⟩ := List.mem_iff_getElem?.mp ha
  obtain ⟨_, _, _, _, e⟩ := g.fit q a hq
  exact Heap.lt_size e
theorem Zg.upd {k : Nat} {as : List Addr} {h h' : Heap} (g : Zg z P R i j l m lo xs ys k as h) (S : Addr) (hS : S ≠ z ∧ S ≠ P ∧ S ≠ R ∧ S ≠ i ∧ S ≠ j ∧ S ≠ l ∧ S ≠ m ∧ S ≤ lo) (kp : ∀ b o, b ≠ S → h.get? b = some o → h'.get? b = some o) : Zg z P R i j l m lo xs ys k as h' := by
  obtain ⟨s1, s2, s3, s4, s5, s6, s7, s8⟩ := hS
  have na : ∀ a ∈ as, a ≠ S := fun a ha e => by
    have h1 : lo < a := g.above a ha
    subst e
    exact Nat.lt_irrefl _ (Nat.lt_of_le_of_lt s8 h1)
  refine ⟨?_, kp _ _ s2.symm g.cP, let ⟨a, b, e⟩ := g.cR; ⟨a, b, kp _ _ s3.symm e⟩, g.c1.at fun o e => kp _ _ s4.symm e, g.c2.at fun o e => kp _ _ s5.symm e, ?_, ?_, g.len, g.rise, g.above, fun q a hq => ?_⟩
  · rcases g.zip with ⟨h0, e⟩ | ⟨T, f1, h0, e⟩
    · exact .inl ⟨h0, kp _ _ s1.symm e⟩
    · exact .inr ⟨T, f1, h0, kp _ _ s1.symm e⟩
  · obtain ⟨o, ho, r⟩ := g.cl; exact ⟨o, kp _ _ s6.symm ho, r⟩
  · obtain ⟨o, ho, r⟩ := g.cm; exact ⟨o, kp _ _ s7.symm ho, r⟩
  · obtain ⟨x, y, e1, e2, e3⟩ := g.fit q a hq
    exact ⟨x, y, e1, e2, kp _ _ (na a (List.mem_of_getElem? hq)) e3⟩
theorem zg_push {k : Nat} {as : List Addr} {h h' : Heap} {x y : Value} (D : ZipApart z P R i j l m) (g : Zg z P R i j l m lo xs ys k as h) (hlo : lo < h.objs.size) (ex : xs[k]? = some x) (ey : ys[k]? = some y)
    (hz : ∃ (T : Addr) (f1 : Bool), (as ++ [h.objs.size])[0]? = some T ∧ ZipO h' z P R (rawInt T) (.bool f1)) (cR : ∃ a b, IsPair h' R a b) (d1 : h'.IsListIter i l (k + 1)) (d2 : h'.IsListIter j m (k + 1)) (t : IsPair h' h.objs.size x y)
    (kp : ∀ c o, c ≠ z → c ≠ R → c ≠ i → c ≠ j → h.get? c = some o → h'.get? c = some o) (na : ∀ a ∈ as, a ≠ z ∧ a ≠ R ∧ a ≠ i ∧ a ≠ j) : Zg z P R i j l m lo xs ys (k + 1) (as ++ [h.objs.size]) h' := by
  refine ⟨.inr hz, kp _ _ D.TIz D.TITO D.TIi1 D.TIi2 g.cP, cR, d1, d2, ?_, ?_, by simp [g.len], ?_, fun a ha => ?_, fun q a hq => ?_⟩
  · obtain ⟨o, ho, r⟩ := g.cl; exact ⟨o, kp _ _ D.l1z D.l1TO D.l1i1 D.l1i2 ho, r⟩
  · obtain ⟨o, ho, r⟩ := g.cm; exact ⟨o, kp _ _ D.l2z D.l2TO D.l2i1 D.l2i2 ho, r⟩
  · rw [List.pairwise_append]
    refine ⟨g.rise, by simp, fun a ha b hb => ?_⟩
    have : b = h.objs.size := by simpa using hb
    subst this
    exact g.there ha
  · rcases List.mem_append.mp ha with ha | ha
    · exact g.above a ha
    · have : a = h.objs.size := by simpa using ha
      subst this
      exact hlo
  · by_cases hk : q < as.length
    · rw [List.getElem?_append_left hk] at hq
      obtain ⟨u, v, e1, e2, e3⟩ := g.fit q a hq
      obtain ⟨n1, n2, n3, n4⟩ := na a (List.mem_of_getElem? hq)
      exact ⟨u, v, e1, e2, kp _ _ n1 n2 n3 n4 e3⟩
    · have hl := (List.getElem?_eq_some_iff.mp hq).1
      rw [List.length_append, List.length_singleton] at hl
      have : q = as.length := by omega
      subst this
      rw [List.getElem?_append_right (Nat.le_refl _), Nat.sub_self] at hq
      have : a = h.objs.size := by simpa using hq.symm
      subst this
      exact ⟨x, y, by rw [g.len]; exact ex, by rw [g.len]; exact ey, t⟩
theorem zg_next {k : Nat} {as : List Addr} {x y : Value} {Q : Option Value → Shared → Prop} (D : ZipApart z P R i j l m) (g : Zg z P R i j l m lo xs ys k as s.heap) (hlo : lo < s.heap.objs.size) (ex : xs[k]? = some x) (ey : ys[k]? = some y) (na : ∀ a ∈ as, a ≠ z ∧ a ≠ R ∧ a ≠ i ∧ a ≠ j)
    (fin : ∀ h', Zg z P R i j l m lo xs ys (k + 1) (as ++ [s.heap.objs.size]) h' → (∀ c o, c ≠ z → c ≠ R → c ≠ i → c ≠ j → s.heap.get? c = some o → h'.get? c = some o) → Q (some (.ref s.heap.objs.size)) { s with heap := h' }) : wpAny (model prog w) A (pyNext (.ref z)) Q E s := by
  obtain ⟨a, b, cR⟩ := g.cR
  rcases g.zip with ⟨rfl, cz⟩ | ⟨T, f1, hT, cz⟩
  · have e0 : as = [] := List.eq_nil_of_length_eq_zero g.len
    subst e0
    exact wpAny_pyNext_zip_item D cz g.cP cR g.c1 g.c2 g.cl g.cm ex ey fun h' q1 q2 q3 q4 q5 q6 q7 => fin h' (zg_push D g hlo ex ey ⟨_, false, rfl, q1⟩ ⟨_, _, q2⟩ q3 q4 q5 q7 na) q7
  · obtain ⟨u, v, _, _, tT⟩ := g.fit 0 T hT
    have ty : s.TypeIs (.ref z) "zip" := ⟨_, cz, rfl⟩
    unfold pyNext
    refine wpAny_bind (wpAny_attempt (wpAny_callSpecial?_slot (name := Str.ofString "__next__") ty PySem.F.slot_zip_next (wpAny_call_entry PySem.F.slot_zip_next ty PySem.F.entry_zip_next (zo_item D cz tT g.cP g.c1 g.c2 g.cl g.cm ex ey fun h' q1 q2 q3 q4 q5 q6 => wpAny_pure ?_) (PySem.F.args_zip_next_1 _))))
    have q7 : ∀ c o, c ≠ z → c ≠ R → c ≠ i → c ≠ j → s.heap.get? c = some o → h'.get? c = some o := fun c o n1 _ n3 n4 e => q6 c o n1 n3 n4 e
    refine fin h' (zg_push D g hlo ex ey ⟨T, true, ?_, q1⟩ ⟨a, b, q6 _ _ D.TOz D.TOi1 D.TOi2 cR⟩ q2 q3 q4 q7 na) q7
    rw [List.getElem?_append_left (List.getElem?_eq_some_iff.mp hT).1]
    exact hT
theorem zg_done {k : Nat} {as : List Addr} {Q : Option Value → Shared → Prop} (hh : A.handled = none) (D : ZipApart z P R i j l m) (g : Zg z P R i j l m lo xs ys k as s.heap) (he : xs[k]? = none ∨ ys[k]? = none)
    (fin : ∀ h', (∀ c o, c ≠ z → c ≠ R → c ≠ i → c ≠ j → s.heap.get? c = some o → h'.get? c = some o) → Q none { s with heap := h' }) : wpAny (model prog w) A (pyNext (.ref z)) Q E s := by
  obtain ⟨a, b, cR⟩ := g.cR
  rcases g.zip with ⟨rfl, cz⟩ | ⟨T, f1, hT, cz⟩
  · exact wpAny_pyNext_zip_end hh D cz g.cP cR g.c1 g.c2 g.cl g.cm he fin
  · obtain ⟨u, v, _, _, tT⟩ := g.fit 0 T hT
    have ty : s.TypeIs (.ref z) "zip" := ⟨_, cz, rfl⟩
    unfold pyNext
    refine wpAny_bind (wpAny_attempt (wpAny_callSpecial?_slot (name := Str.ofString "__next__") ty PySem.F.slot_zip_next (wpAny_call_entry PySem.F.slot_zip_next ty PySem.F.entry_zip_next (zo_end hh D cz tT g.cP g.c1 g.c2 g.cl g.cm he fun h' e q1 q2 => ?_) (PySem.F.args_zip_next_1 _))))
    obtain ⟨o, ho, hc⟩ := q2
    exact wpAny_bind (wpAny_isInstance (T := "StopIteration") (b := true) ⟨o, ho, hc⟩ isSubtype_stop (wpAny_pure (fin _ fun c o n1 _ n3 n4 e => q1 c o n1 n3 n4 e)))
theorem zip_no_len : typeLookup (.type "zip") "__len__" = pure none := by rw [typeLookup_type, builtinLookup_eq_fast]; kernel_rfl
theorem zip_no_hint : typeLookup (.type "zip") "__length_hint__" = pure none := by rw [typeLookup_type, builtinLookup_eq_fast]; kernel_rfl
/-- the list under way stands apart -/
structure Ap (z P R i j l m S : Addr) : Prop where
  z : z < S
  P : P < S
  R : R < S
  i : i < S
  j : j < S
  l : l < S
  m : m < S
theorem Ap.ne {S : Addr} (a : Ap z P R i j l m S) : S ≠ z ∧ S ≠ P ∧ S ≠ R ∧ S ≠ i ∧ S ≠ j ∧ S ≠ l ∧ S ≠ m ∧ S ≤ S := ⟨Nat.ne_of_gt a.z, Nat.ne_of_gt a.P, Nat.ne_of_gt a.R, Nat.ne_of_gt a.i, Nat.ne_of_gt a.j, Nat.ne_of_gt a.l, Nat.ne_of_gt a.m, Nat.le_refl _⟩
theorem Ap.na {S : Addr} {k : Nat} {as : List Addr} {h : Heap} (a : Ap z P R i j l m S) (g : Zg z P R i j l m S xs ys k as h) : ∀ b ∈ as, b ≠ z ∧ b ≠ R ∧ b ≠ i ∧ b ≠ j := fun b hb =>
  have h1 := g.above b hb
  ⟨Nat.ne_of_gt (Nat.lt_trans a.z h1), Nat.ne_of_gt (Nat.lt_trans a.R h1), Nat.ne_of_gt (Nat.lt_trans a.i h1), Nat.ne_of_gt (Nat.lt_trans a.j h1)⟩
/-- what is there at the end -/
structure Zf (lo : Addr) (xs ys : Array Value) (n : Nat) (as : List Addr) (h : Heap) : Prop where
  len : as.length = n
  rise : as.Pairwise (· < ·)
  above : ∀ a ∈ as, lo < a
  fit : ∀ (q : Nat) (a : Addr), as[q]? = some a → ∃ x y, xs[q]? = some x ∧ ys[q]? = some y ∧ IsPair h a x y
theorem zg_loop (hh : A.handled = none) (D : ZipApart z P R i j l m) {S : Addr} (a : Ap z P R i j l m S) (res : Value) (hn : min xs.size ys.size ≤ sizeLine) {F : Result → Shared → Prop} :
    ∀ (r k : Nat) (s : Shared) (as : List Addr) (acc : Array Value) (c : Nat), min xs.size ys.size - k = r → k ≤ min xs.size ys.size → Zg z P R i j l m S xs ys k as s.heap → s.heap.get? S = some { cls := .type "list", dict := none, data := .seq acc c, slots := #[] } → acc.toList = as.map Value.ref →
    (∀ h' as' acc' c', Zf S xs ys (min xs.size ys.size) as' h' → h'.get? S = some { cls := .type "list", dict := none, data := .seq acc' c', slots := #[] } → acc'.toList = as'.map Value.ref →
      (∀ b o, b ≠ S → b ≠ z → b ≠ R → b ≠ i → b ≠ j → s.heap.get? b = some o → h'.get? b = some o) → F (.ok (.ret res)) { s with heap := h' }) →
    codeAny (model prog w) A (.builtin "list.extend.loop" ⟨[.ref S, .ref z, res], []⟩) F s := by
  have sz := a.ne
  intro r
  induction r with
  | zero =>
    intro k s as acc c hk hi g hS hacc fin
    have hin : k = min xs.size ys.size := by omega
    subst hin
    refine codeAny_builtin PySem.F.entry_extend_loop ?_
    rw [Around.under_plainId PySem.F.plain_extend_loop _]
    show wpAny _ A.in1 (pyNext (.ref z) >>= _) _ _ s
    have he : xs[min xs.size ys.size]? = none ∨ ys[min xs.size ys.size]? = none := by
      by_cases q : xs.size ≤ ys.size
      · exact .inl (by rw [Array.getElem?_eq_none]; omega)
      · exact .inr (by rw [Array.getElem?_eq_none]; omega)
    refine wpAny_bind (zg_done (A := A.in1) hh D g he fun h' kp => ?_)
    have na := a.na g
    refine wpAny_pure (fin h' as acc c ⟨g.len, g.rise, g.above, fun q b hb => ?_⟩ (kp S _ sz.1 sz.2.2.1 sz.2.2.2.1 sz.2.2.2.2.1 hS) hacc fun b o _ n1 n2 n3 n4 e => kp b o n1 n2 n3 n4 e)
    obtain ⟨x, y, e1, e2, e3⟩ := g.fit q b hb
    obtain ⟨n1, n2, n3, n4⟩ := na b (List.mem_of_getElem? hb)
    exact ⟨x, y, e1, e2, kp _ _ n1 n2 n3 n4 e3⟩
  | succ r ih =>
    intro k s as acc c hk hi g hS hacc fin
    have hx : k < xs.size := by omega
    have hy : k < ys.size := by omega
    refine codeAny_builtin PySem.F.entry_extend_loop ?_
    rw [Around.under_plainId PySem.F.plain_extend_loop _]
    show wpAny _ A.in1 (pyNext (.ref z) >>= _) _ _ s
    refine wpAny_bind (zg_next (A := A.in1) D g (Heap.lt_size hS) (Array.getElem?_eq_getElem hx) (Array.getElem?_eq_getElem hy) (a.na g) fun h1 g1 kp => ?_)
    have hS1 := kp S _ sz.1 sz.2.2.1 sz.2.2.2.1 sz.2.2.2.2.1 hS
    have al : acc.size = k := by
      have := congrArg List.length hacc
      rw [List.length_map, g.len] at this
      simpa using this
    show wpAny _ A.in1 (updateSeq S (·.push (Value.ref s.heap.objs.size)) >>= _) _ _ _
    refine wpAny_bind ?_
    have oth : ∀ b o, b ≠ S → h1.get? b = some o → (h1.update S (Obj.mapSeq (·.push (Value.ref s.heap.objs.size)))).get? b = some o := fun b o hb e => (Heap.get?_update_other _ _ (Ne.symm hb)).trans e
    refine wpAny_updateSeq hS1 rfl (wpAny_pure ⟨plainId_quiet PySem.F.plain_extend_loop _, ih (k + 1) { s with heap := h1.update S (Obj.mapSeq (·.push (Value.ref s.heap.objs.size))) } (as ++ [s.heap.objs.size]) (acc.push (.ref s.heap.objs.size)) _ (by omega) (by omega) (g1.upd S sz oth) (Heap.get?_update_self _ hS1 rfl) (by simp [hacc]) fun h' as' acc' c' q1 q2 q3 q4 => ?_⟩) (by rw [al]; omega) (by show (acc.push _).size ≤ sizeLine + 1; rw [Array.size_push, al]; omega)
    exact fin h' as' acc' c' q1 q2 q3 fun b o n0 n1 n2 n3 n4 e => q4 b o n0 n1 n2 n3 n4 (oth b o n0 (kp b o n1 n2 n3 n4 e))
theorem zg_extend (hh : A.handled = none) (D : ZipApart z P R i j l m) {S : Addr} (a : Ap z P R i j l m S) (res : Value) (hn : min xs.size ys.size ≤ sizeLine) {F : Result → Shared → Prop} {c₀ : Nat} (cz : IsZip s.heap z P R .none) (cP : IsPair s.heap P (.ref i) (.ref j)) (cR : ∃ u v, IsPair s.heap R u v)
    (c1 : s.heap.IsListIter i l 0) (c2 : s.heap.IsListIter j m 0) (cl : s.heap.IsList l xs) (cm : s.heap.IsList m ys) (hS : s.heap.get? S = some { cls := .type "list", data := .seq #[] c₀ })
    (fin : ∀ h' as' acc' c', Zf S xs ys (min xs.size ys.size) as' h' → h'.get? S = some { cls := .type "list", dict := none, data := .seq acc' c', slots := #[] } → acc'.toList = as'.map Value.ref →
      (∀ b o, b ≠ S → b ≠ z → b ≠ R → b ≠ i → b ≠ j → s.heap.get? b = some o → h'.get? b = some o) → F (.ok (.ret res)) { s with heap := h' }) :
    wpAny (model prog w) A.in1 (Builtin.List.listExtendWith (.ref S) (.ref z) res)
      (fun fin s' => match fin with | .done f => F (.ok f) s' | .again c' => c'.quiet = true ∧ codeAny (model prog w) A c' F s') (fun e s' => F (.error e) s') s := by
  have sz := a.ne
  have ty : s.TypeIs (.ref z) "zip" := ⟨_, cz, rfl⟩
  unfold Builtin.List.listExtendWith
  refine wpAny_bind (wpAny_typeOf ty ?_)
  have h1 : Builtin.List.listSameRef (.ref S) (.ref z) = false := by simp [Builtin.List.listSameRef, sz.1]
  have h2 : (Value.type "zip" == Value.type "list") = false := by decide
  have h3 : (Value.type "zip" == Value.type "tuple") = false := by decide
  simp only [h1, h2, h3, Bool.or_false, Bool.false_eq_true, if_false]
  refine wpAny_bind (wpAny_pyIter_zip cz (wpAny_bind (wpAny_holding ?_)))
  unfold Builtin.List.listLengthHint
  refine wpAny_bind (wpAny_specialOf ty zip_no_len ?_)
  show wpAny _ A.in1 (specialOf (Value.ref z) (Str.ofString "__length_hint__") >>= _) _ _ _
  refine wpAny_bind (wpAny_specialOf ty zip_no_hint (wpAny_pure ?_))
  show wpAny _ A.in1 (rule "list.extend.makes-room" >>= fun _ => Builtin.List.listTouch (.ref S) >>= fun _ => again (.builtin "list.extend.loop" ⟨[.ref S, .ref z, res], []⟩)) _ _ _
  refine wpAny_bind (wpAny_rule (wpAny_bind ?_))
  show wpAny _ A.in1 (updateSeq S (·.push .none) >>= fun _ => updateSeq S (·.pop)) _ _ _
  refine wpAny_bind (wpAny_updateSeq hS rfl ?_)
  have u1 := Heap.get?_update_self (Obj.mapSeq (·.push Value.none)) hS rfl
  refine wpAny_updateSeq (hz := by seq_fits) u1 rfl ?_
  have u2 := Heap.get?_update_self (Obj.mapSeq (·.pop)) u1 rfl
  have oth : ∀ b o, b ≠ S → s.heap.get? b = some o → ((s.heap.update S (Obj.mapSeq (·.push Value.none))).update S (Obj.mapSeq (·.pop))).get? b = some o := fun b o hb e => (Heap.get?_update_other _ _ (Ne.symm hb)).trans ((Heap.get?_update_other _ _ (Ne.symm hb)).trans e)
  have g0 : Zg z P R i j l m S xs ys 0 [] s.heap := ⟨.inl ⟨rfl, cz⟩, cP, cR, c1, c2, cl, cm, rfl, .nil, fun _ h => by simp at h, fun q b h => by simp at h⟩
  refine wpAny_pure ⟨plainId_quiet PySem.F.plain_extend_loop _, zg_loop hh D a res hn _ 0 { s with heap := (s.heap.update S (Obj.mapSeq (·.push Value.none))).update S (Obj.mapSeq (·.pop)) } [] #[] _ rfl (Nat.zero_le _) (g0.upd S sz oth) u2 rfl fun h' as' acc' c' q1 q2 q3 q4 => ?_⟩
  exact fin h' as' acc' c' q1 q2 q3 fun b o n0 n1 n2 n3 n4 e => q4 b o n0 n1 n2 n3 n4 (oth b o n0 e)
theorem zg_init (hh : A.handled = none) (D : ZipApart z P R i j l m) {S : Addr} (a : Ap z P R i j l m S) (hn : min xs.size ys.size ≤ sizeLine) {F : Result → Shared → Prop} (cz : IsZip s.heap z P R .none) (cP : IsPair s.heap P (.ref i) (.ref j)) (cR : ∃ u v, IsPair s.heap R u v)
    (c1 : s.heap.IsListIter i l 0) (c2 : s.heap.IsListIter j m 0) (cl : s.heap.IsList l xs) (cm : s.heap.IsList m ys) (hS : s.heap.get? S = some { cls := .type "list", data := .seq #[] })
    (fin : ∀ h' as' acc' c', Zf S xs ys (min xs.size ys.size) as' h' → h'.get? S = some { cls := .type "list", dict := none, data := .seq acc' c', slots := #[] } → acc'.toList = as'.map Value.ref →
      (∀ b o, b ≠ S → b ≠ z → b ≠ R → b ≠ i → b ≠ j → s.heap.get? b = some o → h'.get? b = some o) → F (.ok (.ret .none)) { s with heap := h' }) :
    wpAny (model prog w) A.in1 (Builtin.«list.__init__» ⟨[.ref S, .ref z], []⟩)
      (fun fin s' => match fin with | .done f => F (.ok f) s' | .again c' => c'.quiet = true ∧ codeAny (model prog w) A c' F s') (fun e s' => F (.error e) s') s := by
  have sz := a.ne
  show wpAny _ A.in1 (do let old ← Builtin.List.listItems (.ref S); Builtin.List.listUpdate (.ref S) (fun _ => #[]); letGo old.toList.reverse; Builtin.List.listExtendWith (.ref S) (.ref z) .none) _ _ s
  refine wpAny_bind ?_
  unfold Builtin.List.listItems
  refine wpAny_bind (wpAny_seqItems hS rfl (wpAny_pure ?_))
  show wpAny _ A.in1 (updateSeq S (fun _ => #[]) >>= fun _ => letGo (#[] : Array Value).toList.reverse >>= fun _ => Builtin.List.listExtendWith (.ref S) (.ref z) .none) _ _ s
  refine wpAny_bind (wpAny_updateSeq hS rfl ?_)
  have u1 := Heap.get?_update_self (Obj.mapSeq (fun _ => (#[] : Array Value))) hS rfl
  have oth : ∀ b o, b ≠ S → s.heap.get? b = some o → (s.heap.update S (Obj.mapSeq (fun _ => (#[] : Array Value)))).get? b = some o := fun b o hb e => (Heap.get?_update_other _ _ (Ne.symm hb)).trans e
  have g0 : Zg z P R i j l m S xs ys 0 [] s.heap := ⟨.inl ⟨rfl, cz⟩, cP, cR, c1, c2, cl, cm, rfl, .nil, fun _ h => by simp at h, fun q b h => by simp at h⟩
  have g1 := g0.upd S sz oth
  have cz1 : IsZip (s.heap.update S (Obj.mapSeq (fun _ => (#[] : Array Value)))) z P R .none := oth _ _ sz.1.symm cz
  refine wpAny_bind (wpAny_letGo (zg_extend (s := { s with heap := s.heap.update S (Obj.mapSeq (fun _ => (#[] : Array Value))) }) hh D a .none hn cz1 g1.cP g1.cR g1.c1 g1.c2 g1.cl g1.cm u1 fun h' as' acc' c' q1 q2 q3 q4 => ?_))
  exact fin h' as' acc' c' q1 q2 q3 fun b o n0 n1 n2 n3 n4 e => q4 b o n0 n1 n2 n3 n4 (oth b o n0 e)
theorem zg_call (hh : A.handled = none) (D : ZipApart z P R i j l m) (hn : min xs.size ys.size ≤ sizeLine) {Q : Value → Shared → Prop} (cz : IsZip s.heap z P R .none) (cP : IsPair s.heap P (.ref i) (.ref j)) (cR : ∃ u v, IsPair s.heap R u v)
    (c1 : s.heap.IsListIter i l 0) (c2 : s.heap.IsListIter j m 0) (cl : s.heap.IsList l xs) (cm : s.heap.IsList m ys)
    (fin : ∀ h' as' acc' c', Zf s.heap.objs.size xs ys (min xs.size ys.size) as' h' → h'.get? s.heap.objs.size = some { cls := .type "list", dict := none, data := .seq acc' c', slots := #[] } → acc'.toList = as'.map Value.ref →
      (∀ b o, b ≠ z → b ≠ R → b ≠ i → b ≠ j → s.heap.get? b = some o → h'.get? b = some o) → Q (.ref s.heap.objs.size) { s with heap := h' }) :
    wpAny (model prog w) A (call (.type "list") [.ref z]) Q E s := by
  refine callType_codes (Q₁ := fun obj s₁ => obj = .ref s.heap.objs.size ∧ s₁ = { s with heap := s.heap.push { cls := .type "list", data := .seq #[] } }) PySem.F.called_list (PySem.F.typeCall_list_1 _) PySem.F.entry_list_init (code_list_new _ ⟨rfl, rfl⟩) fun obj s₁ h₁ => ?_
  obtain ⟨rfl, rfl⟩ := h₁
  have hS : (s.heap.push { cls := .type "list", data := .seq #[] }).get? s.heap.objs.size = some { cls := .type "list", data := .seq #[] } := Heap.get?_push_size _ rfl
  obtain ⟨u, v, cR'⟩ := cR
  have a : Ap z P R i j l m s.heap.objs.size := ⟨Heap.lt_size cz, Heap.lt_size cP, Heap.lt_size cR', let ⟨_, e, _⟩ := c1; Heap.lt_size e, let ⟨_, e, _⟩ := c2; Heap.lt_size e, let ⟨_, e, _⟩ := cl; Heap.lt_size e, let ⟨_, e, _⟩ := cm; Heap.lt_size e⟩
  refine ⟨⟨_, hS, rfl⟩, PySem.F.args_list_init_2 _ _, zg_init (A := A.in1) (s := { s with heap := s.heap.push { cls := .type "list", data := .seq #[] } }) hh D a hn (Heap.get?_push_of_some _ cz) (Heap.get?_push_of_some _ cP) ⟨u, v, Heap.get?_push_of_some _ cR'⟩ (c1.at fun o e => Heap.get?_push_of_some _ e) (c2.at fun o e => Heap.get?_push_of_some _ e) (cl.push _) (cm.push _) hS fun h' as' acc' c' q1 q2 q3 q4 => ?_⟩
  exact ⟨rfl, fin h' as' acc' c' q1 q2 q3 fun b o n1 n2 n3 n4 e => q4 b o (Nat.ne_of_lt (Heap.lt_size e)) n1 n2 n3 n4 (Heap.get?_push_of_some _ e)⟩
end
/-! the new tuples are known from now on -/
def putP : Hp → List Addr → List (V × V) → Hp
  | H, a :: as, p :: ps => putP (upd H a (.tup [p.1, p.2])) as ps
  | H, _, _ => H
theorem putP_off {b : Addr} : ∀ (as : List Addr) (ps : List (V × V)) (H : Hp), b ∉ as → putP H as ps b = H b
  | [], ps, H, _ => by cases ps <;> rfl
  | a :: as, [], H, _ => rfl
  | a :: as, p :: ps, H, h => by
    rw [putP, putP_off as ps _ (fun z => h (List.mem_cons_of_mem _ z)), upd_ne (fun z => h (by rw [z]; exact List.mem_cons_self))]
theorem putP_at : ∀ (as : List Addr) (ps : List (V × V)) (H : Hp), as.length = ps.length → as.Nodup → Paired (fun (t : Addr) (p : V × V) => putP H as ps t = some (.tup [p.1, p.2])) as ps
  | [], [], H, _, _ => .nil
  | [], _ :: _, H, h, _ => by simp at h
  | _ :: _, [], H, h, _ => by simp at h
  | a :: as, p :: ps, H, h, nd => by
    obtain ⟨n1, n2⟩ := List.nodup_cons.mp nd
    refine .cons ?_ (putP_at as ps _ (by simpa using h) n2)
    rw [putP, putP_off as ps _ n1, upd_same]
section
variable {X : Cx}
theorem zip_laid {pins : List (Addr × Obj)} {σ : L2.St} {H : Hp} {s : Shared} {h' : Heap} {tk : Nat} {xs ys : List V} {vs ws : List Value} {acc : Array Value} {c : Nat} {as : List Addr} {S : Addr} (I : Inv X pins σ H s) (hz : xs.length ≤ sizeLine) (rx : Vals xs vs) (ry : Vals ys ws)
    (h0 : s.heap.objs.size ≤ S) (hk : ∀ b o, s.heap.get? b = some o → h'.get? b = some o) (hS : h'.get? S = some { cls := .type "list", dict := none, data := .seq acc c, slots := #[] }) (f : Zf S vs.toArray ws.toArray (min vs.toArray.size ws.toArray.size) as h') (hacc : acc.toList = as.map Value.ref) :
    ∃ H' : Hp, (∀ b o, H b = some o → H' b = some o) ∧ H S = none ∧ H' S = some (.lst (as.map V.ref)) ∧ Paired (fun (t : Addr) (q : V × V) => H' t = some (.tup [q.1, q.2])) as (xs.zip ys) ∧ Inv X pins σ H' { s with heap := h', toks := tk } := by
  have lx := rx.length
  have ly := ry.length
  have la : as.length = (xs.zip ys).length := by
    rw [f.len, List.length_zip]
    simp [lx, ly]
  have hSn : S ∉ as := fun z => Nat.lt_irrefl _ (f.above _ z)
  have nd : as.Nodup := List.Pairwise.imp (fun {a b} (h : a < b) => Nat.ne_of_lt h) f.rise
  have up : ∀ t ∈ as, s.heap.objs.size ≤ t := fun t ht => Nat.le_trans h0 (Nat.le_of_lt (f.above t ht))
  have new : ∀ t ∈ as, H t = none := fun t ht => I.hok.fresh (up t ht)
  have newS : H S = none := I.hok.fresh h0
  have atP := putP_at as (xs.zip ys) (upd H S (.lst (as.map V.ref))) la nd
  have off : ∀ b, b ∉ as → b ≠ S → putP (upd H S (.lst (as.map V.ref))) as (xs.zip ys) b = H b := fun b h1 h2 => by rw [putP_off as _ _ h1, upd_ne h2]
  have low : ∀ b o, s.heap.get? b = some o → b ∉ as ∧ b ≠ S := fun b o e => ⟨fun z => absurd (Heap.lt_size e) (Nat.not_lt.mpr (up b z)), fun z => absurd (Heap.lt_size e) (Nat.not_lt.mpr (by rw [z]; exact h0))⟩
  have kp : ∀ b u, H b = some u → (putP (upd H S (.lst (as.map V.ref))) as (xs.zip ys)) b = some u := fun b u e => by
    rw [off b (fun z => by rw [new b z] at e; cases e) (fun z => by rw [z, newS] at e; cases e)]
    exact e
  have eS : putP (upd H S (.lst (as.map V.ref))) as (xs.zip ys) S = some (.lst (as.map V.ref)) := by rw [putP_off as _ _ hSn, upd_same]
  refine ⟨putP (upd H S (.lst (as.map V.ref))) as (xs.zip ys), kp, newS, eS, atP, ?_⟩
  refine I.call' (ch := []) rfl ⟨fun b o q _ _ _ => hk b o q, fun b o q _ _ _ => ⟨o.slots, hk b o q⟩, fun b o q n _ => ?_, fun b o q _ => ⟨o, hk b o q⟩, fun b xs q => kp b _ q, fun b o u q => kp b _ q, fun b ps q => ⟨#[], by rw [kp b _ q]; simp⟩⟩ (fun b u q => ?_) I.bare fun b z => by simp at z
  · obtain ⟨z1, z2⟩ := low b o q
    rw [off b z1 z2]
    exact n
  · by_cases hb : b ∈ as
    · obtain ⟨q', pk, e1, e2, e3⟩ := LiI.paired_ix atP hb
      rw [e3] at q
      cases q
      obtain ⟨x, y, f1, f2, f3⟩ := f.fit q' b e1
      obtain ⟨z1, z2⟩ := List.getElem?_zip_eq_some.mp e2
      obtain ⟨u1, g1, g2⟩ := rx.get z1
      obtain ⟨u2, g3, g4⟩ := ry.get z2
      simp at f1 f2
      rw [f1] at g1
      rw [f2] at g3
      cases g1; cases g3
      exact ⟨by show 2 ≤ sizeLine; decide, [x, y], .cons g2 (.cons g4 .nil), ⟨_, f3, rfl, _, rfl⟩⟩
    · by_cases hb2 : b = S
      · rw [hb2] at q ⊢
        rw [eS] at q
        cases q
        refine ⟨by rw [List.length_map, la, List.length_zip]; omega, acc.toList, c, by rw [hacc]; exact LiI.vals_refs as, ?_⟩
        rw [Array.toArray_toList]
        exact hS
      · rw [off b hb hb2] at q
        exact (I.hok b u q).stay (fun d v _ y => hk d v y) (fun d y => kp d _ y) fun d xs y => kp d _ y
def tListZip (K : PySem.W.Frag) (ta : TA) : TE := fun σ H Q => ta σ H fun vs H1 => ∃ a b xs ys, vs = [.ref a, .ref b] ∧ SqL K H1 a xs ∧ SqL K H1 b ys ∧
  ∀ (H' : Hp) (p : Addr) (ts : List Addr), (∀ b o, H1 b = some o → H' b = some o) → H1 p = none → H' p = some (.lst (ts.map V.ref)) → Paired (fun (t : Addr) (q : V × V) => H' t = some (.tup [q.1, q.2])) ts (xs.zip ys) → Q (.ref p) H'
theorem pe_listZip {e e2 : Expr} {ta : TA} {p p2 cpos pos : Pos} (hc : X.calm = true) (ha : PA X [e, e2] ta) (hg : Gl X "list") (hm : X.mg "list" = none) (hv : bootBuiltins "list" = some (.type "list")) (hg2 : Gl X "zip") (hm2 : X.mg "zip" = none)
    (hs : starEach [.Call (.Name "zip" p2) [e, e2] [] cpos] X.env = (false, eval (.Call (.Name "zip" p2) [e, e2] [] cpos) X.env) :: starEach [] X.env := by rfl)
    (hs2 : starEach [e, e2] X.env = (false, eval e X.env) :: starEach [e2] X.env := by rfl) (hpl : (backTo cpos (starEach [e2] X.env)).any (·.1) = false := by rfl) :
    PE X (.Call (.Name "list" p) [.Call (.Name "zip" p2) [e, e2] [] cpos] [] pos) (tListZip X.K ta) := by
  refine ⟨fun pins s σ H Q I hq => ?_⟩
  refine wpAny_Call_Name_kw (ld_blt I hg hm hv ?_)
  refine PyProof.Rows.callWith_type1 ?_ hs rfl
  rw [hs]
  show wpAny _ _ (spliced ((false, eval (.Call (.Name "zip" p2) [e, e2] [] cpos) X.env) :: backTo pos (starEach [] X.env))) _ _ s
  refine Calls.spliced_cons ?_
  refine Call_ (ld_blt I hg2 hm2 PyProof.Rows.boot_zip (PyProof.Rows.callWith_type1 (thn (ha.run cpos pins s σ H _ I hq) fun us s1 ⟨vs, H1, I1, r1, a, b, xs, ys, ev, g1, g2, q⟩ => ?_) hs2 hpl))
  subst ev
  cases r1 with
  | cons r rr =>
    cases rr with
    | cons r' rr =>
      cases rr
      cases r
      cases r'
      obtain ⟨its, rv, p1, z1⟩ := I1.list g1
      obtain ⟨its2, rv2, p2, z2⟩ := I1.list g2
      have l1 := rv.length
      have l2 := rv2.length
      refine call_zip_2 p1.isList p2.isList fun h' hz hTI hTO i1 i2 hsz hk => ?_
      refine Calls.spliced_nil ?_
      have D := PySem.W.ktu_apart s1.heap.objs.size a b p1.lt p2.lt
      have kl : h'.IsList a its.toArray := let ⟨o, ho, r⟩ := p1.isList; ⟨o, hk _ _ ho, r⟩
      have km : h'.IsList b its2.toArray := let ⟨o, ho, r⟩ := p2.isList; ⟨o, hk _ _ ho, r⟩
      refine zg_call (s := { s1 with heap := h' }) (I1.ok.hd hc) D (by rw [List.size_toArray, List.size_toArray]; omega) hz hTI ⟨_, _, hTO⟩ i1 i2 kl km fun h2 as acc c f hS hacc kp => ?_
      have kp2 : ∀ b o, s1.heap.get? b = some o → h2.get? b = some o := fun b o e => by
        have lt := Heap.lt_size e
        exact kp b o (Nat.ne_of_lt (Nat.lt_of_lt_of_le lt (Nat.le_add_right _ _))) (Nat.ne_of_lt (Nat.lt_of_lt_of_le lt (Nat.le_add_right _ _))) (Nat.ne_of_lt lt) (Nat.ne_of_lt (Nat.lt_of_lt_of_le lt (Nat.le_add_right _ _))) (hk b o e)
      obtain ⟨H', k1, k2, k3, k4, J⟩ := zip_laid (tk := s1.toks) (S := h'.objs.size) I1 z1 rv rv2 (by omega) kp2 hS f hacc
      exact ⟨.ref _, H', J, rfl, q H' _ as k1 k2 k3 k4⟩
end
def zipLD : List D → Sto → R D
  | [.obj m, .obj n], st => (match seqOf st m, seqOf st n with | some xs, some ys => new (.lst (pairs xs ys)) st | _, _ => .stuck)
  | _, _ => .stuck
section
variable {g : Gd} {X : Cx} {W : WX}
theorem zip_rds {α α' : List Addr} {H H' : Hp} (e : Ext α H α' H') : ∀ {xs ys : List D} {us vs : List V} {ts : List Addr}, RDs g α H xs us → RDs g α H ys vs → Paired (fun (t : Addr) (q : V × V) => H' t = some (.tup [q.1, q.2])) ts (us.zip vs) → RDs g α' H' (pairs xs ys) (ts.map V.ref)
  | [], ys, us, vs, ts, r, r2, p => by
    cases r
    cases p
    exact RDs.nil
  | x :: xs, [], us, vs, ts, r, r2, p => by
    obtain ⟨u, r', rfl, h1, h2⟩ := r
    cases r2
    cases p
    exact RDs.nil
  | x :: xs, y :: ys, us, vs, ts, r, r2, p => by
    obtain ⟨u, r', rfl, h1, h2⟩ := r
    obtain ⟨v, r3, rfl, h3, h4⟩ := r2
    rw [List.zip_cons_cons] at p
    cases p with
    | cons q1 q2 =>
      exact RDs.cons ⟨_, _, rfl, .inl (.inl q1), RDs.cons (h1.mono e) (RDs.cons (h3.mono e) RDs.nil)⟩ (zip_rds e h2 h4 q2)
theorem oe_listZip (c : Ck g X W) {e e2 : Expr} {G : DA} {p p2 cpos pos : Pos} (h : OA g X W [e, e2] G) (hm : g.mg "list" = none) (hv : bootBuiltins "list" = some (.type "list")) (hm2 : g.mg "zip" = none) (hg : L2.Gl X "list" := by rfl) (hg2 : L2.Gl X "zip" := by rfl)
    (hs : starEach [.Call (.Name "zip" p2) [e, e2] [] cpos] X.env = (false, eval (.Call (.Name "zip" p2) [e, e2] [] cpos) X.env) :: starEach [] X.env := by rfl)
    (hs2 : starEach [e, e2] X.env = (false, eval e X.env) :: starEach [e2] X.env := by rfl) (hpl : (backTo cpos (starEach [e2] X.env)).any (·.1) = false := by rfl) :
    OE g X W (.Call (.Name "list" p) [.Call (.Name "zip" p2) [e, e2] [] cpos] [] pos) (eCall zipLD G) :=
  ofE (pe_listZip c.calm h hg (by rw [c.hmg]; exact hm) hv hg2 (by rw [c.hmg]; exact hm2) hs hs2 hpl) fun σ H Q ⟨α, env, st, hE, hS, p⟩ => by
    refine ⟨α, env, st, hE, hS, p.bind.imp fun ds st1 α1 H1 x1 s1 q vs r => ?_⟩
    unfold zipLD at q
    split at q
    · rename_i m n
      obtain ⟨v1, _, rfl, r1, v2, _, rfl, r2, rfl⟩ := r
      split at q
      · rename_i xs ys e1 e2
        obtain ⟨a, us, rfl, ha, h1, k1⟩ := s1.seq r1 e1
        obtain ⟨b, ws, rfl, hb, h2, k2⟩ := s1.seq r2 e2
        rw [c.hK]
        refine ⟨a, b, us, ws, rfl, h1, h2, fun H' p ts kp hp hL hP => ?_⟩
        have ex : Ext α1 H1 (α1 ++ [p]) H' := ⟨⟨[p], rfl⟩, fun b u e _ => kp b u e, fun b hb n => by
          have : b = p := by simpa [n] using hb
          subst this; exact hp, fun b xs e => kp _ _ e, fun b w u e => kp _ _ e⟩
        have hp' := s1.notin hp
        have ln := s1.len
        refine q (α1 ++ [p]) H' ex ⟨by simp [s1.len], by
          rw [List.nodup_append]
          refine ⟨s1.nd, by simp, fun a ha b hb => ?_⟩
          rintro rfl
          have : a = p := by simpa using hb
          subst this
          exact hp' ha, fun m b x e1 e2 => ?_⟩ _ ⟨p, rfl, by rw [List.getElem?_append_right (by omega), ← ln]; simp⟩
        by_cases hn : m < α1.length
        · rw [List.getElem?_append_left hn] at e1
          rw [List.getElem?_append_left (by rw [← ln]; exact hn)] at e2
          have o := s1.ob m b x e1 e2
          obtain ⟨u, hu⟩ := o.some
          exact o.away ex ((kp _ _ hu).trans hu.symm)
        · have hn' : m = α1.length := by
            have := (List.getElem?_eq_some_iff.mp e1).1
            simp at this
            omega
          subst hn'
          simp at e1
          rw [ln] at e2
          simp at e2
          subst e1 e2
          exact ⟨_, hL, zip_rds ex k1 k2 hP⟩
      · exact q.elim
    · exact q.elim
end
theorem zipL_ok {m n : Nat} {xs ys : List D} {st : Sto} (h1 : st[m]? = some (.lst xs)) (h2 : st[n]? = some (.lst ys)) : zipLD [.obj m, .obj n] st = .ok (.obj st.length) (st ++ [.lst (pairs xs ys)]) := by
  unfold zipLD
  simp only [seq_lst h1, seq_lst h2]
  rfl
end Mi

namespace Mi
open PySem L2

/-! the defs of the text (printed by wip/gen2.py) -/
abbrev FUEL : Nat := 1000000
abbrev i_is_name : Nat := 0
abbrev i_is_lead : Nat := 1
abbrev i_leads_in : Nat := 2
abbrev i_led_anew : Nat := 3
abbrev i__law_feed : Nat := 4
abbrev i__law_take : Nat := 5
abbrev i__law_thing : Nat := 6
abbrev i__law_boxnames : Nat := 7
abbrev i__law_leading : Nat := 8
abbrev i__law_leads : Nat := 9
abbrev i__law_led : Nat := 10
abbrev i__law_right : Nat := 11
abbrev i__law_turn : Nat := 12
abbrev i_law : Nat := 13
def b_is_name (Φ : Fam) : DS :=
  sSeq (sRet (eAnd (e1 (isiD .str) (eVar 0)) (eAnd (eChain leD leD (eC (.int 1)) (eCall lenB (aCons (eVar 0) (aNil))) (eC (.int (8)))) (eCall allL (lComp [1] (.nm 1) (iVal (eVar 0)) (cYes) (e2 inD (eVar 1) (eC (.str "abcdefghijklmnopqrstuvwxyz"))))))))
    (sNil)
def b_is_lead (Φ : Fam) : DS :=
  sSeq (sRet (eAnd (e1 (isiD .tuple) (eVar 0)) (eAnd (e2 eqD (eCall lenB (aCons (eVar 0) (aNil))) (eC (.int 2))) (eAnd (e1 (isiD .str) (e2 ixD (eVar 0) (eC (.int 0)))) (eAnd (e2 eqD (e2 ixD (eVar 0) (eC (.int 0))) (eC (.str "to"))) (eCall (Φ i_is_name) (aCons (e2 ixD (eVar 0) (eC (.int 1))) (aNil))))))))
    (sNil)
def b_leads_in (Φ : Fam) : DS :=
  sSeq (sIf (tst (eCall (Φ i_is_lead) (aCons (eVar 0) (aNil)))) (sSeq (sRet (eLst (aCons (e2 ixD (eVar 0) (eC (.int 1))) (aNil))))
    (sNil)) (sNil))
    (sSeq (sIf (bNot (tst (e1 (isiD .tuple) (eVar 0)))) (sSeq (sRet (eLst (aNil)))
    (sNil)) (sNil))
    (sSeq (sRet (eComp2 [1, 2] (.nm 1) (iVal (eVar 0)) (cYes) [2] (.nm 2) (iVal (eCall (Φ i_leads_in) (aCons (eVar 1) (aNil)))) (cYes) (eVar 2)))
    (sNil)))
def b_led_anew (Φ : Fam) : DS :=
  sSeq (sIf (tst (eCall (Φ i_is_lead) (aCons (eVar 0) (aNil)))) (sSeq (sRet (eTup (aCons (eC (.str "to")) (aCons (eMt "dict" dget2M (eVar 1) (aCons (e2 ixD (eVar 0) (eC (.int 1))) (aCons (e2 ixD (eVar 0) (eC (.int 1))) (aNil)))) (aNil)))))
    (sNil)) (sNil))
    (sSeq (sIf (bNot (tst (e1 (isiD .tuple) (eVar 0)))) (sSeq (sRet (eVar 0))
    (sNil)) (sNil))
    (sSeq (sRet (eCall tupleL (lComp [2] (.nm 2) (iVal (eVar 0)) (cYes) (eCall (Φ i_led_anew) (aCons (eVar 2) (aCons (eVar 1) (aNil)))))))
    (sNil)))
def K1__law_feed (Φ : Fam) : DS :=
  sSeq (sRet (eLst (aCons (eVar 3) (aCons (e2 modD (e2 addD (e2 addD (e2 mulD (e2 modD (eVar 2) (eC (.int 2147483423))) (eC (.int 48271))) (e2 mulD (eC (.int 6151)) (eVar 1))) (eC (.int 17))) (eC (.int 2147483423))) (aCons (eC (.int 0)) (aNil))))))
    (sNil)
def K2__law_feed (Φ : Fam) : DS :=
  sSeq (sAsg (.nm 3) (eCall absB (aCons (eVar 2) (aNil))))
    (sSeq (sIf (tstB (e2 ltQ (eVar 3) (e2 powD (eC (.int 10)) (eC (.int 18))))) (sSeq (sAsg (.nm 3) (eC (.int 0)))
    (sNil)) (sNil))
    (K1__law_feed Φ))
def b__law_feed (Φ : Fam) : DS :=
  sSeq (sAsg (.nm 2) (eC (.int 0)))
    (sSeq (sIf (tstB (e2 ltQ (eVar 1) (eCall lenB (aCons (eVar 0) (aNil))))) (sSeq (sAsg (.nm 2) (e2 ixD (eVar 0) (eVar 1)))
    (sNil)) (sNil))
    (K2__law_feed Φ))
def b__law_take (Φ : Fam) : DS :=
  sSeq (sIf (tstB (e2 gtD (e2 ixD (eVar 0) (eC (.int 0))) (eC (.int 0)))) (sSeq (sAsg (.nm 2) (e2 modD (e2 ixD (eVar 0) (eC (.int 0))) (eVar 1)))
    (sSeq (sSub (e2 fdivD (e2 ixD (eVar 0) (eC (.int 0))) (eVar 1)) (eVar 0) (eC (.int 0)))
    (sSeq (sRet (eVar 2))
    (sNil)))) (sNil))
    (sSeq (sAsg (.nm 3) (e2 addD (e2 ixD (eVar 0) (eC (.int 2))) (eC (.int 1))))
    (sSeq (sSub (eVar 3) (eVar 0) (eC (.int 2)))
    (sSeq (sAsg (.nm 4) (e2 modD (e2 addD (e2 addD (e2 ixD (eVar 0) (eC (.int 1))) (e2 mulD (e2 mulD (eC (.int 40692)) (eVar 3)) (eVar 3))) (e2 mulD (eC (.int 69621)) (eVar 3))) (eC (.int 2147483647))))
    (sSeq (sAsg (.nm 4) (e2 modD (e2 addD (e2 addD (e2 mulD (eVar 4) (eVar 4)) (e2 mulD (eC (.int 39373)) (eVar 4))) (eVar 3)) (eC (.int 2147483579))))
    (sSeq (sAsg (.nm 4) (e2 modD (e2 addD (e2 mulD (eVar 4) (eVar 4)) (e2 mulD (eC (.int 16807)) (eVar 4))) (eC (.int 2147483549))))
    (sSeq (sRet (e2 modD (e2 fdivD (eVar 4) (eC (.int 64))) (eVar 1)))
    (sNil)))))))
def b__law_thing (Φ : Fam) : DS :=
  sSeq (sAsg (.nm 2) (eCall (Φ i__law_take) (aCons (eVar 0) (aCons (eC (.int 16)) (aNil)))))
    (sSeq (sIf (tstB (e2 ltQ (eVar 2) (eC (.int 6)))) (sSeq (sRet (e2 ixD (eEv (lDisp (aCons (eC (.int 0)) (aCons (eC (.int 1)) (aCons (eC (.int 2)) (aCons (eC (.int 3)) (aCons (e1 negD (eC (.int 1))) (aCons (e2 powD (eC (.int 10)) (eC (.int 30))) (aNil))))))))) (eCall (Φ i__law_take) (aCons (eVar 0) (aCons (eC (.int 6)) (aNil))))))
    (sNil)) (sNil))
    (sSeq (sIf (tstB (e2 ltQ (eVar 2) (eC (.int 9)))) (sSeq (sRet (e2 ixD (eEv (lDisp (aCons (eC (.str "")) (aCons (eC (.str "a")) (aCons (eC (.str "A")) (aCons (eC (.str "ab")) (aCons (eC (.str "b")) (aCons (eC (.str "to")) (aCons (eC (.str "none")) (aCons (eC (.str "\"\\(,")) (aNil))))))))))) (eCall (Φ i__law_take) (aCons (eVar 0) (aCons (eC (.int 8)) (aNil))))))
    (sNil)) (sNil))
    (sSeq (sIf (tstB (e2 ltQ (eVar 2) (eC (.int 12)))) (sSeq (sRet (e2 ixD (eEv (lDisp (aCons (eC .non) (aCons (eC (.bl false)) (aCons (eC (.bl true)) (aNil)))))) (e2 subD (eVar 2) (eC (.int 9)))))
    (sNil)) (sNil))
    (sSeq (sIf (bOr (tstB (e2 ltQ (eVar 2) (eC (.int 14)))) (tstB (e2 ltQ (eVar 1) (eC (.int 2))))) (sSeq (sRet (e2 subD (eCall (Φ i__law_take) (aCons (eVar 0) (aCons (eC (.int 40)) (aNil)))) (eC (.int 20))))
    (sNil)) (sNil))
    (sSeq (sRet (eCall tupleL (lComp [3] (.nm 3) (iRange1 (aCons (eCall (Φ i__law_take) (aCons (eVar 0) (aCons (eC (.int 4)) (aNil)))) (aNil))) (cYes) (eCall (Φ i__law_thing) (aCons (eVar 0) (aCons (e2 subD (eVar 1) (eC (.int 1))) (aNil)))))))
    (sNil))))))
def b__law_boxnames (Φ : Fam) : DS :=
  sSeq (sAsg (.nm 1) (eLst (aCons (eLst (aCons (eC (.str "a")) (aCons (eC (.str "b")) (aCons (eC (.str "c")) (aCons (eC (.str "d")) (aCons (eC (.str "e")) (aNil))))))) (aCons (eLst (aCons (eC (.str "to")) (aCons (eC (.str "abox")) (aCons (eC (.str "zz")) (aCons (eC (.str "abcdefgh")) (aCons (eC (.str "q")) (aNil))))))) (aCons (eLst (aCons (eC (.str "none")) (aCons (eC (.str "slot")) (aCons (eC (.str "new")) (aCons (eC (.str "on")) (aCons (eC (.str "drop")) (aNil))))))) (aNil))))))
    (sSeq (sRet (e2 ixD (e2 addD (eVar 1) (eEv (lDisp (aCons (eLst (aCons (eC (.str "aa")) (aCons (eC (.str "ab")) (aCons (eC (.str "aaa")) (aCons (eC (.str "a")) (aCons (eC (.str "abcdefg")) (aNil))))))) (aNil))))) (eCall (Φ i__law_take) (aCons (eVar 0) (aCons (eC (.int 4)) (aNil))))))
    (sNil))
def b__law_leading (Φ : Fam) : DS :=
  sSeq (sAsg (.nm 3) (eCall (Φ i__law_take) (aCons (eVar 0) (aCons (eC (.int 8)) (aNil)))))
    (sSeq (sIf (tstB (e2 ltQ (eVar 3) (eC (.int 3)))) (sSeq (sRet (eTup (aCons (eC (.str "to")) (aCons (e2 ixD (eVar 1) (eCall (Φ i__law_take) (aCons (eVar 0) (aCons (eCall lenB (aCons (eVar 1) (aNil))) (aNil))))) (aNil)))))
    (sNil)) (sNil))
    (sSeq (sIf (tstB (e2 eqD (eVar 3) (eC (.int 3)))) (sSeq (sAsg (.nm 4) (eLst (aCons (eTup (aCons (eC (.str "to")) (aNil))) (aCons (eTup (aCons (eC (.str "to")) (aCons (eC (.str "A")) (aNil)))) (aCons (eTup (aCons (eC (.str "to")) (aCons (eC (.str "ninesigns")) (aNil)))) (aCons (eTup (aCons (eC (.str "To")) (aCons (eC (.str "a")) (aNil)))) (aCons (eTup (aCons (eC (.str "to")) (aCons (eC (.str "a")) (aCons (eC (.str "b")) (aNil))))) (aCons (eTup (aCons (eC (.str "to")) (aCons (eC (.int 0)) (aNil)))) (aCons (eTup (aCons (eC (.str "to")) (aCons (eC (.str "")) (aNil)))) (aCons (eC (.str "to")) (aNil)))))))))))
    (sSeq (sRet (e2 ixD (eVar 4) (eCall (Φ i__law_take) (aCons (eVar 0) (aCons (eC (.int 8)) (aNil))))))
    (sNil))) (sNil))
    (sSeq (sIf (bAnd (tstB (e2 ltQ (eVar 3) (eC (.int 6)))) (tstB (e2 gtD (eVar 2) (eC (.int 1))))) (sSeq (sRet (eCall tupleL (lComp [5] (.nm 5) (iRange1 (aCons (eCall (Φ i__law_take) (aCons (eVar 0) (aCons (eC (.int 4)) (aNil)))) (aNil))) (cYes) (eCall (Φ i__law_leading) (aCons (eVar 0) (aCons (eVar 1) (aCons (e2 subD (eVar 2) (eC (.int 1))) (aNil))))))))
    (sNil)) (sNil))
    (sSeq (sRet (eCall (Φ i__law_thing) (aCons (eVar 0) (aCons (eCall minB (aCons (eC (.int 2)) (aCons (eVar 2) (aNil)))) (aNil)))))
    (sNil)))))
def L1__law_leads (Φ : Fam) : DS :=
  sSeq (sExpr (eMt "list" extendM (eVar 1) (aCons (eCall (Φ i__law_leads) (aCons (eVar 2) (aNil))) (aNil))))
    (sNil)
def K1__law_leads (Φ : Fam) : DS :=
  sSeq (sAsg (.nm 1) (eLst (aNil)))
    (sSeq (sFor (.nm 2) (iVal (eVar 0)) (L1__law_leads Φ))
    (sSeq (sRet (eVar 1))
    (sNil)))
def b__law_leads (Φ : Fam) : DS :=
  sSeq (sIf (bNot (tst (e1 (isiD .tuple) (eVar 0)))) (sSeq (sRet (eLst (aNil)))
    (sNil)) (sNil))
    (sSeq (sIf (bAnd (tstB (e2 eqD (eCall lenB (aCons (eVar 0) (aNil))) (eC (.int 2)))) (bAnd (tstB (e2 eqD (eCall reprQ (aCons (e2 ixD (eVar 0) (eC (.int 0))) (aNil))) (eC (.str "'to'")))) (bAnd (tst (e1 (isiD .str) (e2 ixD (eVar 0) (eC (.int 1))))) (tstB (eChain ltQ ltQ (eC (.int 0)) (eCall lenB (aCons (e2 ixD (eVar 0) (eC (.int 1))) (aNil))) (eC (.int 9))))))) (sSeq (sIf (tstB (e2 eqD (eEv (lComp [3] (.nm 3) (iVal (e2 ixD (eVar 0) (eC (.int 1)))) (tstB (e2 notInD (eVar 3) (eC (.str "abcdefghijklmnopqrstuvwxyz")))) (eVar 3))) (eEv (lDisp (aNil))))) (sSeq (sRet (eLst (aCons (e2 ixD (eVar 0) (eC (.int 1))) (aNil))))
    (sNil)) (sNil))
    (sNil)) (sNil))
    (K1__law_leads Φ))
def b__law_led (Φ : Fam) : DS :=
  sSeq (sIf (bNot (tst (e1 (isiD .tuple) (eVar 0)))) (sSeq (sRet (eVar 0))
    (sNil)) (sNil))
    (sSeq (sIf (bAnd (tstB (e2 eqD (eCall (Φ i__law_leads) (aCons (eVar 0) (aNil))) (eCall listB (aCons (eSl (eVar 0) (ePart (eC (.int 1))) eNo) (aNil))))) (bAnd (tstB (e2 eqD (eCall lenB (aCons (eVar 0) (aNil))) (eC (.int 2)))) (tstB (e2 eqD (eCall reprQ (aCons (e2 ixD (eVar 0) (eC (.int 0))) (aNil))) (eC (.str "'to'")))))) (sSeq (sRet (eTup (aCons (eC (.str "to")) (aCons (eMt "dict" dget2M (eVar 1) (aCons (e2 ixD (eVar 0) (eC (.int 1))) (aCons (e2 ixD (eVar 0) (eC (.int 1))) (aNil)))) (aNil)))))
    (sNil)) (sNil))
    (sSeq (sRet (eCall tupleL (lComp [2] (.nm 2) (iVal (eVar 0)) (cYes) (eCall (Φ i__law_led) (aCons (eVar 2) (aCons (eVar 1) (aNil)))))))
    (sNil)))
def L1__law_right (Φ : Fam) : DS :=
  sSeq (sAsg (.nm 4) (eCall (Φ i_leads_in) (aCons (eVar 0) (aNil))))
    (sSeq (sIf (tstB (e2 neD (eCall reprQ (aCons (eVar 4) (aNil))) (eCall reprQ (aCons (eCall (Φ i__law_leads) (aCons (eVar 0) (aNil))) (aNil))))) (sSeq (sRet (eC (.bl false)))
    (sNil)) (sNil))
    (sSeq (sExpr (eMt "list" appendM (eVar 4) (aCons (eC (.str "a")) (aNil))))
    (sNil)))
def b__law_right (Φ : Fam) : DS :=
  sSeq (sAsg (.nm 2) (eCall reprQ (aCons (eTup (aCons (eVar 0) (aCons (eVar 1) (aNil)))) (aNil))))
    (sSeq (sFor (.nm 3) (iRange1 (aCons (eC (.int 2)) (aNil))) (L1__law_right Φ))
    (sSeq (sIf (bOr (tstB (e2 neD (eCall reprQ (aCons (eCall (Φ i_led_anew) (aCons (eVar 0) (aCons (eVar 1) (aNil)))) (aNil))) (eCall reprQ (aCons (eCall (Φ i__law_led) (aCons (eVar 0) (aCons (eVar 1) (aNil)))) (aNil))))) (tstB (e2 neD (eCall reprQ (aCons (eCall (Φ i_led_anew) (aCons (eVar 0) (aCons (eDic0) (aNil)))) (aNil))) (eCall reprQ (aCons (eVar 0) (aNil)))))) (sSeq (sRet (eC (.bl false)))
    (sNil)) (sNil))
    (sSeq (sRet (e2 eqD (eCall reprQ (aCons (eTup (aCons (eVar 0) (aCons (eVar 1) (aNil)))) (aNil))) (eVar 2)))
    (sNil))))
def L1__law_turn (Φ : Fam) : DS :=
  sSeq (sAsg (.nm 4) (eCall (Φ i__law_leading) (aCons (eVar 0) (aCons (eVar 2) (aCons (eC (.int 3)) (aNil))))))
    (sSeq (sAsg (.nm 5) (e2 addD (eSl (eVar 2) (ePart (eCall (Φ i__law_take) (aCons (eVar 0) (aCons (eC (.int 5)) (aNil))))) eNo) (eEv (lDisp (aCons (eC (.str "x")) (aCons (eC (.str "zzzzzzzz")) (aNil)))))))
    (sSeq (sAsg (.nm 6) (eCall dictB (aCons (eCall zipLD (aCons (eVar 2) (aCons (eVar 5) (aNil)))) (aNil))))
    (sSeq (sIf (bOr (bNot (tst (eCall (Φ i__law_right) (aCons (eVar 4) (aCons (eVar 6) (aNil)))))) (bNot (tst (eCall (Φ i__law_right) (aCons (eVar 4) (aCons (eDisp [(.inr "nowhere", eC (.str "a"))]) (aNil))))))) (sSeq (sRet (eC (.bl false)))
    (sNil)) (sNil))
    (sSeq (sAsg (.nm 7) (eCall dictB (aCons (eCall zipLD (aCons (eVar 2) (aCons (e2 addD (eSl (eVar 2) (ePart (eC (.int 1))) eNo) (eSl (eVar 2) eNo (ePart (eC (.int 1))))) (aNil)))) (aNil))))
    (sSeq (sAsg (.nm 8) (eCall dictB (aCons (eCall zipLD (aCons (e2 addD (eSl (eVar 2) (ePart (eC (.int 1))) eNo) (eSl (eVar 2) eNo (ePart (eC (.int 1))))) (aCons (eVar 2) (aNil)))) (aNil))))
    (sSeq (sIf (tstB (e2 neD (eCall reprQ (aCons (eCall (Φ i_led_anew) (aCons (eCall (Φ i_led_anew) (aCons (eVar 4) (aCons (eVar 7) (aNil)))) (aCons (eVar 8) (aNil)))) (aNil))) (eCall reprQ (aCons (eVar 4) (aNil))))) (sSeq (sRet (eC (.bl false)))
    (sNil)) (sNil))
    (sNil)))))))
def b__law_turn (Φ : Fam) : DS :=
  sSeq (sAsg (.nm 1) (eCall (Φ i__law_take) (aCons (eVar 0) (aCons (eC (.int 8)) (aNil)))))
    (sSeq (sAsg (.nm 2) (eCall (Φ i__law_boxnames) (aCons (eVar 0) (aNil))))
    (sSeq (sFor (.nm 3) (iRange1 (aCons (e2 ixD (eEv (lDisp (aCons (eC (.int 20)) (aCons (eC (.int 2)) (aCons (eC (.int 10)) (aCons (eC (.int 2)) (aCons (eC (.int 30)) (aCons (eC (.int 6)) (aCons (eC (.int 14)) (aCons (eC (.int 24)) (aNil))))))))))) (eVar 1)) (aNil))) (L1__law_turn Φ))
    (sSeq (sRet (eC (.bl true)))
    (sNil))))
def L1_law (Φ : Fam) : DS :=
  sSeq (sIf (bNot (tst (eCall (Φ i__law_turn) (aCons (eCall (Φ i__law_feed) (aCons (eVar 0) (aCons (eVar 1) (aNil)))) (aNil))))) (sSeq (sRet (eC (.bl false)))
    (sNil)) (sNil))
    (sNil)
def b_law (Φ : Fam) : DS :=
  sSeq (sFor (.nm 1) (iRange1 (aCons (eCall minB (aCons (eC (.int 3)) (aCons (eCall lenB (aCons (eVar 0) (aNil))) (aNil)))) (aNil))) (L1_law Φ))
    (sSeq (sRet (eCall (Φ i__law_turn) (aCons (eLst (aCons (eC (.int 0)) (aCons (eC (.int 0)) (aCons (eC (.int 0)) (aNil))))) (aNil))))
    (sNil))
def prog (Φ : Fam) : Fam := fun f => match f with
  | 0 => runB 2 (b_is_name Φ)
  | 1 => runB 1 (b_is_lead Φ)
  | 2 => runB 3 (b_leads_in Φ)
  | 3 => runB 3 (b_led_anew Φ)
  | 4 => runB 4 (b__law_feed Φ)
  | 5 => runB 5 (b__law_take Φ)
  | 6 => runB 4 (b__law_thing Φ)
  | 7 => runB 2 (b__law_boxnames Φ)
  | 8 => runB 6 (b__law_leading Φ)
  | 9 => runB 4 (b__law_leads Φ)
  | 10 => runB 3 (b__law_led Φ)
  | 11 => runB 5 (b__law_right Φ)
  | 12 => runB 9 (b__law_turn Φ)
  | 13 => runB 2 (b_law Φ)
  | _ => fun _ _ => .stuck
theorem prog_is_name (Φ : Fam) : prog Φ i_is_name = runB 2 (b_is_name Φ) := rfl
theorem prog_is_lead (Φ : Fam) : prog Φ i_is_lead = runB 1 (b_is_lead Φ) := rfl
theorem prog_leads_in (Φ : Fam) : prog Φ i_leads_in = runB 3 (b_leads_in Φ) := rfl
theorem prog_led_anew (Φ : Fam) : prog Φ i_led_anew = runB 3 (b_led_anew Φ) := rfl
theorem prog__law_feed (Φ : Fam) : prog Φ i__law_feed = runB 4 (b__law_feed Φ) := rfl
theorem prog__law_take (Φ : Fam) : prog Φ i__law_take = runB 5 (b__law_take Φ) := rfl
theorem prog__law_thing (Φ : Fam) : prog Φ i__law_thing = runB 4 (b__law_thing Φ) := rfl
theorem prog__law_boxnames (Φ : Fam) : prog Φ i__law_boxnames = runB 2 (b__law_boxnames Φ) := rfl
theorem prog__law_leading (Φ : Fam) : prog Φ i__law_leading = runB 6 (b__law_leading Φ) := rfl
theorem prog__law_leads (Φ : Fam) : prog Φ i__law_leads = runB 4 (b__law_leads Φ) := rfl
theorem prog__law_led (Φ : Fam) : prog Φ i__law_led = runB 3 (b__law_led Φ) := rfl
theorem prog__law_right (Φ : Fam) : prog Φ i__law_right = runB 5 (b__law_right Φ) := rfl
theorem prog__law_turn (Φ : Fam) : prog Φ i__law_turn = runB 9 (b__law_turn Φ) := rfl
theorem prog_law (Φ : Fam) : prog Φ i_law = runB 2 (b_law Φ) := rfl
theorem Phi_s (n f : Nat) : Phi prog (n + 1) f = prog (Phi prog n) f := rfl
theorem Phi_is_name (n : Nat) : Phi prog (n + 1) i_is_name = runB 2 (b_is_name (Phi prog n)) := (Phi_s n _).trans (prog_is_name _)
theorem Phi_is_lead (n : Nat) : Phi prog (n + 1) i_is_lead = runB 1 (b_is_lead (Phi prog n)) := (Phi_s n _).trans (prog_is_lead _)
theorem Phi_leads_in (n : Nat) : Phi prog (n + 1) i_leads_in = runB 3 (b_leads_in (Phi prog n)) := (Phi_s n _).trans (prog_leads_in _)
theorem Phi_led_anew (n : Nat) : Phi prog (n + 1) i_led_anew = runB 3 (b_led_anew (Phi prog n)) := (Phi_s n _).trans (prog_led_anew _)
theorem Phi__law_feed (n : Nat) : Phi prog (n + 1) i__law_feed = runB 4 (b__law_feed (Phi prog n)) := (Phi_s n _).trans (prog__law_feed _)
theorem Phi__law_take (n : Nat) : Phi prog (n + 1) i__law_take = runB 5 (b__law_take (Phi prog n)) := (Phi_s n _).trans (prog__law_take _)
theorem Phi__law_thing (n : Nat) : Phi prog (n + 1) i__law_thing = runB 4 (b__law_thing (Phi prog n)) := (Phi_s n _).trans (prog__law_thing _)
theorem Phi__law_boxnames (n : Nat) : Phi prog (n + 1) i__law_boxnames = runB 2 (b__law_boxnames (Phi prog n)) := (Phi_s n _).trans (prog__law_boxnames _)
theorem Phi__law_leading (n : Nat) : Phi prog (n + 1) i__law_leading = runB 6 (b__law_leading (Phi prog n)) := (Phi_s n _).trans (prog__law_leading _)
theorem Phi__law_leads (n : Nat) : Phi prog (n + 1) i__law_leads = runB 4 (b__law_leads (Phi prog n)) := (Phi_s n _).trans (prog__law_leads _)
theorem Phi__law_led (n : Nat) : Phi prog (n + 1) i__law_led = runB 3 (b__law_led (Phi prog n)) := (Phi_s n _).trans (prog__law_led _)
theorem Phi__law_right (n : Nat) : Phi prog (n + 1) i__law_right = runB 5 (b__law_right (Phi prog n)) := (Phi_s n _).trans (prog__law_right _)
theorem Phi__law_turn (n : Nat) : Phi prog (n + 1) i__law_turn = runB 9 (b__law_turn (Phi prog n)) := (Phi_s n _).trans (prog__law_turn _)
theorem Phi_law (n : Nat) : Phi prog (n + 1) i_law = runB 2 (b_law (Phi prog n)) := (Phi_s n _).trans (prog_law _)
end Mi

namespace Mi
open PySem L2
theorem at_set {st : Sto} {n : Nat} {o : Ob} : (st.set n o)[n]? = st[n]?.map fun _ => o := by
  rw [List.getElem?_set]
  simp
  by_cases h : n < st.length <;> simp [h]
/-- what is drawn -/
def mix (M C : Int) : Int :=
  let a := (M + 40692 * (C + 1) * (C + 1) + 69621 * (C + 1)) % 2147483647
  let b := (a * a + 39373 * a + (C + 1)) % 2147483579
  (b * b + 16807 * b) % 2147483549
/-- a feed stands at r, from which at most C was counted -/
def Fd (r : Nat) (C : Int) (st : Sto) : Prop := ∃ G M K : Int, st[r]? = some (.lst [.int G, .int M, .int K]) ∧ 0 ≤ G ∧ 0 ≤ K ∧ K ≤ C
/-- all but r stays -/
def Sm (r : Nat) (st st' : Sto) : Prop := st'.length = st.length ∧ ∀ m, m ≠ r → st'[m]? = st[m]?
theorem Sm.refl {r : Nat} {st : Sto} : Sm r st st := ⟨rfl, fun _ _ => rfl⟩
theorem Sm.trans {r : Nat} {a b c : Sto} (h : Sm r a b) (k : Sm r b c) : Sm r a c := ⟨k.1.trans h.1, fun m hm => (k.2 m hm).trans (h.2 m hm)⟩
theorem Sm.set {r : Nat} {st : Sto} {o : Ob} : Sm r st (st.set r o) := ⟨by simp, fun m hm => by rw [List.getElem?_set_ne (Ne.symm hm)]⟩
/-- what a drawing tells, and leaves -/
def Dr (r : Nat) (C : Int) (b : Int) (P : D → Prop) (st : Sto) (x : R D) : Prop := ∃ d st', x = .ok d st' ∧ P d ∧ Fd r (C + b) st' ∧ Sm r st st'

/-! ### things -/
def asc (x : Str) : Prop := ∀ c ∈ x.cps.toList, c < 128
mutual
def Th : D → Prop
  | .non => True
  | .bl _ => True
  | .int i => i.natAbs < 2 ^ 240
  | .str x => asc x ∧ x.length ≤ 100
  | .tup ds => Ths ds
  | _ => False
def Ths : List D → Prop
  | [] => True
  | d :: ds => Th d ∧ Ths ds
end
mutual
def sz : D → Nat
  | .tup ds => 1 + szs ds
  | .str x => 1 + x.length
  | _ => 1
def szs : List D → Nat
  | [] => 0
  | d :: ds => sz d + szs ds
end
mutual
def dp' : D → Nat
  | .tup ds => 1 + dps' ds
  | _ => 0
def dps' : List D → Nat
  | [] => 0
  | d :: ds => max (dp' d) (dps' ds)
end
/-- a thing that is not too great -/
structure Gt (s e : Nat) (d : D) : Prop where
  th : Th d
  sz : sz d ≤ s
  dp : dp' d ≤ e
theorem Gt.mono {s e s' e' : Nat} {d : D} (h : Gt s e d) (hs : s ≤ s') (he : e ≤ e') : Gt s' e' d := ⟨h.th, Nat.le_trans h.sz hs, Nat.le_trans h.dp he⟩
theorem Ths.mem : ∀ {ds : List D}, Ths ds → ∀ d ∈ ds, Th d
  | [], _, d, h => by simp at h
  | x :: xs, h, d, hd => by
    rcases List.mem_cons.mp hd with rfl | hd
    · exact h.1
    · exact Ths.mem h.2 d hd
theorem Ths.of : ∀ {ds : List D}, (∀ d ∈ ds, Th d) → Ths ds
  | [], _ => trivial
  | x :: xs, h => ⟨h x List.mem_cons_self, Ths.of fun d hd => h d (List.mem_cons_of_mem _ hd)⟩
theorem szs_le {s : Nat} : ∀ {ds : List D}, (∀ d ∈ ds, sz d ≤ s) → szs ds ≤ ds.length * s
  | [], _ => by simp [szs]
  | x :: xs, h => by
    have h1 := h x List.mem_cons_self
    have h2 := szs_le (s := s) fun d hd => h d (List.mem_cons_of_mem _ hd)
    rw [szs, List.length_cons, Nat.add_mul]
    omega
theorem dps_le {s : Nat} : ∀ {ds : List D}, (∀ d ∈ ds, dp' d ≤ s) → dps' ds ≤ s
  | [], _ => by simp [dps']
  | x :: xs, h => by
    have h1 := h x List.mem_cons_self
    have h2 := dps_le (s := s) fun d hd => h d (List.mem_cons_of_mem _ hd)
    rw [dps']
    omega
theorem Gt.tup {s e m : Nat} {ds : List D} (h : ∀ d ∈ ds, Gt s e d) (hl : ds.length ≤ m) : Gt (1 + m * s) (1 + e) (.tup ds) := by
  refine ⟨Ths.of fun d hd => (h d hd).th, ?_, ?_⟩
  · rw [Mi.sz]
    have := szs_le (s := s) fun d hd => (h d hd).sz
    have : ds.length * s ≤ m * s := Nat.mul_le_mul_right s hl
    omega
  · rw [dp']
    have := dps_le (s := e) fun d hd => (h d hd).dp
    omega

/-! ### a comprehension that draws -/
theorem comp_draw {r : Nat} {P : D → Prop} {F : DE} {env : Env} {s : Nat} {b : Int} (hb : 0 ≤ b) (step : ∀ (d : D) (st : Sto) (C : Int), Fd r C st → C + b < 2 ^ 60 → Dr r C b P st (F (env.set s (some d)) st)) :
    ∀ (ds : List D) (st : Sto) (C : Int), Fd r C st → C + b * ds.length < 2 ^ 60 → ∃ ys st', compL [] (.nm s) cYes F env ds st = .ok ys st' ∧ ys.length = ds.length ∧ (∀ y ∈ ys, P y) ∧ Fd r (C + b * ds.length) st' ∧ Sm r st st'
  | [], st, C, h, _ => ⟨[], st, compL_nil rfl, rfl, by simp, by simpa using h, Sm.refl⟩
  | d :: ds, st, C, h, hC => by
    have e1 : (b : Int) * ((d :: ds).length : Nat) = b + b * (ds.length : Nat) := by
      rw [List.length_cons, Int.natCast_add, Int.mul_add]
      simp
      omega
    have hp : 0 ≤ b * (ds.length : Nat) := Int.mul_nonneg hb (by omega)
    rw [e1] at hC ⊢
    obtain ⟨y, st1, q1, p1, f1, s1⟩ := step d st C h (by omega)
    obtain ⟨ys, st2, q2, l2, p2, f2, s2⟩ := comp_draw hb step ds st1 (C + b) f1 (by omega)
    refine ⟨y :: ys, st2, compL_yes rfl rfl q1 q2, by simp [l2], fun z hz => ?_, ?_, s1.trans s2⟩
    · rcases List.mem_cons.mp hz with rfl | hz
      · exact p1
      · exact p2 z hz
    · rw [← Int.add_assoc]
      exact f2

/-! ### plain menus -/
theorem menu {xs : List D} {d : Int} (h0 : 0 ≤ d) (h : d < xs.length) : ∃ x ∈ xs, atI xs d = some x := by
  have hk : d.toNat < xs.length := by omega
  have e : d = (d.toNat : Int) := by omega
  rw [e, atI_nat' hk]
  exact ⟨xs[d.toNat], List.getElem_mem hk, List.getElem?_eq_getElem hk⟩

theorem lsz (n : Nat) (h : n ≤ 1000000) : n ≤ sizeLine := by rw [szL]; omega
theorem Fd.mono {r : Nat} {C C' : Int} {st : Sto} (h : Fd r C st) (hc : C ≤ C') : Fd r C' st := by
  obtain ⟨G, M, K, a, b, c, d⟩ := h
  exact ⟨G, M, K, a, b, c, by omega⟩
theorem Gt.int {s e : Nat} {i : Int} (h : i.natAbs < 2 ^ 240) (hs : 1 ≤ s) : Gt s e (.int i) := ⟨h, hs, Nat.zero_le _⟩
theorem Gt.non {s e : Nat} (hs : 1 ≤ s) : Gt s e .non := ⟨trivial, hs, Nat.zero_le _⟩
theorem Gt.bl {s e : Nat} {b : Bool} (hs : 1 ≤ s) : Gt s e (.bl b) := ⟨trivial, hs, Nat.zero_le _⟩
def ascB (x : Str) : Bool := x.cps.toList.all (fun c => decide (c < 128))
theorem asc_of {x : Str} (h : ascB x = true) : asc x := fun c hc => by
  have := List.all_eq_true.mp h c hc
  simpa using this
theorem Gt.str {s e : Nat} {x : Str} (h : (ascB x && decide (x.length ≤ 100) && decide (1 + x.length ≤ s)) = true) : Gt s e (.str x) := by
  simp only [Bool.and_eq_true, decide_eq_true_eq] at h
  exact ⟨⟨asc_of h.1.1, h.1.2⟩, h.2, Nat.zero_le _⟩
theorem upI_len (lo : Int) (n : Nat) : (upI lo n).length = n := by simp [upI]
@[simp] theorem len_str {z : Str} {st : Sto} (h : z.length ≤ sizeLine) : lenB [.str z] st = .ok (.int (z.length : Nat)) st := by unfold lenB; simp only; rw [if_pos h]
@[simp] theorem len_tup {ds : List D} {st : Sto} : lenB [.tup ds] st = .ok (.int (ds.length : Nat)) st := rfl
def oneS (c : Nat) : D := .str ⟨#[c]⟩
theorem ix_str' {z : Str} {i : Int} {st : Sto} (h : z.length ≤ sizeLine) : ixD (.str z) (.int i) st = ofO ((atI z.cps.toList i).map oneS) st := by
  show (if _ then _ else _) = _
  rw [if_pos h]
  rfl
theorem allO_str : ∀ {ys : List D} {xs : List Str}, ys = xs.map .str → allO toS ys = some xs
  | _, [], rfl => rfl
  | _, x :: xs, rfl => by
    rw [List.map_cons, allO, allO_str (xs := xs) rfl]
    rfl
theorem str_len_app (a b : Str) : (a ++ b).length = a.length + b.length := by
  show (a.cps ++ b.cps).size = _
  rw [Array.size_append]
  rfl
theorem join_len : ∀ xs : List Str, (Str.join "" xs).length = (xs.map (·.length)).sum
  | [] => rfl
  | [x] => by simp [Str.join]
  | x :: y :: r => by
    have ih := join_len (y :: r)
    have e : Str.join "" (x :: y :: r) = x ++ "" ++ Str.join "" (y :: r) := rfl
    have z : (("" : Str)).length = 0 := by decide +kernel
    rw [e, str_len_app, str_len_app, ih, z]
    simp
theorem sum_ones : ∀ cs : List Nat, (cs.map fun _ => 1).sum = cs.length
  | [] => rfl
  | c :: cs => by rw [List.map_cons, List.sum_cons, sum_ones cs, List.length_cons]; omega
theorem join_one {cs : List Nat} (h : ∀ c ∈ cs, c < 128) : asc (Txt.join "" (cs.map fun c => ⟨#[c]⟩)) ∧ (Txt.join "" (cs.map fun c => ⟨#[c]⟩)).length = cs.length := by
  have e : Txt.join "" (cs.map fun c => (⟨#[c]⟩ : Str)) = Str.join "" (cs.map fun c => ⟨#[c]⟩) := StrLaws.glued_eq_join _ _
  rw [e]
  refine ⟨fun c hc => ?_, ?_⟩
  · rcases (PyProof.Rows.mem_join "" c _).mp hc with ⟨t, ht, hct⟩ | ⟨_, z⟩
    · obtain ⟨x, hx, rfl⟩ := List.mem_map.mp ht
      have : c = x := by simpa using hct
      rw [this]
      exact h x hx
    · have : (("" : Str)).cps.toList = [] := by decide +kernel
      rw [this] at z
      simp at z
  · rw [join_len, List.map_map]
    have : ((fun (x : Str) => x.length) ∘ fun c => (⟨#[c]⟩ : Str)) = fun _ => 1 := by funext c; rfl
    rw [this]
    exact sum_ones cs
theorem strs_of : ∀ {ys : List D}, (∀ y ∈ ys, ∃ c, y = oneS c ∧ c < 128) → ∃ cs : List Nat, ys = (cs.map fun c => (⟨#[c]⟩ : Str)).map .str ∧ cs.length = ys.length ∧ ∀ c ∈ cs, c < 128
  | [], _ => ⟨[], rfl, rfl, by simp⟩
  | y :: ys, h => by
    obtain ⟨c, rfl, hc⟩ := h y List.mem_cons_self
    obtain ⟨cs, e, l, k⟩ := strs_of fun z hz => h z (List.mem_cons_of_mem _ hz)
    refine ⟨c :: cs, by rw [e]; rfl, by simp [l], fun z hz => ?_⟩
    rcases List.mem_cons.mp hz with rfl | hz
    · exact hc
    · exact k z hz
theorem join_ok {ys : List D} {st : Sto} (h : ∀ y ∈ ys, ∃ c, y = oneS c ∧ c < 128) (hl : ys.length ≤ 1000) : ∃ x : Str, joinL (.str "") ys st = .ok (.str x) st ∧ asc x ∧ x.length = ys.length := by
  obtain ⟨cs, e, l, k⟩ := strs_of h
  obtain ⟨j1, j2⟩ := join_one k
  refine ⟨_, ?_, j1, by rw [j2, l]⟩
  unfold joinL
  simp only
  rw [allO_str e]
  simp only
  rw [if_pos]
  have : ((cs.map fun c => (⟨#[c]⟩ : Str)).map (·.length)).sum = cs.length := by
    rw [List.map_map]
    have : ((fun (x : Str) => x.length) ∘ fun c => (⟨#[c]⟩ : Str)) = fun _ => 1 := by funext c; rfl
    rw [this]
    exact sum_ones cs
  have z : (("" : Str)).length = 0 := by decide +kernel
  rw [this, z]
  omega
theorem hasT_str {x : Str} {st : Sto} : hasT "str" (.str x) st = true := rfl
@[simp] theorem ap_while {fu : Nat} {C : DT} {B : DS} {env : Env} {st : Sto} : sWhile fu C B env st = whileL C B fu env st := rfl
theorem comp_map {F : DE} {env : Env} {s : Nat} {f : D → D} {st : Sto} : ∀ {ds : List D}, (∀ d ∈ ds, F (env.set s (some d)) st = .ok (f d) st) → compL [] (.nm s) cYes F env ds st = .ok (ds.map f) st
  | [], _ => compL_nil rfl
  | d :: ds, h => compL_yes rfl rfl (h d List.mem_cons_self) (comp_map fun x hx => h x (List.mem_cons_of_mem _ hx))
theorem allO_int {g : D → Int} : ∀ ds : List D, allO toI (ds.map fun d => .int (g d)) = some (ds.map g)
  | [] => rfl
  | d :: ds => by rw [List.map_cons, allO, allO_int ds]; rfl
theorem sum_map {g : D → Int} {ds : List D} {st : Sto} : sumL (ds.map fun d => .int (g d)) st = .ok (.int (ds.map g).sum) st := by
  unfold sumL; rw [allO_int]
mutual
def wi : D → Int
  | .tup ds => wis ds
  | _ => 0
def wis : List D → Int
  | [] => 0
  | d :: ds => 1 + wi d + wis ds
end
theorem wis_sum : ∀ ds : List D, (ds.map fun d => 1 + wi d).sum = wis ds
  | [] => rfl
  | d :: ds => by rw [List.map_cons, List.sum_cons, wis_sum ds, wis]
theorem dps_mem : ∀ {ds : List D} {d : D}, d ∈ ds → dp' d ≤ dps' ds
  | [], d, h => by simp at h
  | x :: xs, d, h => by
    rw [dps']
    rcases List.mem_cons.mp h with rfl | h
    · omega
    · have := dps_mem h; omega
theorem szs_len : ∀ ds : List D, ds.length ≤ szs ds
  | [] => by simp
  | d :: ds => by
    have := szs_len ds
    have : 1 ≤ sz d := by cases d <;> simp [sz] <;> omega
    rw [szs, List.length_cons]
    omega
theorem szs_mem : ∀ {ds : List D} {d : D}, d ∈ ds → sz d ≤ szs ds
  | [], d, h => by simp at h
  | x :: xs, d, h => by
    rw [szs]
    rcases List.mem_cons.mp h with rfl | h
    · omega
    · have := szs_mem h; omega
theorem cut_last {ds : List D} : cutG ds none (some (-1)) = ds.take (ds.length - 1) := by
  unfold cutG
  rw [HT.sIx_none]
  have : HT.sIx ds.length ds.length (some (-1)) = ds.length - 1 := by
    show (if (-1 : Int) < 0 then ((-1 : Int) + (ds.length : Int)).toNat else min (-1 : Int).toNat ds.length) = ds.length - 1
    rw [if_pos (by decide)]
    omega
  rw [this]
  simp
theorem szs_take (k : Nat) : ∀ ds : List D, szs (ds.take k) ≤ szs ds := by
  induction k with
  | zero => intro ds; simp [szs]
  | succ k ih =>
    intro ds
    cases ds with
    | nil => simp
    | cons d ds => simp [szs]; exact ih ds
theorem dps_take (k : Nat) : ∀ ds : List D, dps' (ds.take k) ≤ dps' ds := by
  induction k with
  | zero => intro ds; simp [dps']
  | succ k ih =>
    intro ds
    cases ds with
    | nil => simp
    | cons d ds => simp [dps']; have := ih ds; omega
theorem Ths.take (k : Nat) : ∀ {ds : List D}, Ths ds → Ths (ds.take k) := by
  intro ds h
  exact Ths.of fun d hd => h.mem d (List.mem_of_mem_take hd)
theorem Gt.take {s e k : Nat} {ds : List D} (h : Gt s e (.tup ds)) : Gt s e (.tup (ds.take k)) :=
  ⟨Ths.take k h.th, by have := h.sz; rw [Mi.sz] at this ⊢; have := szs_take k ds; omega, by have := h.dp; rw [dp'] at this ⊢; have := dps_take k ds; omega⟩

@[simp] theorem int_bl {b : Bool} {st : Sto} : intB [.bl b] st = .ok (.int (if b then 1 else 0)) st := rfl
@[simp] theorem int_int {i : Int} {st : Sto} : intB [.int i] st = .ok (.int i) st := rfl
theorem two_of {x y : D} {i : Int} (h : i = 0 ∨ i = 1) : ∃ z, atI [x, y] i = some z ∧ (i = 0 → z = x) ∧ (i = 1 → z = y) := by
  rcases h with rfl | rfl
  · exact ⟨x, rfl, fun _ => rfl, fun z => by omega⟩
  · exact ⟨y, rfl, fun z => by omega, fun _ => rfl⟩
theorem cut_to {β : Type} {ds : List β} {k : Nat} : cutG ds none (some (k : Int)) = ds.take k := by
  unfold cutG
  rw [HT.sIx_none, HT.sIx_nat]
  simp
theorem cut_from {β : Type} {ds : List β} {k : Nat} : cutG ds (some (k : Int)) none = ds.drop k := by
  unfold cutG
  rw [HT.sIx_none, HT.sIx_nat]
  by_cases h : k ≤ ds.length
  · rw [Nat.min_eq_left h]
    rw [List.take_of_length_le (by simp)]
  · rw [Nat.min_eq_right (by omega), List.drop_eq_nil_of_le (Nat.le_refl _), List.drop_eq_nil_of_le (by omega)]
    simp
theorem asc_cut {x : Str} {lo hi : Option Int} (h : asc x) : asc (cutS x lo hi) := fun c hc => by
  refine h c ?_
  have : c ∈ ((x.cps.toList.drop (HT.sIx x.length 0 lo)).take (HT.sIx x.length x.length hi - HT.sIx x.length 0 lo)) := by simpa [cutS] using hc
  exact List.mem_of_mem_drop (List.mem_of_mem_take this)
theorem asc_app {x y : Str} (h : asc x) (k : asc y) : asc (x ++ y) := fun c hc => by
  have : c ∈ (x.cps ++ y.cps).toList := hc
  rw [Array.toList_append, List.mem_append] at this
  exact this.elim (h c) (k c)
theorem Gt.str' {s e : Nat} {x : Str} (h : asc x) (hl : x.length ≤ 100) (hs : 1 + x.length ≤ s) : Gt s e (.str x) := ⟨⟨h, hl⟩, hs, Nat.zero_le _⟩
theorem szs_app : ∀ xs ys : List D, szs (xs ++ ys) = szs xs + szs ys
  | [], ys => by simp [szs]
  | x :: xs, ys => by simp only [List.cons_append, szs, szs_app xs ys]; omega
theorem dps_app : ∀ xs ys : List D, dps' (xs ++ ys) = max (dps' xs) (dps' ys)
  | [], ys => by simp [dps']
  | x :: xs, ys => by simp only [List.cons_append, dps', dps_app xs ys]; omega
theorem Ths.app : ∀ {xs ys : List D}, Ths xs → Ths ys → Ths (xs ++ ys) := fun {xs ys} h k => Ths.of fun d hd => (List.mem_append.mp hd).elim (h.mem d) (k.mem d)
/-- the digits of a number -/
theorem ofS_toList (s : String) : (Str.ofString s).cps.toList = s.toList.map Char.toNat := by
  rw [Str.ofString_eq_toList]
theorem str_int_asc (i : Int) (h : i.natAbs < 2 ^ 240) : asc (toString i : String) ∧ (Str.ofString (toString i)).length ≤ 100 := by
  refine ⟨fun c hc => ?_, ?_⟩
  · rw [ofS_toList] at hc
    obtain ⟨k, hk, rfl⟩ := List.mem_map.mp hc
    exact int_ascii i k hk
  · have e := int_text_length_le10 (a := i) (k := 80) (by decide) (Nat.lt_of_lt_of_le h (by decide))
    rw [ofString_length]
    omega
theorem up_asc {x : Str} (h : asc x) : asc (Txt.upper x) ∧ (Txt.upper x).length = x.length := by
  rw [PyProof.Rows.upper_ascii h]
  refine ⟨fun c hc => ?_, by show (x.cps.map _).size = _; rw [Array.size_map]; rfl⟩
  have : c ∈ (x.cps.map PyProof.Rows.up1).toList := hc
  rw [Array.toList_map] at this
  obtain ⟨k, hk, rfl⟩ := List.mem_map.mp this
  have := h k hk
  unfold PyProof.Rows.up1
  split <;> omega
theorem lo_asc {x : Str} (h : asc x) : asc (Txt.lower x) ∧ (Txt.lower x).length = x.length := by
  rw [PyProof.Rows.lower_ascii h]
  refine ⟨fun c hc => ?_, by show (x.cps.map _).size = _; rw [Array.size_map]; rfl⟩
  have : c ∈ (x.cps.map PyProof.Rows.lo1).toList := hc
  rw [Array.toList_map] at this
  obtain ⟨k, hk, rfl⟩ := List.mem_map.mp this
  have := h k hk
  unfold PyProof.Rows.lo1
  split <;> omega

@[simp] theorem add_tup {xs ys : List D} {st : Sto} (h : xs.length + ys.length ≤ sizeLine) : addD (.tup xs) (.tup ys) st = .ok (.tup (xs ++ ys)) st := by
  show (if _ then _ else _) = _; rw [if_pos h]
theorem add_str' {x y : Str} {st : Sto} (h : x.length + y.length ≤ sizeLine) : addD (.str x) (.str y) st = .ok (.str (x ++ y)) st := by
  show (if _ then _ else _) = _; rw [if_pos h]
@[simp] theorem sl_tup' {ds : List D} {lo hi : Option Int} {st : Sto} : slD (.tup ds) lo hi st = .ok (.tup (cutG ds lo hi)) st := rfl
theorem sl_str' {x : Str} {lo hi : Option Int} {st : Sto} (h : x.length ≤ sizeLine) : slD (.str x) lo hi st = .ok (.str (cutS x lo hi)) st := by
  show (if _ then _ else _) = _; rw [if_pos h]
theorem upper_ok {x : Str} {st : Sto} (h : x.length ≤ 5592405) : upperM (.str x) [] st = .ok (.str (Txt.upper x)) st := by unfold upperM; simp only; rw [if_pos h]
theorem lower_ok {x : Str} {st : Sto} (h : x.length ≤ 5592405) : lowerM (.str x) [] st = .ok (.str (Txt.lower x)) st := by unfold lowerM; simp only; rw [if_pos h]
theorem at6 {a0 a1 a2 a3 a4 a5 : D} {k : Int} (h0 : 0 ≤ k) (h : k < 6) : ∃ x ∈ [a0, a1, a2, a3, a4, a5], atI [a0, a1, a2, a3, a4, a5] k = some x := menu h0 h
theorem cut40 {x : Str} (h : asc x) {n : Nat} (hx : x.length ≤ n) : asc (cutS x none (some 40)) ∧ (cutS x none (some 40)).length ≤ n := ⟨asc_cut h, Nat.le_trans (cutS_length _ _ _) hx⟩
theorem cutm {x : Str} (h : asc x) {n : Nat} (hx : x.length ≤ n) : asc (cutS x none (some (-1))) ∧ (cutS x none (some (-1))).length ≤ n := ⟨asc_cut h, Nat.le_trans (cutS_length _ _ _) hx⟩
theorem cut40_len {x : Str} : (cutS x none (some 40)).length ≤ 40 := by
  show (((x.cps.toList.drop (HT.sIx x.length 0 none)).take (HT.sIx x.length x.length (some 40) - HT.sIx x.length 0 none)).toArray).size ≤ 40
  rw [List.size_toArray, List.length_take, HT.sIx_none]
  have : HT.sIx x.length x.length (some (40 : Int)) = min 40 x.length := HT.sIx_nat x.length x.length 40
  rw [this]
  omega
theorem cut_at {ds : List D} {k : Nat} (h : k < ds.length) : ds = ds.take k ++ ds[k] :: ds.drop (k + 1) := by
  rw [List.getElem_cons_drop, List.take_append_drop]
theorem Dr.mono {r : Nat} {C b b' : Int} {P P' : D → Prop} {st : Sto} {x : R D} (h : Dr r C b P st x) (hb : b ≤ b') (hp : ∀ d, P d → P' d) : Dr r C b' P' st x := by
  obtain ⟨d, st', q, p, f, s⟩ := h
  exact ⟨d, st', q, hp d p, f.mono (by omega), s⟩
mutual
def rp : D → PyData
  | .bl b => .bool b
  | .int i => .int i
  | .str x => .str x
  | .tup ds => .tuple (rps ds)
  | _ => .none
def rps : List D → List PyData
  | [] => []
  | d :: ds => rp d :: rps ds
end
theorem toPs_rp {st : Sto} {n : Nat} : ∀ {ds : List D}, (∀ d ∈ ds, toP st n d = some (rp d)) → allO (toP st n) ds = some (rps ds)
  | [], _ => rfl
  | d :: ds, h => by rw [allO, h d List.mem_cons_self, toPs_rp fun x hx => h x (List.mem_cons_of_mem _ hx)]; rfl
theorem toP_rp (st : Sto) : ∀ (n : Nat) (d : D), Th d → dp' d ≤ n → toP st n d = some (rp d) := by
  intro n
  induction n with
  | zero =>
    intro d h k
    cases d with
    | tup ds => rw [dp'] at k; omega
    | kl => exact h.elim
    | ev => exact h.elim
    | obj => exact h.elim
    | fn => exact h.elim
    | ty => exact h.elim
    | _ => rfl
  | succ n ih =>
    intro d h k
    cases d with
    | tup ds =>
      rw [dp'] at k
      rw [toP, toPs_rp fun x hx => ih x (Ths.mem h x hx) (by have := dps_mem hx; omega)]
      rfl
    | kl => exact h.elim
    | ev => exact h.elim
    | obj => exact h.elim
    | fn => exact h.elim
    | ty => exact h.elim
    | _ => rfl
mutual
theorem rp_ok : ∀ d : D, Th d → (rp d).showable = true ∧ (rp d).hasDict = false ∧ (rp d).depth ≤ dp' d ∧ (rp d).shown.length + 2 ≤ 105 * sz d
  | .non, h => by
    refine ⟨by simp [rp, PyData.showable], by simp [rp, PyData.hasDict], by simp [rp, PyData.depth], ?_⟩
    simp only [rp, PyData.shown, sz]
    decide +kernel
  | .bl b, h => by
    refine ⟨by simp [rp, PyData.showable], by simp [rp, PyData.hasDict], by simp [rp, PyData.depth], ?_⟩
    simp only [rp, PyData.shown, sz]
    cases b <;> decide +kernel
  | .int i, h => by
    have hi : i.natAbs < 2 ^ 240 := h
    have hl : i.natAbs.log2 < 1920 := by have := log_le (a := i.natAbs) (b := 240) hi (by decide); omega
    refine ⟨by simp only [rp, PyData.showable]; exact decide_eq_true hl, by simp [rp, PyData.hasDict], by simp [rp, PyData.depth], ?_⟩
    have := (str_int_asc i hi).2
    simp only [rp, PyData.shown, sz]
    omega
  | .str x, h => by
    obtain ⟨xa, xl⟩ : asc x ∧ x.length ≤ 100 := h
    refine ⟨by simp [rp, PyData.showable], by simp [rp, PyData.hasDict], by simp [rp, PyData.depth], ?_⟩
    have := StrLaws.reprText_len x (fun c hc => Nat.lt_of_lt_of_le (xa c hc) (by decide))
    simp only [rp, PyData.shown, sz]
    omega
  | .tup ds, h => by
    obtain ⟨h1, h2, h3, h4⟩ := rps_ok ds h
    refine ⟨by rw [rp, PyData.showable]; exact h1, by rw [rp, PyData.hasDict]; exact h2, ?_, ?_⟩
    · rw [rp, PyData.depth, dp']; omega
    · rw [rp, PyData.shown, sz]
      have := tupleText_len_le (PyData.shownAll (rps ds))
      omega
  | .obj _, h => h.elim
  | .fn _, h => h.elim
  | .ty _, h => h.elim
  | .kl _, h => h.elim
  | .ev _, h => h.elim
theorem rps_ok : ∀ ds : List D, Ths ds → PyData.showableAll (rps ds) = true ∧ PyData.hasDictAll (rps ds) = false ∧ PyData.depthAll (rps ds) ≤ dps' ds ∧ ((PyData.shownAll (rps ds)).map (·.length)).sum + 2 * (PyData.shownAll (rps ds)).length ≤ 105 * szs ds
  | [], _ => by simp [rps, PyData.showableAll, PyData.hasDictAll, PyData.depthAll, PyData.shownAll, szs]
  | d :: ds, h => by
    obtain ⟨a1, a2, a3, a4⟩ := rp_ok d h.1
    obtain ⟨b1, b2, b3, b4⟩ := rps_ok ds h.2
    refine ⟨by rw [rps, PyData.showableAll, a1, b1]; rfl, by rw [rps, PyData.hasDictAll, a2, b2]; rfl, ?_, ?_⟩
    · rw [rps, PyData.depthAll, dps']; omega
    · rw [rps, PyData.shownAll, szs, List.map_cons, List.sum_cons, List.length_cons]; omega
end
def rpl (ds : List D) : Str := (PyData.list (rps ds)).shown
theorem repr_p {st : Sto} {n : Nat} {ds : List D} (hn : st[n]? = some (.lst ds)) (h : Ths ds) (hs : szs ds ≤ 100000) (hd : dps' ds ≤ 60) : reprB [.obj n] st = .ok (.str (rpl ds)) st := by
  have e : toP st 66 (.obj n) = some (.list (rps ds)) := by
    rw [toP, seq_lst hn]
    dsimp only
    rw [toPs_rp fun x hx => toP_rp st 65 x (Ths.mem h x hx) (by have := dps_mem hx; omega)]
  obtain ⟨h1, h2, h3, h4⟩ := rps_ok ds h
  unfold reprB
  simp only [e]
  have : reprO (.list (rps ds)) = some (rpl ds) := by
    unfold reprO
    rw [if_pos]
    · rfl
    · refine ⟨?_, by rw [PyData.hasDict]; exact h2⟩
      rw [PyData.showable, h1, Bool.true_and, Bool.and_eq_true, decide_eq_true_eq, decide_eq_true_eq]
      refine ⟨by rw [PyData.depth]; omega, ?_⟩
      rw [PyData.shown, szL]
      have := listText_len_le (PyData.shownAll (rps ds))
      omega
  rw [this]

theorem seq_step {A B : DS} {env e : Env} {st s : Sto} (h : A env st = .nx e s) : sSeq A B env st = B e s := by
  show seqS (A env st) B = _
  rw [h]
  rfl
theorem comp_inv {w : Wat} {F : DE} {env : Env} {s N : Nat} {J : Sto → Nat → Prop} {P : D → D → Prop} (hw : ∀ st k, J st k → okW w st = true) :
    ∀ (ds : List D) (st : Sto) (k : Nat), (∀ d ∈ ds, ∀ st k, k < N → J st k → ∃ y st', F (env.set s (some d)) st = .ok y st' ∧ P d y ∧ J st' (k + 1)) → k + ds.length ≤ N → J st k →
    ∃ ys st', compL w (.nm s) cYes F env ds st = .ok ys st' ∧ ys.length = ds.length ∧ (∀ y ∈ ys, ∃ d ∈ ds, P d y) ∧ J st' (k + ds.length)
  | [], st, k, _, _, h => ⟨[], st, compL_nil (hw st k h), rfl, by simp, h⟩
  | d :: ds, st, k, step, hN, h => by
    rw [List.length_cons] at hN
    obtain ⟨y, st1, q1, p1, j1⟩ := step d List.mem_cons_self st k (by omega) h
    obtain ⟨ys, st2, q2, l2, p2, j2⟩ := comp_inv hw ds st1 (k + 1) (fun x hx => step x (List.mem_cons_of_mem _ hx)) (by omega) j1
    refine ⟨y :: ys, st2, compL_yes (hw st k h) rfl q1 q2, by simp [l2], fun z hz => ?_, ?_⟩
    · rcases List.mem_cons.mp hz with rfl | hz
      · exact ⟨d, List.mem_cons_self, p1⟩
      · obtain ⟨x, hx, p⟩ := p2 z hz
        exact ⟨x, List.mem_cons_of_mem _ hx, p⟩
    · have e : k + (d :: ds).length = k + 1 + ds.length := by rw [List.length_cons]; omega
      rw [e]
      exact j2
theorem comp_mapW {w : Wat} {F : DE} {env : Env} {s : Nat} {f : D → D} {st : Sto} (hw : okW w st = true) : ∀ {ds : List D}, (∀ d ∈ ds, F (env.set s (some d)) st = .ok (f d) st) → compL w (.nm s) cYes F env ds st = .ok (ds.map f) st
  | [], _ => compL_nil hw
  | d :: ds, h => compL_yes hw rfl (h d List.mem_cons_self) (comp_mapW hw fun x hx => h x (List.mem_cons_of_mem _ hx))
theorem comp_none {w : Wat} {C : DT} {F : DE} {env : Env} {s : Nat} {st : Sto} (hw : okW w st = true) : ∀ {ds : List D}, (∀ d ∈ ds, C (env.set s (some d)) st = .ok false st) → compL w (.nm s) C F env ds st = .ok [] st
  | [], _ => compL_nil hw
  | d :: ds, h => by
    rw [compL, if_pos hw]
    show (noX (C (env.set s (some d)) st)).bind _ = _
    rw [h d List.mem_cons_self]
    exact comp_none hw fun x hx => h x (List.mem_cons_of_mem _ hx)
theorem for_inv {w : Wat} {t : Tg} {B : DS} {J : Env → Sto → Prop} (hw : ∀ env st, J env st → okW w st = true) :
    ∀ (ds : List D) (env : Env) (st : Sto), (∀ d ∈ ds, ∀ env st, J env st → ∃ env1 env2 st2, bindT t d env = some env1 ∧ B env1 st = .nx env2 st2 ∧ J env2 st2) → J env st →
    ∃ env' st', forL w t B ds env st = .nx env' st' ∧ J env' st'
  | [], env, st, _, h => ⟨env, st, forL_nil (hw env st h), h⟩
  | d :: ds, env, st, step, h => by
    obtain ⟨env1, env2, st2, b, q, j⟩ := step d List.mem_cons_self env st h
    obtain ⟨env', st', q', j'⟩ := for_inv hw ds env2 st2 (fun x hx => step x (List.mem_cons_of_mem _ hx)) j
    refine ⟨env', st', ?_, j'⟩
    rw [forL_cons (hw env st h) b, q]
    exact q'
theorem okW_at {n : Nat} {ds : List D} {st : Sto} (h : st[n]? = some (.lst ds)) : okW [(n, ds)] st = true := by
  rw [okW, seq_lst h]
  simp [okW, beqDs_refl]
theorem iter_obj {n : Nat} {ds : List D} {st : Sto} (h : st[n]? = some (.lst ds)) : iterD (.obj n) st = some (ds, [(n, ds)]) := by
  unfold iterD
  simp only [seq_lst h]
theorem rev_obj {n : Nat} {ds : List D} {st : Sto} (h : st[n]? = some (.lst ds)) : revD (.obj n) st = .ok (.obj st.length) (st ++ [.lst ds.reverse]) := by
  unfold revD
  simp only [seq_lst h]
  rfl
theorem add_oe {n : Nat} {xs ys : List D} {st : Sto} (h : st[n]? = some (.lst xs)) (hl : xs.length + ys.length ≤ sizeLine) : addD (.obj n) (.ev ys) st = .ok (.obj st.length) (st ++ [.lst (xs ++ ys)]) := by
  unfold addD
  simp only [h, if_pos hl]
  rfl
theorem numb_mem {ds : List D} {d : D} (h : d ∈ numb ds) : ∃ (i : Nat) (x : D), d = .tup [.int (i : Nat), x] ∧ i < ds.length ∧ ds[i]? = some x ∧ x ∈ ds := by
  unfold numb at h
  obtain ⟨p, hp, rfl⟩ := List.mem_map.mp h
  obtain ⟨x, i⟩ := p
  have e := List.mem_zipIdx_iff_getElem?.mp hp
  have hi : i < ds.length := by
    by_cases c : i < ds.length
    · exact c
    · rw [List.getElem?_eq_none (by omega)] at e; cases e
  exact ⟨i, x, rfl, hi, e, List.mem_of_getElem? e⟩
mutual
theorem rp_lay : ∀ d : D, Th d → (rp d).canLay0 = true
  | .non, h => by simp [rp, PyData.canLay0]
  | .bl b, h => by simp [rp, PyData.canLay0]
  | .int i, h => by simp [rp, PyData.canLay0]
  | .str x, h => by
    rw [rp, PyData.canLay0]
    unfold PyData.strOk
    rw [Array.all_eq_true']
    intro c hc
    have := h.1 c (by simpa using hc)
    exact decide_eq_true (by omega)
  | .tup ds, h => by rw [rp, PyData.canLay0]; exact rps_lay ds h
  | .obj _, h => h.elim
  | .fn _, h => h.elim
  | .ty _, h => h.elim
  | .kl _, h => h.elim
  | .ev _, h => h.elim
theorem rps_lay : ∀ ds : List D, Ths ds → PyData.canLayAll0 (rps ds) = true
  | [], _ => by simp [rps, PyData.canLayAll0]
  | d :: ds, h => by rw [rps, PyData.canLayAll0, rp_lay d h.1, rps_lay ds h.2]; rfl
end
theorem eqG_same {st : Sto} {a b : D} {ds : List D} (ha : toP st 66 a = some (.list (rps ds))) (hb : toP st 66 b = some (.list (rps ds))) (h : Ths ds) (hd : dps' ds ≤ 60) : eqG a b st = some true := by
  unfold eqG
  rw [ha, hb]
  dsimp only
  have l : PyData.canLay0 (.list (rps ds)) = true := by rw [PyData.canLay0]; exact rps_lay ds h
  have z : SeqAt.shaped (.list (rps ds)) = true := by
    unfold SeqAt.shaped
    rw [l, Bool.true_and, decide_eq_true_eq, PyData.depth]
    have := (rps_ok ds h).2.2.1
    omega
  rw [z, SeqAt.eqv_refl _ l]
  rfl
theorem toP_ev {st : Sto} {ds : List D} (h : Ths ds) (hd : dps' ds ≤ 60) : toP st 66 (.ev ds) = some (.list (rps ds)) := by
  rw [toP, toPs_rp fun x hx => toP_rp st 65 x (Ths.mem h x hx) (by have := dps_mem hx; omega)]
theorem toP_obj {st : Sto} {n : Nat} {ds : List D} (hn : st[n]? = some (.lst ds)) (h : Ths ds) (hd : dps' ds ≤ 60) : toP st 66 (.obj n) = some (.list (rps ds)) := by
  rw [toP, seq_lst hn]
  dsimp only
  rw [toPs_rp fun x hx => toP_rp st 65 x (Ths.mem h x hx) (by have := dps_mem hx; omega)]
theorem ne_ev_obj {st : Sto} {n : Nat} {ds : List D} (hn : st[n]? = some (.lst ds)) (h : Ths ds) (hd : dps' ds ≤ 60) : neD (.ev ds) (.obj n) st = .ok (.bl false) st := by
  unfold neD
  have : eqO (.ev ds) (.obj n) st = some true := eqG_same (toP_ev h hd) (toP_obj hn h hd) h hd
  rw [this]
  rfl
theorem ne_ev_ev {st : Sto} {ds : List D} (h : Ths ds) (hd : dps' ds ≤ 60) : neD (.ev ds) (.ev ds) st = .ok (.bl false) st := by
  unfold neD
  have : eqO (.ev ds) (.ev ds) st = some true := eqG_same (toP_ev h hd) (toP_ev h hd) h hd
  rw [this]
  rfl
def srt : D → Int
  | .non => 0
  | .bl _ => 1
  | .int _ => 2
  | .str _ => 3
  | _ => 4
@[simp] theorem is_non {st : Sto} : isD .non .non st = .ok (.bl true) st := rfl
@[simp] theorem is_bl {b : Bool} {st : Sto} : isD (.bl b) .non st = .ok (.bl false) st := rfl
@[simp] theorem is_int {b : Int} {st : Sto} : isD (.int b) .non st = .ok (.bl false) st := rfl
@[simp] theorem is_str {b : Str} {st : Sto} : isD (.str b) .non st = .ok (.bl false) st := rfl
@[simp] theorem is_tup {b : List D} {st : Sto} : isD (.tup b) .non st = .ok (.bl false) st := rfl
theorem srt_rng (d : D) : (srt d).natAbs < 2 ^ 240 := by cases d <;> simp only [srt] <;> decide

@[simp] theorem at_new {st : Sto} {o : Ob} : (st ++ [o])[st.length]? = some o := by simp
theorem at_old {st t : Sto} {n : Nat} {o : Ob} (h : st[n]? = some o) : (st ++ t)[n]? = some o := by
  have hn : n < st.length := by
    by_cases c : n < st.length
    · exact c
    · rw [List.getElem?_eq_none (by omega)] at h; cases h
  rw [List.getElem?_append_left hn, h]
theorem idx_p {st : Sto} {n : Nat} {a b c d : Bool} {k : Nat} (h : st[n]? = some (.lst [.bl a, .bl b, .bl c, .bl d])) (hk : firstAt (.bl true) [V.bl a, V.bl b, V.bl c, V.bl d] 0 = some k) : indexM (.obj n) [.bl true] st = .ok (.int (k : Nat)) st := by
  unfold indexM
  simp only [seq_lst h]
  have e : allO toV [D.bl a, .bl b, .bl c, .bl d] = some [V.bl a, V.bl b, V.bl c, V.bl d] := rfl
  rw [e]
  show (match firstAt (.bl true) [V.bl a, V.bl b, V.bl c, V.bl d] 0 with | some j => R.ok (D.int (j : Nat)) st | none => .stuck) = _
  rw [hk]
theorem hasT_lst {st : Sto} {n : Nat} {ds : List D} (h : st[n]? = some (.lst ds)) : hasT "list" (.obj n) st = true := by
  show (seqOf st n).isSome = true
  rw [seq_lst h]
  rfl
def ic (i j : Int) : Int := if i = j then 0 else if i < j then -1 else 1
mutual
def od : D → D → Int
  | .non, b => ic 0 (srt b)
  | .bl x, b => (match b with | .bl y => if x = y then 0 else if (!x && y) = true then -1 else 1 | b => ic 1 (srt b))
  | .int x, b => (match b with | .int y => ic x y | b => ic 2 (srt b))
  | .str x, b => (match b with | .str y => if x = y then 0 else if strLt x y = true then -1 else 1 | b => ic 3 (srt b))
  | .tup xs, b => (match b with | .tup ys => if fz xs ys = 0 then ic xs.length ys.length else fz xs ys | b => ic 4 (srt b))
  | _, _ => 0
def fz : List D → List D → Int
  | [], _ => 0
  | _ :: _, [] => 0
  | x :: xs, y :: ys => if od x y = 0 then fz xs ys else od x y
end
theorem two_at (b : Bool) : atI [D.int 1, D.int (-1)] (if b then 1 else 0) = some (.int (if b then -1 else 1)) := by cases b <;> rfl
@[simp] theorem int_bl' {b : Bool} {st : Sto} : intB [.bl b] st = .ok (.int (if b then 1 else 0)) st := rfl
theorem od_far {a b : D} (ha : Th a) (c : srt a ≠ srt b) : od a b = ic (srt a) (srt b) := by
  cases a with
  | kl => exact ha.elim
  | ev => exact ha.elim
  | obj => exact ha.elim
  | fn => exact ha.elim
  | ty => exact ha.elim
  | non => rw [od]; rfl
  | bl x => cases b <;> first | exact absurd rfl c | (simp only [od, srt])
  | int x => cases b <;> first | exact absurd rfl c | (simp only [od, srt])
  | str x => cases b <;> first | exact absurd rfl c | (simp only [od, srt])
  | tup x => cases b <;> first | exact absurd rfl c | (simp only [od, srt])
mutual
def rk : D → D
  | .non => .tup [.int 0, .int 0]
  | .tup ds => .tup [.int 4, .tup (rks ds)]
  | .bl b => .tup [.int 1, .bl b]
  | .int i => .tup [.int 2, .int i]
  | .str x => .tup [.int 3, .str x]
  | d => d
def rks : List D → List D
  | [] => []
  | d :: ds => rk d :: rks ds
end
theorem rks_map : ∀ ds : List D, ds.map rk = rks ds
  | [] => rfl
  | d :: ds => by rw [List.map_cons, rks_map ds, rks]
theorem rks_len : ∀ ds : List D, (rks ds).length = ds.length
  | [] => rfl
  | d :: ds => by rw [rks, List.length_cons, rks_len ds]; rfl
theorem th_small (i : Int) (h : i.natAbs < 2 ^ 240) : Th (.int i) := h
mutual
theorem rk_th : ∀ d : D, Th d → Th (rk d) ∧ dp' (rk d) ≤ 2 * dp' d + 1
  | .non, h => by rw [rk]; exact ⟨⟨th_small 0 (by decide), th_small 0 (by decide), trivial⟩, by simp [dp', dps']⟩
  | .bl b, h => by rw [rk]; exact ⟨⟨th_small 1 (by decide), trivial, trivial⟩, by simp [dp', dps']⟩
  | .int i, h => by rw [rk]; exact ⟨⟨th_small 2 (by decide), h, trivial⟩, by simp [dp', dps']⟩
  | .str x, h => by rw [rk]; exact ⟨⟨th_small 3 (by decide), h, trivial⟩, by simp [dp', dps']⟩
  | .tup ds, h => by
    obtain ⟨a, b⟩ := rks_th ds h
    rw [rk]
    refine ⟨⟨th_small 4 (by decide), a, trivial⟩, ?_⟩
    simp only [dp', dps']
    omega
  | .obj _, h => h.elim
  | .fn _, h => h.elim
  | .ty _, h => h.elim
  | .kl _, h => h.elim
  | .ev _, h => h.elim
theorem rks_th : ∀ ds : List D, Ths ds → Ths (rks ds) ∧ dps' (rks ds) ≤ 2 * dps' ds + 1
  | [], _ => by rw [rks]; exact ⟨trivial, by simp [dps']⟩
  | d :: ds, h => by
    obtain ⟨a, b⟩ := rk_th d h.1
    obtain ⟨a', b'⟩ := rks_th ds h.2
    rw [rks]
    refine ⟨⟨a, a'⟩, ?_⟩
    simp only [dps']
    omega
end
theorem ic_eq (i j : Int) : decide (ic i j = 0) = decide (i = j) := by
  unfold ic
  by_cases h : i = j
  · simp [h]
  · by_cases k : i < j <;> simp [h, k]
theorem ic_lt (i j : Int) : decide (ic i j < 0) = decide (i < j) := by
  unfold ic
  by_cases h : i = j
  · simp [h]
  · by_cases k : i < j <;> simp [h, k]
def tg (d : D) : PyData := match d with | .non => .int 0 | .tup ds => .tuple (rps (rks ds)) | d => rp d
theorem rp_rk (d : D) (h : Th d) : rp (rk d) = .tuple [.int (srt d), tg d] := by
  cases d with
  | kl => exact h.elim
  | ev => exact h.elim
  | obj => exact h.elim
  | fn => exact h.elim
  | ty => exact h.elim
  | non => simp [rk, rp, rps, srt, tg]
  | bl x => simp [rk, rp, rps, srt, tg]
  | int x => simp [rk, rp, rps, srt, tg]
  | str x => simp [rk, rp, rps, srt, tg]
  | tup x => simp [rk, rp, rps, srt, tg]
theorem pair_far {i j : Int} {p q : PyData} (h : i ≠ j) : PyData.eqv (.tuple [.int i, p]) (.tuple [.int j, q]) = false ∧ pyLt (.tuple [.int i, p]) (.tuple [.int j, q]) = some (decide (i < j)) := by
  have e : (i == j) = false := by simpa using h
  refine ⟨by simp only [PyData.eqv, PyData.eqvAll, e, Bool.false_and], ?_⟩
  simp only [pyLt, pyLts, PyData.eqv, e]
  simp
theorem pair_near {i : Int} {p q : PyData} : PyData.eqv (.tuple [.int i, p]) (.tuple [.int i, q]) = PyData.eqv p q ∧ (PyData.eqv p q = true → pyLt (.tuple [.int i, p]) (.tuple [.int i, q]) = some false) ∧ (PyData.eqv p q = false → pyLt (.tuple [.int i, p]) (.tuple [.int i, q]) = pyLt p q) := by
  refine ⟨by simp [PyData.eqv, PyData.eqvAll], fun e => ?_, fun e => ?_⟩
  · simp [pyLt, pyLts, PyData.eqv, e]
  · simp [pyLt, pyLts, PyData.eqv, e]
mutual
theorem od_rk : ∀ a b : D, Th a → Th b → PyData.eqv (rp (rk a)) (rp (rk b)) = decide (od a b = 0) ∧ pyLt (rp (rk a)) (rp (rk b)) = some (decide (od a b < 0)) := by
  intro a b ha hb
  rw [rp_rk a ha, rp_rk b hb]
  by_cases c : srt a = srt b
  case neg =>
    rw [od_far ha c, ic_eq, ic_lt]
    obtain ⟨h1, h2⟩ := pair_far (p := tg a) (q := tg b) c
    exact ⟨h1.trans (by simp [c]), h2⟩
  case pos =>
    rw [← c]
    obtain ⟨h1, h2, h3⟩ := pair_near (i := srt a) (p := tg a) (q := tg b)
    rw [h1]
    suffices hh : PyData.eqv (tg a) (tg b) = decide (od a b = 0) ∧ (PyData.eqv (tg a) (tg b) = false → pyLt (tg a) (tg b) = some (decide (od a b < 0))) by
      refine ⟨hh.1, ?_⟩
      by_cases z : PyData.eqv (tg a) (tg b) = true
      · rw [h2 z]
        rw [hh.1, decide_eq_true_eq] at z
        simp [z]
      · have z := Bool.eq_false_iff.mpr z
        rw [h3 z, hh.2 z]
    match a, ha with
    | .non, _ =>
      cases b <;> try (simp [srt] at c; done)
      exact ⟨by simp [tg, PyData.eqv, od, srt, ic], fun z => by simp [tg, PyData.eqv] at z⟩
    | .bl x, _ =>
      cases b <;> try (simp [srt] at c; done)
      rename_i y
      have eo : od (.bl x) (.bl y) = if x = y then 0 else if (!x && y) = true then -1 else 1 := by simp only [od]
      generalize od (.bl x) (.bl y) = v at eo ⊢
      subst eo
      simp only [tg, rp, PyData.eqv, pyLt]
      cases x <;> cases y <;> decide
    | .int x, _ =>
      cases b <;> try (simp [srt] at c; done)
      rename_i y
      have eo : od (.int x) (.int y) = ic x y := by simp only [od]
      generalize od (.int x) (.int y) = v at eo ⊢
      subst eo
      rw [ic_eq, ic_lt]
      simp only [tg, rp, PyData.eqv, pyLt]
      refine ⟨?_, fun _ => by simp⟩
      rw [Bool.eq_iff_iff]
      simp
    | .str x, _ =>
      cases b <;> try (simp [srt] at c; done)
      rename_i y
      have eo : od (.str x) (.str y) = if x = y then 0 else if strLt x y = true then -1 else 1 := by simp only [od]
      generalize od (.str x) (.str y) = v at eo ⊢
      simp only [tg, rp, PyData.eqv, pyLt]
      by_cases e : x = y
      · rw [if_pos e] at eo
        subst e
        subst eo
        simp
      · have e' : (x == y) = false := by simpa using e
        rw [if_neg e] at eo
        rw [e']
        unfold strLt at eo
        by_cases q : x.cps.toList < y.cps.toList
        · simp [q] at eo
          subst eo
          simp [q]
        · simp [q] at eo
          subst eo
          simp [q]
    | .tup xs, ha =>
      cases b <;> try (first | exact hb.elim | (simp [srt] at c; done))
      rename_i ys
      obtain ⟨k1, k2⟩ := ods_rk xs ys ha hb
      have eo : od (.tup xs) (.tup ys) = if fz xs ys = 0 then ic xs.length ys.length else fz xs ys := by simp only [od]
      generalize od (.tup xs) (.tup ys) = v at eo ⊢
      simp only [tg, PyData.eqv, pyLt, k1, k2]
      by_cases z : fz xs ys = 0
      · rw [if_pos z] at eo
        subst eo
        rw [ic_eq, ic_lt]
        simp [z]
        omega
      · rw [if_neg z] at eo
        subst eo
        simp [z]
    | .obj _, h => exact h.elim
    | .fn _, h => exact h.elim
    | .ty _, h => exact h.elim
    | .kl _, h => exact h.elim
    | .ev _, h => exact h.elim
termination_by a => sizeOf a
theorem ods_rk : ∀ xs ys : List D, Ths xs → Ths ys → PyData.eqvAll (rps (rks xs)) (rps (rks ys)) = decide (fz xs ys = 0 ∧ xs.length = ys.length) ∧ pyLts (rps (rks xs)) (rps (rks ys)) = some (decide (fz xs ys < 0 ∨ (fz xs ys = 0 ∧ xs.length < ys.length)))
  | [], [], _, _ => by simp [rks, rps, PyData.eqvAll, pyLts, fz]
  | [], y :: ys, _, _ => by simp [rks, rps, PyData.eqvAll, pyLts, fz]
  | x :: xs, [], _, _ => by simp [rks, rps, PyData.eqvAll, pyLts, fz]
  | x :: xs, y :: ys, ha, hb => by
    obtain ⟨h1, h2⟩ := od_rk x y ha.1 hb.1
    obtain ⟨k1, k2⟩ := ods_rk xs ys ha.2 hb.2
    simp only [rks, rps, PyData.eqvAll, pyLts, fz, h1, h2, k1, k2]
    by_cases c : od x y = 0
    · simp [c]
    · simp [c]
termination_by xs => sizeOf xs
end
theorem rk_shaped {d : D} (h : Th d) (hd : dp' d ≤ 20) (st : Sto) : toP st 66 (rk d) = some (rp (rk d)) ∧ SeqAt.shaped (rp (rk d)) = true := by
  obtain ⟨a, b⟩ := rk_th d h
  refine ⟨toP_rp st 66 _ a (by omega), ?_⟩
  unfold SeqAt.shaped
  rw [rp_lay _ a, Bool.true_and, decide_eq_true_eq]
  have := (rp_ok _ a).2.2.1
  omega
theorem rk_tup {d : D} (h : Th d) : ∃ ds, rk d = .tup ds := by
  cases d with
  | kl => exact h.elim
  | ev => exact h.elim
  | obj => exact h.elim
  | fn => exact h.elim
  | ty => exact h.elim
  | _ => exact ⟨_, by rw [rk]⟩
end Mi

namespace Mi
open PySem L2
/-! ### widened, folded -/
mutual
def wd : D → D
  | .bl b => .int (if b then 1 else 0)
  | .tup ds => .tup (wds ds)
  | d => d
def wds : List D → List D
  | [] => []
  | d :: ds => wd d :: wds ds
end
mutual
def fo : D → D
  | .str x => .str (Txt.lower x)
  | .tup ds => .tup (fos ds)
  | d => d
def fos : List D → List D
  | [] => []
  | d :: ds => fo d :: fos ds
end
theorem wds_map : ∀ ds : List D, wds ds = ds.map wd
  | [] => by rw [wds]; rfl
  | d :: ds => by rw [wds, wds_map ds]; rfl
theorem fos_map : ∀ ds : List D, fos ds = ds.map fo
  | [] => by rw [fos]; rfl
  | d :: ds => by rw [fos, fos_map ds]; rfl
mutual
theorem wd_th : ∀ d : D, Th d → Th (wd d) ∧ sz (wd d) = sz d ∧ dp' (wd d) = dp' d
  | .bl b, h => by rw [wd]; cases b <;> exact ⟨th_small _ (by decide), by simp [sz], by simp [dp']⟩
  | .tup ds, h => by
    obtain ⟨a, b, c⟩ := wds_th ds h
    rw [wd]
    exact ⟨a, by rw [sz, sz, b], by rw [dp', dp', c]⟩
  | .non, h => by
    have e : wd (.non) = .non := by simp [wd]
    rw [e]; exact ⟨h, rfl, rfl⟩
  | .int i, h => by
    have e : wd (.int i) = .int i := by simp [wd]
    rw [e]; exact ⟨h, rfl, rfl⟩
  | .str x, h => by
    have e : wd (.str x) = .str x := by simp [wd]
    rw [e]; exact ⟨h, rfl, rfl⟩
  | .obj _, h => h.elim
  | .fn _, h => h.elim
  | .ty _, h => h.elim
  | .kl _, h => h.elim
  | .ev _, h => h.elim
theorem wds_th : ∀ ds : List D, Ths ds → Ths (wds ds) ∧ szs (wds ds) = szs ds ∧ dps' (wds ds) = dps' ds
  | [], _ => by rw [wds]; exact ⟨trivial, rfl, rfl⟩
  | d :: ds, h => by
    obtain ⟨a1, b1, c1⟩ := wd_th d h.1
    obtain ⟨a2, b2, c2⟩ := wds_th ds h.2
    rw [wds]
    exact ⟨⟨a1, a2⟩, by rw [szs, szs, b1, b2], by rw [dps', dps', c1, c2]⟩
end
mutual
theorem fo_th : ∀ d : D, Th d → Th (fo d) ∧ sz (fo d) = sz d ∧ dp' (fo d) = dp' d
  | .str x, h => by
    obtain ⟨xa, xl⟩ : asc x ∧ x.length ≤ 100 := h
    obtain ⟨a, b⟩ := lo_asc xa
    rw [fo]
    exact ⟨⟨a, by rw [b]; exact xl⟩, by rw [sz, sz, b], by simp [dp']⟩
  | .tup ds, h => by
    obtain ⟨a, b, c⟩ := fos_th ds h
    rw [fo]
    exact ⟨a, by rw [sz, sz, b], by rw [dp', dp', c]⟩
  | .non, h => by
    have e : fo (.non) = .non := by simp [fo]
    rw [e]; exact ⟨h, rfl, rfl⟩
  | .int i, h => by
    have e : fo (.int i) = .int i := by simp [fo]
    rw [e]; exact ⟨h, rfl, rfl⟩
  | .bl x, h => by
    have e : fo (.bl x) = .bl x := by simp [fo]
    rw [e]; exact ⟨h, rfl, rfl⟩
  | .obj _, h => h.elim
  | .fn _, h => h.elim
  | .ty _, h => h.elim
  | .kl _, h => h.elim
  | .ev _, h => h.elim
theorem fos_th : ∀ ds : List D, Ths ds → Ths (fos ds) ∧ szs (fos ds) = szs ds ∧ dps' (fos ds) = dps' ds
  | [], _ => by rw [fos]; exact ⟨trivial, rfl, rfl⟩
  | d :: ds, h => by
    obtain ⟨a1, b1, c1⟩ := fo_th d h.1
    obtain ⟨a2, b2, c2⟩ := fos_th ds h.2
    rw [fos]
    exact ⟨⟨a1, a2⟩, by rw [szs, szs, b1, b2], by rw [dps', dps', c1, c2]⟩
end
/-- the manners' words -/
inductive Mw where | plain | wide | turned | folded
  deriving DecidableEq
def Mw.key : Mw → D → D
  | .wide => wd
  | .folded => fo
  | _ => id
theorem Mw.key_th (w : Mw) {d : D} (h : Th d) : Th (w.key d) ∧ sz (w.key d) = sz d ∧ dp' (w.key d) = dp' d := by
  cases w
  · exact ⟨h, rfl, rfl⟩
  · exact wd_th d h
  · exact ⟨h, rfl, rfl⟩
  · exact fo_th d h
/-- the order of a manner, as a number below, at, above 0 -/
def Mw.od (w : Mw) (a b : D) : Int := if w = .turned then Mi.od b a else Mi.od (w.key a) (w.key b)
theorem Mw.key_tup (w : Mw) (ds : List D) : w.key (.tup ds) = .tup (ds.map w.key) := by
  cases w
  · simp [Mw.key]
  · show wd _ = _; rw [wd, wds_map]; rfl
  · simp [Mw.key]
  · show fo _ = _; rw [fo, fos_map]; rfl
/-! ### the order: the same, the other way about -/
theorem ic_self (i : Int) : ic i i = 0 := by simp [ic]
theorem ic_anti (i j : Int) : ic j i = -(ic i j) := by
  unfold ic
  by_cases h : i = j
  · subst h; simp
  · have h2 : ¬ j = i := fun z => h z.symm
    by_cases k : i < j
    · rw [if_neg h2, if_neg h, if_neg (by omega), if_pos k]; rfl
    · rw [if_neg h2, if_neg h, if_pos (by omega), if_neg k]
mutual
theorem od_self : ∀ a : D, Th a → od a a = 0
  | .non, h => by simp [od, srt, ic]
  | .bl x, h => by simp [od]
  | .int x, h => by simp [od, ic]
  | .str x, h => by simp [od]
  | .tup xs, h => by simp only [od]; rw [if_pos (fz_self xs h)]; exact ic_self _
  | .obj _, h => h.elim
  | .fn _, h => h.elim
  | .ty _, h => h.elim
  | .kl _, h => h.elim
  | .ev _, h => h.elim
theorem fz_self : ∀ xs : List D, Ths xs → fz xs xs = 0
  | [], _ => by simp [fz]
  | x :: xs, h => by rw [fz, if_pos (od_self x h.1)]; exact fz_self xs h.2
end
theorem strLt_irr (x : Str) : strLt x x = false := by
  unfold strLt
  exact decide_eq_false (List.lt_irrefl _)
theorem strLt_asym {x y : Str} (h : strLt x y = true) : strLt y x = false := by
  unfold strLt at *
  exact decide_eq_false fun k => List.lt_asymm (of_decide_eq_true h) k
theorem strLt_tri {x y : Str} (h : x ≠ y) (k : strLt x y = false) : strLt y x = true := by
  unfold strLt at *
  have k' : ¬ x.cps.toList < y.cps.toList := of_decide_eq_false k
  refine decide_eq_true (Decidable.byContradiction fun z => h ?_)
  have q := List.le_antisymm (List.not_lt.mp z) (List.not_lt.mp k')
  cases x; cases y
  simp only at q
  congr
  exact Array.toList_inj.mp q
mutual
theorem od_anti : ∀ a b : D, Th a → Th b → od b a = -(od a b)
  | a, b, ha, hb => by
    by_cases c : srt a = srt b
    · cases a with
      | non => cases b <;> first | (exact hb.elim) | (simp [srt] at c; done) | (simp [od, srt, ic])
      | bl x => cases b <;> first | (exact hb.elim) | (simp [srt] at c; done) | (rename_i y; cases x <;> cases y <;> simp [od])
      | int x => cases b <;> first | (exact hb.elim) | (simp [srt] at c; done) | (simp only [od]; exact ic_anti _ _)
      | str x =>
        cases b <;> first | (exact hb.elim) | (simp [srt] at c; done) | skip
        rename_i y
        simp only [od]
        by_cases e : x = y
        · subst e; simp
        · have e2 : ¬ y = x := fun z => e z.symm
          rw [if_neg e, if_neg e2]
          cases q : strLt x y with
          | true => rw [strLt_asym q]; simp
          | false => rw [strLt_tri e q]; simp
      | tup xs =>
        cases b <;> first | (exact hb.elim) | (simp [srt] at c; done) | skip
        rename_i ys
        simp only [od]
        have q := fz_anti xs ys ha hb
        by_cases e : fz xs ys = 0
        · rw [if_pos e, if_pos (by rw [q, e]; rfl)]; exact ic_anti _ _
        · rw [if_neg e, if_neg (by rw [q]; omega)]; exact q
      | obj => exact ha.elim
      | fn => exact ha.elim
      | ty => exact ha.elim
      | kl => exact ha.elim
      | ev => exact ha.elim
    · rw [od_far ha c, od_far hb (Ne.symm c)]; exact ic_anti _ _
theorem fz_anti : ∀ xs ys : List D, Ths xs → Ths ys → fz ys xs = -(fz xs ys)
  | [], ys, _, _ => by cases ys <;> simp [fz]
  | x :: xs, [], _, _ => by simp [fz]
  | x :: xs, y :: ys, h, k => by
    have q := od_anti x y h.1 k.1
    rw [fz, fz, q]
    by_cases e : od x y = 0
    · rw [if_pos e, if_pos (by omega)]; exact fz_anti xs ys h.2 k.2
    · rw [if_neg e, if_neg (by omega)]
end
/-- behind the same beginning -/
theorem fz_pre : ∀ (hs as bs : List D), Ths hs → fz (hs ++ as) (hs ++ bs) = fz as bs
  | [], _, _, _ => rfl
  | x :: xs, as, bs, h => by
    rw [List.cons_append, List.cons_append, fz, if_pos (od_self x h.1)]
    exact fz_pre xs as bs h.2
theorem fz_end : ∀ (hs as : List D), Ths hs → fz hs (hs ++ as) = 0
  | [], _, _ => by simp [fz]
  | x :: xs, as, h => by
    rw [List.cons_append, fz, if_pos (od_self x h.1)]
    exact fz_end xs as h.2
end Mi

namespace Mi
open PySem L2
/-- what stood stays but at r; more may stand behind -/
def Ex (r : Nat) (st st' : Sto) : Prop := st.length ≤ st'.length ∧ ∀ m, m ≠ r → m < st.length → st'[m]? = st[m]?
theorem Ex.refl {r : Nat} {st : Sto} : Ex r st st := ⟨Nat.le_refl _, fun _ _ _ => rfl⟩
theorem Ex.trans {r : Nat} {a b c : Sto} (h : Ex r a b) (k : Ex r b c) : Ex r a c := ⟨Nat.le_trans h.1 k.1, fun m hm hl => (k.2 m hm (Nat.lt_of_lt_of_le hl h.1)).trans (h.2 m hm hl)⟩
theorem Sm.ex {r : Nat} {a b : Sto} (h : Sm r a b) : Ex r a b := ⟨Nat.le_of_eq h.1.symm, fun m hm _ => h.2 m hm⟩
theorem Ex.app {r : Nat} {st t : Sto} : Ex r st (st ++ t) := ⟨by simp, fun m _ hl => List.getElem?_append_left hl⟩
theorem lt_of_at {st : Sto} {n : Nat} {o : Ob} (h : st[n]? = some o) : n < st.length := (List.getElem?_eq_some_iff.mp h).1
theorem Ex.at {r : Nat} {a b : Sto} (h : Ex r a b) {n : Nat} {o : Ob} (hn : n ≠ r) (e : a[n]? = some o) : b[n]? = some o := (h.2 n hn (lt_of_at e)).trans e
theorem Fd.app {r : Nat} {C : Int} {st t : Sto} (h : Fd r C st) : Fd r C (st ++ t) := by
  obtain ⟨G, M, K, a, b⟩ := h
  exact ⟨G, M, K, at_old a, b⟩
theorem Fd.lt {r : Nat} {C : Int} {st : Sto} (h : Fd r C st) : r < st.length := by
  obtain ⟨G, M, K, a, b⟩ := h
  exact lt_of_at a
theorem eq_same {st : Sto} {a b : D} {ds : List D} (hn : (∀ i, a ≠ .int i) ∧ ∀ x, a ≠ .str x) (ha : toP st 66 a = some (.list (rps ds))) (hb : toP st 66 b = some (.list (rps ds))) (h : Ths ds) (hd : dps' ds ≤ 60) : eqD a b st = .ok (.bl true) st ∧ neD a b st = .ok (.bl false) st := by
  have : eqO a b st = some true := by
    rw [eqO]
    · exact eqG_same ha hb h hd
    · exact fun i j e => absurd e (hn.1 i)
    · exact fun i j e => absurd e (hn.2 i)
  unfold eqD neD
  rw [this]
  exact ⟨rfl, rfl⟩
theorem eq_oo {st : Sto} {m n : Nat} {ds : List D} (hm : st[m]? = some (.lst ds)) (hn : st[n]? = some (.lst ds)) (h : Ths ds) (hd : dps' ds ≤ 60) : eqD (.obj m) (.obj n) st = .ok (.bl true) st ∧ neD (.obj m) (.obj n) st = .ok (.bl false) st :=
  eq_same ⟨fun _ z => (nomatch z), fun _ z => (nomatch z)⟩ (toP_obj hm h hd) (toP_obj hn h hd) h hd
theorem eq_oe {st : Sto} {m : Nat} {ds : List D} (hm : st[m]? = some (.lst ds)) (h : Ths ds) (hd : dps' ds ≤ 60) : eqD (.obj m) (.ev ds) st = .ok (.bl true) st ∧ neD (.obj m) (.ev ds) st = .ok (.bl false) st :=
  eq_same ⟨fun _ z => (nomatch z), fun _ z => (nomatch z)⟩ (toP_obj hm h hd) (toP_ev h hd) h hd
/-- a thing that may be asked about -/
structure Ok (d : D) : Prop where
  th : Th d
  dp : dp' d ≤ 20
  sz : sz d ≤ 1000000
theorem Ok.key {d : D} (h : Ok d) (w : Mw) : Ok (w.key d) := by
  obtain ⟨a, b, c⟩ := w.key_th h.th
  exact ⟨a, by rw [c]; exact h.dp, by rw [b]; exact h.sz⟩
theorem Gt.ok {s e : Nat} {d : D} (h : Gt s e d) (hs : s ≤ 1000000) (he : e ≤ 20) : Ok d := ⟨h.th, Nat.le_trans h.dp he, Nat.le_trans h.sz hs⟩
theorem Gt.tupA {s e : Nat} {ds : List D} (h : ∀ d ∈ ds, Gt s e d) : Gt (1 + ds.length * s) (1 + e) (.tup ds) := Gt.tup h (Nat.le_refl _)
theorem Mw.anti (w : Mw) {a b : D} (ha : Th a) (hb : Th b) : w.od b a = -(w.od a b) := by
  unfold Mw.od
  by_cases h : w = .turned
  · rw [if_pos h, if_pos h]; exact od_anti b a hb ha
  · rw [if_neg h, if_neg h]; exact od_anti _ _ (w.key_th ha).1 (w.key_th hb).1
theorem ths_map (w : Mw) {ds : List D} (h : Ths ds) : Ths (ds.map w.key) := Ths.of fun d hd => by
  obtain ⟨x, hx, rfl⟩ := List.mem_map.mp hd
  exact (w.key_th (h.mem x hx)).1
/-- the first place at which they are unlike tells -/
theorem Mw.od_first (w : Mw) {hs t t' : List D} {a b : D} (hh : Ths hs) (h : w.od a b ≠ 0) : w.od (.tup (hs ++ a :: t)) (.tup (hs ++ b :: t')) = w.od a b := by
  unfold Mw.od at *
  by_cases c : w = .turned
  · rw [if_pos c] at *
    simp only [Mi.od]
    rw [fz_pre hs _ _ hh, fz, if_neg h, if_neg h, if_pos c]
  · rw [if_neg c] at *
    rw [w.key_tup, w.key_tup, List.map_append, List.map_append, List.map_cons, List.map_cons]
    simp only [Mi.od]
    rw [fz_pre _ _ _ (ths_map w hh), fz, if_neg h, if_neg h, if_neg c]
theorem Mw.od_amid (w : Mw) {hs t : List D} {a b : D} (hh : Ths hs) (ht : Ths t) (h : w.od a b = 0) : w.od (.tup (hs ++ a :: t)) (.tup (hs ++ b :: t)) = 0 := by
  unfold Mw.od at *
  by_cases c : w = .turned
  · rw [if_pos c] at *
    simp only [Mi.od]
    rw [fz_pre hs _ _ hh, fz, if_pos h, fz_self t ht, if_pos rfl]
    simp [ic]
  · rw [if_neg c] at *
    rw [w.key_tup, w.key_tup, List.map_append, List.map_append, List.map_cons, List.map_cons]
    simp only [Mi.od]
    rw [fz_pre _ _ _ (ths_map w hh), fz, if_pos h, fz_self _ (ths_map w ht), if_pos rfl]
    simp [ic]
theorem od_begin {hs t : List D} (hh : Ths hs) (ht : t ≠ []) : Mi.od (.tup hs) (.tup (hs ++ t)) = -1 := by
  simp only [Mi.od]
  rw [fz_end hs t hh, if_pos rfl]
  have : 0 < t.length := List.length_pos_iff.mpr ht
  unfold ic
  rw [if_neg (by simp; omega), if_pos (by simp; omega)]
theorem Mw.od_begin (w : Mw) {hs t : List D} (hh : Ths hs) (ht : t ≠ []) : if w = .turned then w.od (.tup (hs ++ t)) (.tup hs) = -1 else w.od (.tup hs) (.tup (hs ++ t)) = -1 := by
  unfold Mw.od
  by_cases c : w = .turned
  · rw [if_pos c, if_pos c]; exact Mi.od_begin hh ht
  · rw [if_neg c, if_neg c, w.key_tup, w.key_tup, List.map_append]
    exact Mi.od_begin (ths_map w hh) (by simpa using ht)
end Mi

namespace Mi
open PySem L2
/-! ### a store: what stood, and what is new -/
theorem mul2 {A B : D} {st : Sto} : mulD (.ev [A, B]) (.int 2) st = .ok (.obj st.length) (st ++ [.lst [A, B, A, B]]) := by
  unfold mulD
  simp [lsz]
@[simp] theorem has_lst {n : Nat} {st : Sto} : hasT "list" (.obj n) st = (seqOf st n).isSome := rfl
def appO (o : Option Ob) (n : Nat) (d : D) (st : Sto) : R D := match o with | some (.lst ds) => if ds.length < sizeLine then .ok .non (st.set n (.lst (ds ++ [d]))) else .stuck | _ => .stuck
@[simp] theorem app_at {n : Nat} {d : D} {st : Sto} : appendM (.obj n) [d] st = appO st[n]? n d st := by unfold appendM appO; rfl
@[simp] theorem appO_lst {n : Nat} {ds : List D} {d : D} {st : Sto} : appO (some (.lst ds)) n d st = if ds.length < sizeLine then .ok .non (st.set n (.lst (ds ++ [d]))) else .stuck := rfl
theorem lsz1 (n : Nat) (h : n < 1000000) : n < sizeLine := by rw [szL]; omega
theorem ev_eq {st : Sto} {m : Nat} {ds : List D} (hm : st[m]? = some (.lst ds)) (h : Ths ds) (hd : dps' ds ≤ 60) : eqD (.ev ds) (.obj m) st = .ok (.bl true) st ∧ neD (.ev ds) (.obj m) st = .ok (.bl false) st :=
  eq_same ⟨fun _ z => (nomatch z), fun _ z => (nomatch z)⟩ (toP_ev h hd) (toP_obj hm h hd) h hd
def tf (b : Bool) : Str := if b then "True" else "False"
theorem tf_th (b : Bool) : Th (.str (tf b)) := by
  cases b
  · exact ⟨asc_of (by decide +kernel), by decide +kernel⟩
  · exact ⟨asc_of (by decide +kernel), by decide +kernel⟩
theorem rep_bl (b : Bool) (st : Sto) : reprB [.bl b] st = .ok (.str (tf b)) st := by
  have e : toP st 66 (.bl b) = some (.bool b) := rfl
  unfold reprB
  simp only [e]
  have : reprO (.bool b) = some (tf b) := by
    unfold reprO
    rw [if_pos]
    · rw [PyData.shown]; rfl
    · refine ⟨?_, by simp only [PyData.hasDict]⟩
      rw [PyData.showable, Bool.true_and, Bool.and_eq_true, decide_eq_true_eq, decide_eq_true_eq, szL]
      refine ⟨by simp only [PyData.depth]; omega, ?_⟩
      rw [PyData.shown]
      cases b <;> decide +kernel
  rw [this]
end Mi

namespace Mi
open PySem L2
/-! ### data of the store that can be written -/
mutual
def okP : PyData → Prop
  | .none => True
  | .bool _ => True
  | .int i => i.natAbs < 2 ^ 240
  | .str x => asc x
  | .list xs => okPs xs
  | .tuple xs => okPs xs
  | .dict ks => okPk ks
def okPs : List PyData → Prop
  | [] => True
  | x :: xs => okP x ∧ okPs xs
def okPk : List (PyData × PyData) → Prop
  | [] => True
  | (k, x) :: xs => okP k ∧ okP x ∧ okPk xs
end
mutual
def szP : PyData → Nat
  | .str x => 1 + x.length
  | .list xs => 1 + szPs xs
  | .tuple xs => 1 + szPs xs
  | .dict ks => 1 + szPk ks
  | _ => 1
def szPs : List PyData → Nat
  | [] => 0
  | x :: xs => szP x + szPs xs
def szPk : List (PyData × PyData) → Nat
  | [] => 0
  | (k, x) :: xs => szP k + szP x + szPk xs
end
mutual
theorem okP_shown : ∀ p : PyData, okP p → p.showable = true ∧ p.shown.length + 2 ≤ 105 * szP p
  | .none, h => by
    refine ⟨by simp [PyData.showable], ?_⟩
    simp only [PyData.shown, szP]
    decide +kernel
  | .bool b, h => by
    refine ⟨by simp [PyData.showable], ?_⟩
    simp only [PyData.shown, szP]
    cases b <;> decide +kernel
  | .int i, h => by
    have hi : i.natAbs < 2 ^ 240 := by simpa only [okP] using h
    have hl : i.natAbs.log2 < 1920 := by have := log_le (a := i.natAbs) (b := 240) hi (by decide); omega
    refine ⟨by simp only [PyData.showable]; exact decide_eq_true hl, ?_⟩
    have := (str_int_asc i hi).2
    simp only [PyData.shown, szP]
    omega
  | .str x, h => by
    have xa : asc x := by simpa only [okP] using h
    refine ⟨by simp [PyData.showable], ?_⟩
    have := StrLaws.reprText_len x (fun c hc => Nat.lt_of_lt_of_le (xa c hc) (by decide))
    simp only [PyData.shown, szP]
    omega
  | .list xs, h => by
    obtain ⟨h1, h2⟩ := okPs_shown xs (by simpa only [okP] using h)
    refine ⟨by rw [PyData.showable]; exact h1, ?_⟩
    rw [PyData.shown, szP]
    have := listText_len_le (PyData.shownAll xs)
    omega
  | .tuple xs, h => by
    obtain ⟨h1, h2⟩ := okPs_shown xs (by simpa only [okP] using h)
    refine ⟨by rw [PyData.showable]; exact h1, ?_⟩
    rw [PyData.shown, szP]
    have := tupleText_len_le (PyData.shownAll xs)
    omega
  | .dict ks, h => by
    obtain ⟨h1, h2⟩ := okPk_shown ks (by simpa only [okP] using h)
    refine ⟨by rw [PyData.showable]; exact h1, ?_⟩
    rw [PyData.shown, szP]
    have := dictText_len_le (PyData.shownKv ks)
    omega
theorem okPs_shown : ∀ ps : List PyData, okPs ps → PyData.showableAll ps = true ∧ ((PyData.shownAll ps).map (·.length)).sum + 2 * (PyData.shownAll ps).length ≤ 105 * szPs ps
  | [], _ => by simp [PyData.showableAll, PyData.shownAll, szPs]
  | d :: ds, h => by
    rw [okPs] at h
    obtain ⟨a1, a2⟩ := okP_shown d h.1
    obtain ⟨b1, b2⟩ := okPs_shown ds h.2
    refine ⟨by rw [PyData.showableAll, a1, b1]; rfl, ?_⟩
    rw [PyData.shownAll, szPs, List.map_cons, List.sum_cons, List.length_cons]; omega
theorem okPk_shown : ∀ ps : List (PyData × PyData), okPk ps → PyData.showableKv ps = true ∧ ((PyData.shownKv ps).map (·.length)).sum + 2 * (PyData.shownKv ps).length ≤ 105 * szPk ps
  | [], _ => by simp [PyData.showableKv, PyData.shownKv, szPk]
  | (k, d) :: ds, h => by
    rw [okPk] at h
    obtain ⟨a1, a2⟩ := okP_shown k h.1
    obtain ⟨c1, c2⟩ := okP_shown d h.2.1
    obtain ⟨b1, b2⟩ := okPk_shown ds h.2.2
    refine ⟨by rw [PyData.showableKv, a1, b1, c1]; rfl, ?_⟩
    rw [PyData.shownKv, szPk, List.map_cons, List.sum_cons, List.length_cons, str_len_app, str_len_app]
    have : (": " : Str).length = 2 := rfl
    omega
end
theorem allO_depth {st : Sto} {n : Nat} (ih : ∀ d p, toQ st n d = some p → p.depth ≤ n) : ∀ {ds : List D} {ps : List PyData}, allO (toQ st n) ds = some ps → PyData.depthAll ps ≤ n
  | [], ps, e => by cases e; simp [PyData.depthAll]
  | d :: ds, ps, e => by
    rw [allO] at e
    split at e
    · rename_i b bs e1 e2
      cases e
      rw [PyData.depthAll]
      have := ih _ _ e1
      have := allO_depth ih e2
      omega
    · cases e
theorem keyQ_depth {st : Sto} {n : Nat} (ih : ∀ d p, toQ st n d = some p → p.depth ≤ n) : ∀ {ds : List (Key × D)} {ps : List (PyData × PyData)}, keyQ (toQ st n) ds = some ps → PyData.depthKv ps ≤ n
  | [], ps, e => by cases e; simp [PyData.depthKv]
  | (k, d) :: ds, ps, e => by
    rw [keyQ] at e
    split at e
    · rename_i b bs e1 e2
      cases e
      rw [PyData.depthKv]
      have := ih _ _ e1
      have := keyQ_depth ih e2
      have hk : (kP k).depth = 0 := by cases k <;> simp [kP, PyData.depth]
      omega
    · cases e
theorem toQ_depth (st : Sto) : ∀ (n : Nat) (d : D) (p : PyData), toQ st n d = some p → p.depth ≤ n := by
  intro n
  induction n with
  | zero => intro d p e; cases d <;> simp only [toQ] at e <;> cases e <;> simp [PyData.depth]
  | succ n ih =>
    intro d p e
    cases d with
    | tup ds =>
      rw [toQ] at e
      split at e
      · rename_i ps e'
        cases e
        rw [PyData.depth]
        have := allO_depth ih e'
        omega
      · cases e
    | obj k =>
      rw [toQ] at e
      split at e
      · rename_i ds e'
        split at e
        · rename_i ps e2
          cases e
          rw [PyData.depth]
          have := allO_depth ih e2
          omega
        · cases e
      · rename_i kvs e'
        split at e
        · rename_i ps e2
          cases e
          rw [PyData.depth]
          have := keyQ_depth ih e2
          omega
        · cases e
      · cases e
    | _ => simp only [toQ] at e <;> cases e <;> simp [PyData.depth]
/-- all that stands but at r stays -/
def Kp (r : Nat) (st st' : Sto) : Prop := ∀ m o, m ≠ r → st[m]? = some o → st'[m]? = some o
theorem Kp.refl {r : Nat} {st : Sto} : Kp r st st := fun _ _ _ h => h
theorem Kp.trans {r : Nat} {a b c : Sto} (h : Kp r a b) (k : Kp r b c) : Kp r a c := fun m o hm e => k m o hm (h m o hm e)
theorem Ex.kp {r : Nat} {a b : Sto} (h : Ex r a b) : Kp r a b := fun m o hm e => h.at hm e
theorem Sm.kp {r : Nat} {a b : Sto} (h : Sm r a b) : Kp r a b := h.ex.kp
theorem Kp.app {r : Nat} {st t : Sto} : Kp r st (st ++ t) := fun m o _ e => at_old e
/-- something that can be written: its size, its depth -/
def Wr (r : Nat) (st : Sto) (s e : Nat) (d : D) : Prop := ∃ p, (∀ st' n, Kp r st st' → e ≤ n → toQ st' n d = some p) ∧ okP p ∧ szP p ≤ s
def Wrs (r : Nat) (st : Sto) (s e : Nat) (ds : List D) : Prop := ∃ ps, (∀ st' n, Kp r st st' → e ≤ n → allO (toQ st' n) ds = some ps) ∧ okPs ps ∧ szPs ps ≤ s
section
variable {r : Nat} {st st' : Sto} {s s' e e' : Nat} {d : D} {ds es : List D}
theorem Wr.kp (h : Wr r st s e d) (k : Kp r st st') : Wr r st' s e d := let ⟨p, a, b, c⟩ := h; ⟨p, fun st2 n q => a st2 n (k.trans q), b, c⟩
theorem Wrs.kp (h : Wrs r st s e ds) (k : Kp r st st') : Wrs r st' s e ds := let ⟨p, a, b, c⟩ := h; ⟨p, fun st2 n q => a st2 n (k.trans q), b, c⟩
theorem Wr.mono (h : Wr r st s e d) (hs : s ≤ s') (he : e ≤ e') : Wr r st s' e' d := let ⟨p, a, b, c⟩ := h; ⟨p, fun st2 n q hn => a st2 n q (by omega), b, by omega⟩
theorem Wrs.mono (h : Wrs r st s e ds) (hs : s ≤ s') (he : e ≤ e') : Wrs r st s' e' ds := let ⟨p, a, b, c⟩ := h; ⟨p, fun st2 n q hn => a st2 n q (by omega), b, by omega⟩
theorem Wrs.nil : Wrs r st 0 e [] := ⟨[], fun _ _ _ _ => rfl, trivial, by simp [szPs]⟩
theorem Wrs.cons (h : Wr r st s e d) (k : Wrs r st s' e ds) : Wrs r st (s + s') e (d :: ds) := by
  obtain ⟨p, a, b, c⟩ := h
  obtain ⟨ps, a', b', c'⟩ := k
  refine ⟨p :: ps, fun st2 n q hn => ?_, ?_, ?_⟩
  · rw [allO, a st2 n q hn, a' st2 n q hn]
  · rw [okPs]; exact ⟨b, b'⟩
  · rw [szPs]; omega
theorem Wrs.head (h : Wrs r st s e (d :: ds)) : ∃ s1 s2, s1 + s2 ≤ s ∧ Wr r st s1 e d ∧ Wrs r st s2 e ds := by
  obtain ⟨ps, a, b, c⟩ := h
  have a0 := a st e Kp.refl (Nat.le_refl _)
  rw [allO] at a0
  split at a0
  · rename_i p qs e1 e2
    cases a0
    rw [okPs] at b
    rw [szPs] at c
    refine ⟨szP p, szPs qs, c, ⟨p, fun st2 n q hn => ?_, b.1, Nat.le_refl _⟩, ⟨qs, fun st2 n q hn => ?_, b.2, Nat.le_refl _⟩⟩
    · have := a st2 n q hn
      rw [allO] at this
      split at this
      · rename_i x y z1 z2
        cases this
        exact z1
      · cases this
    · have := a st2 n q hn
      rw [allO] at this
      split at this
      · rename_i x y z1 z2
        cases this
        exact z2
      · cases this
  · cases a0
theorem Wrs.app : ∀ {ds : List D} {s : Nat}, Wrs r st s e ds → Wrs r st s' e es → Wrs r st (s + s') e (ds ++ es)
  | [], s, h, k => k.mono (by omega) (Nat.le_refl _)
  | d :: ds, s, h, k => by
    obtain ⟨s1, s2, hs, h1, h2⟩ := h.head
    exact (Wrs.cons h1 (Wrs.app h2 k)).mono (by omega) (Nat.le_refl _)
theorem Wrs.split : ∀ {ds : List D} {s : Nat} (k : Nat), Wrs r st s e ds → ∃ s1 s2, s1 + s2 ≤ s ∧ Wrs r st s1 e (ds.take k) ∧ Wrs r st s2 e (ds.drop k)
  | ds, s, 0, h => ⟨0, s, by omega, by simpa using Wrs.nil, by simpa using h⟩
  | [], s, k + 1, h => ⟨0, 0, by omega, by simpa using Wrs.nil, by simpa using Wrs.nil⟩
  | d :: ds, s, k + 1, h => by
    obtain ⟨s1, s2, hs, h1, h2⟩ := h.head
    obtain ⟨t1, t2, ht, g1, g2⟩ := Wrs.split k h2
    exact ⟨s1 + t1, t2, by omega, by simpa using Wrs.cons h1 g1, by simpa using g2⟩
theorem Wrs.take (k : Nat) (h : Wrs r st s e ds) : Wrs r st s e (ds.take k) := let ⟨_, _, hs, a, _⟩ := h.split k; a.mono (by omega) (Nat.le_refl _)
theorem Wrs.drop (k : Nat) (h : Wrs r st s e ds) : Wrs r st s e (ds.drop k) := let ⟨_, _, hs, _, a⟩ := h.split k; a.mono (by omega) (Nat.le_refl _)
theorem Wrs.mem : ∀ {ds : List D} {s : Nat}, Wrs r st s e ds → ∀ d ∈ ds, Wr r st s e d
  | [], s, h, d, hd => by simp at hd
  | x :: xs, s, h, d, hd => by
    obtain ⟨s1, s2, hs, h1, h2⟩ := h.head
    rcases List.mem_cons.mp hd with rfl | hd
    · exact h1.mono (by omega) (Nat.le_refl _)
    · exact (Wrs.mem h2 d hd).mono (by omega) (Nat.le_refl _)
theorem szP_pos (p : PyData) : 1 ≤ szP p := by cases p <;> simp [szP]
theorem allO_len {f : D → Option PyData} : ∀ {ds : List D} {ps : List PyData}, allO f ds = some ps → ps.length = ds.length
  | [], ps, e => by cases e; rfl
  | d :: ds, ps, e => by
    rw [allO] at e
    split at e
    · rename_i b bs e1 e2
      cases e
      simp [allO_len e2]
    · cases e
theorem szPs_len : ∀ ps : List PyData, ps.length ≤ szPs ps
  | [] => by simp
  | p :: ps => by rw [szPs, List.length_cons]; have := szP_pos p; have := szPs_len ps; omega
theorem Wrs.len (h : Wrs r st s e ds) : ds.length ≤ s := by
  obtain ⟨ps, a, b, c⟩ := h
  have := allO_len (a st e Kp.refl (Nat.le_refl _))
  have := szPs_len ps
  omega
theorem Wr.tup (h : Wrs r st s e ds) : Wr r st (1 + s) (1 + e) (.tup ds) := by
  obtain ⟨ps, a, b, c⟩ := h
  refine ⟨.tuple ps, fun st2 n q hn => ?_, by rw [okP]; exact b, by rw [szP]; omega⟩
  obtain ⟨n, rfl⟩ : ∃ k, n = k + 1 := ⟨n - 1, by omega⟩
  rw [toQ, a st2 n q (by omega)]
theorem Wr.lst {k : Nat} (hk : k ≠ r) (ha : st[k]? = some (.lst ds)) (h : Wrs r st s e ds) : Wr r st (1 + s) (1 + e) (.obj k) := by
  obtain ⟨ps, a, b, c⟩ := h
  refine ⟨.list ps, fun st2 n q hn => ?_, by rw [okP]; exact b, by rw [szP]; omega⟩
  obtain ⟨n, rfl⟩ : ∃ k, n = k + 1 := ⟨n - 1, by omega⟩
  rw [toQ, q k _ hk ha]
  simp only [a st2 n q (by omega)]
theorem Wr.dic0 {k : Nat} (hk : k ≠ r) (ha : st[k]? = some (.dic [])) : Wr r st 1 (1 + e) (.obj k) := by
  refine ⟨.dict [], fun st2 n q hn => ?_, by simp [okP, okPk], by simp [szP, szPk]⟩
  obtain ⟨n, rfl⟩ : ∃ k, n = k + 1 := ⟨n - 1, by omega⟩
  rw [toQ, q k _ hk ha]
  rfl
theorem Wr.dic1 {k : Nat} {x : Key} (hk : k ≠ r) (ha : st[k]? = some (.dic [(x, d)])) (hx : okP (kP x)) (h : Wr r st s e d) : Wr r st (1 + szP (kP x) + s) (1 + e) (.obj k) := by
  obtain ⟨p, a, b, c⟩ := h
  refine ⟨.dict [(kP x, p)], fun st2 n q hn => ?_, by simp only [okP, okPk]; exact ⟨hx, b, trivial⟩, by simp only [szP, szPk]; omega⟩
  obtain ⟨n, rfl⟩ : ∃ k, n = k + 1 := ⟨n - 1, by omega⟩
  rw [toQ, q k _ hk ha]
  simp only [keyQ, a st2 n q (by omega)]
theorem Wr.non : Wr r st 1 e .non := ⟨.none, fun _ n _ _ => by cases n <;> rfl, by simp [okP], by simp [szP]⟩
theorem Wr.bl {b : Bool} : Wr r st 1 e (.bl b) := ⟨.bool b, fun _ n _ _ => by cases n <;> rfl, by simp [okP], by simp [szP]⟩
theorem Wr.int {i : Int} (h : i.natAbs < 2 ^ 240) : Wr r st 1 e (.int i) := ⟨.int i, fun _ n _ _ => by cases n <;> rfl, by simpa only [okP] using h, by simp [szP]⟩
theorem Wr.str {x : Str} (h : asc x) : Wr r st (1 + x.length) e (.str x) := ⟨.str x, fun _ n _ _ => by cases n <;> rfl, by simpa only [okP] using h, by simp [szP]⟩
theorem Wr.untup (h : Wr r st s (e + 1) (.tup ds)) : ∃ s', 1 + s' ≤ s ∧ Wrs r st s' e ds := by
  obtain ⟨p, a, b, c⟩ := h
  have a0 := a st (e + 1) Kp.refl (Nat.le_refl _)
  rw [toQ] at a0
  split at a0
  · rename_i ps e1
    cases a0
    rw [okP] at b
    rw [szP] at c
    refine ⟨szPs ps, c, ps, fun st2 n q hn => ?_, b, Nat.le_refl _⟩
    have := a st2 (n + 1) q (by omega)
    rw [toQ] at this
    split at this
    · rename_i qs z
      cases this
      exact z
    · cases this
  · cases a0
theorem Wr.tup_pos (h : Wr r st s e (.tup ds)) : ∃ k, e = k + 1 := by
  obtain ⟨p, a, b, c⟩ := h
  cases e with
  | zero => have := a st 0 Kp.refl (Nat.le_refl _); rw [toQ] at this <;> simp_all
  | succ e => exact ⟨e, rfl⟩
theorem Wr.toQ (h : Wr r st s e d) : ∃ p, Mi.toQ st e d = some p := let ⟨p, a, _⟩ := h; ⟨p, a st e Kp.refl (Nat.le_refl _)⟩
/-- its text -/
theorem Wr.repr (h : Wr r st s e d) (he : e ≤ 60) (hs : s ≤ 100000) : ∃ x : Str, ∀ st', Kp r st st' → reprQ [d] st' = .ok (.str x) st' := by
  obtain ⟨p, a, b, c⟩ := h
  obtain ⟨b1, b2⟩ := okP_shown p b
  refine ⟨p.shown, fun st' k => ?_⟩
  have e1 := a st' 66 k (by omega)
  have d1 := toQ_depth st' e d p (a st' e k (Nat.le_refl _))
  unfold reprQ
  simp only [e1]
  unfold shwO
  rw [if_pos]
  rw [b1, Bool.true_and, Bool.and_eq_true, decide_eq_true_eq, decide_eq_true_eq, szL]
  omega
end
mutual
theorem Th.wr (r : Nat) (st : Sto) : ∀ d : D, Th d → Wr r st (sz d) (dp' d) d
  | .non, _ => Wr.non
  | .bl b, _ => Wr.bl
  | .int i, h => Wr.int h
  | .str x, h => by rw [sz]; exact Wr.str h.1
  | .tup ds, h => by rw [sz, dp']; exact Wr.tup (Ths.wr r st ds h)
  | .obj _, h => h.elim
  | .fn _, h => h.elim
  | .ty _, h => h.elim
  | .kl _, h => h.elim
  | .ev _, h => h.elim
theorem Ths.wr (r : Nat) (st : Sto) : ∀ ds : List D, Ths ds → Wrs r st (szs ds) (dps' ds) ds
  | [], _ => Wrs.nil
  | d :: ds, h => by
    rw [szs, dps']
    exact Wrs.cons ((Th.wr r st d h.1).mono (Nat.le_refl _) (by omega)) ((Ths.wr r st ds h.2).mono (Nat.le_refl _) (by omega))
end
theorem Gt.wr {s e : Nat} {d : D} (h : Gt s e d) (r : Nat) (st : Sto) : Wr r st s e d := (Th.wr r st d h.th).mono h.sz h.dp
theorem comp_filter {w : Wat} {C : DT} {F : DE} {env : Env} {s : Nat} {f : D → Bool} {st : Sto} (hw : okW w st = true) : ∀ {ds : List D}, (∀ d ∈ ds, C (env.set s (some d)) st = .ok (f d) st) → (∀ d ∈ ds, F (env.set s (some d)) st = .ok d st) → compL w (.nm s) C F env ds st = .ok (ds.filter f) st
  | [], _, _ => compL_nil hw
  | d :: ds, h, k => by
    rw [compL, if_pos hw]
    show (noX (C (env.set s (some d)) st)).bind _ = _
    rw [h d List.mem_cons_self]
    have ih := comp_filter (f := f) hw (fun x hx => h x (List.mem_cons_of_mem _ hx)) (fun x hx => k x (List.mem_cons_of_mem _ hx))
    cases z : f d with
    | true =>
      show (noX (F (env.set s (some d)) st)).bind _ = _
      rw [k d List.mem_cons_self]
      show (compL w (.nm s) C F env ds st).bind _ = _
      rw [ih, List.filter_cons, if_pos z]
      rfl
    | false =>
      show compL w (.nm s) C F env ds st = _
      rw [ih, List.filter_cons, if_neg (by rw [z]; decide)]
theorem strs_ofP {p : Nat → Prop} : ∀ {ys : List D}, (∀ y ∈ ys, ∃ c, y = oneS c ∧ p c) → ∃ cs : List Nat, ys = (cs.map fun c => (⟨#[c]⟩ : Str)).map .str ∧ cs.length = ys.length ∧ ∀ c ∈ cs, p c
  | [], _ => ⟨[], rfl, rfl, by simp⟩
  | y :: ys, h => by
    obtain ⟨c, rfl, hc⟩ := h y List.mem_cons_self
    obtain ⟨cs, e, l, k⟩ := strs_ofP fun z hz => h z (List.mem_cons_of_mem _ hz)
    refine ⟨c :: cs, by rw [e]; rfl, by simp [l], fun z hz => ?_⟩
    rcases List.mem_cons.mp hz with rfl | hz
    · exact hc
    · exact k z hz
theorem join_okP {p : Nat → Prop} {ys : List D} {st : Sto} (h : ∀ y ∈ ys, ∃ c, y = oneS c ∧ p c) (hl : ys.length ≤ 1000) : ∃ x : Str, joinL (.str "") ys st = .ok (.str x) st ∧ (∀ c ∈ x.cps.toList, p c) ∧ x.length = ys.length := by
  obtain ⟨cs, e, l, k⟩ := strs_ofP h
  have ej : Txt.join "" (cs.map fun c => (⟨#[c]⟩ : Str)) = Str.join "" (cs.map fun c => ⟨#[c]⟩) := StrLaws.glued_eq_join _ _
  have one : ((fun (x : Str) => x.length) ∘ fun c => (⟨#[c]⟩ : Str)) = fun _ => 1 := by funext c; rfl
  refine ⟨Txt.join "" (cs.map fun c => (⟨#[c]⟩ : Str)), ?_, ?_, ?_⟩
  · unfold joinL
    simp only
    rw [allO_str e]
    simp only
    rw [if_pos]
    have : ((cs.map fun c => (⟨#[c]⟩ : Str)).map (·.length)).sum = cs.length := by
      rw [List.map_map, one]
      exact sum_ones cs
    have z : (("" : Str)).length = 0 := by decide +kernel
    rw [this, z]
    omega
  · intro c hc
    rw [ej] at hc
    rcases (PyProof.Rows.mem_join "" c _).mp hc with ⟨t, ht, hct⟩ | ⟨_, z⟩
    · obtain ⟨x, hx, rfl⟩ := List.mem_map.mp ht
      have : c = x := by simpa using hct
      rw [this]
      exact k x hx
    · have : (("" : Str)).cps.toList = [] := by decide +kernel
      rw [this] at z
      simp at z
  · rw [ej, join_len, List.map_map, one, sum_ones, l]
/-! ### == with the empty list -/
theorem eqv_nil {p : PyData} {ps : List PyData} : PyData.eqv (.list (p :: ps)) (.list []) = false := rfl
theorem eq_nil (ds : List D) (st : Sto) : eqD (.ev ds) (.ev []) st = .ok (.bl ds.isEmpty) st ∧ neD (.ev ds) (.ev []) st = .ok (.bl (!ds.isEmpty)) st := by
  have key : eqO (.ev ds) (.ev []) st = some ds.isEmpty := by
    show eqG (.ev ds) (.ev []) st = _
    cases ds with
    | nil => rfl
    | cons d ds =>
      have hl : eqLen (.ev (d :: ds)) (.ev []) st = some false := rfl
      unfold eqG
      split
      · rename_i p q e1 e2
        split
        · have q0 : q = .list [] := by
            have : toP st 66 (.ev []) = some (.list []) := rfl
            rw [this] at e2
            cases e2
            rfl
          rw [toP] at e1
          split at e1
          · rename_i ps e3
            cases e1
            subst q0
            rw [allO] at e3
            split at e3
            · cases e3
              rfl
            · cases e3
          · cases e1
        · exact hl
      · exact hl
  unfold eqD neD
  rw [key]
  exact ⟨rfl, rfl⟩
@[simp] theorem eq_nil1 (ds : List D) (st : Sto) : eqD (.ev ds) (.ev []) st = .ok (.bl ds.isEmpty) st := (eq_nil ds st).1
@[simp] theorem ne_nil1 (ds : List D) (st : Sto) : neD (.ev ds) (.ev []) st = .ok (.bl (!ds.isEmpty)) st := (eq_nil ds st).2
theorem eq_nilT (ds : List D) (st : Sto) : eqD (.tup ds) (.tup []) st = .ok (.bl ds.isEmpty) st ∧ neD (.tup ds) (.tup []) st = .ok (.bl (!ds.isEmpty)) st := by
  have key : eqO (.tup ds) (.tup []) st = some ds.isEmpty := by
    show eqG (.tup ds) (.tup []) st = _
    cases ds with
    | nil => rfl
    | cons d ds =>
      have hl : eqLen (.tup (d :: ds)) (.tup []) st = some false := by
        unfold eqLen
        simp [lstOf]
      unfold eqG
      split
      · rename_i p q e1 e2
        split
        · have q0 : q = .tuple [] := by
            have : toP st 66 (.tup []) = some (.tuple []) := rfl
            rw [this] at e2
            cases e2
            rfl
          rw [toP] at e1
          split at e1
          · rename_i ps e3
            cases e1
            subst q0
            rw [allO] at e3
            split at e3
            · cases e3
              rfl
            · cases e3
          · cases e1
        · exact hl
      · exact hl
  unfold eqD neD
  rw [key]
  exact ⟨rfl, rfl⟩
@[simp] theorem eq_nilT1 (ds : List D) (st : Sto) : eqD (.tup ds) (.tup []) st = .ok (.bl ds.isEmpty) st := (eq_nilT ds st).1
@[simp] theorem ne_nilT1 (ds : List D) (st : Sto) : neD (.tup ds) (.tup []) st = .ok (.bl (!ds.isEmpty)) st := (eq_nilT ds st).2
theorem mul_str {x : Str} {k : Int} {st : Sto} (h1 : k ≤ 1000) (h2 : 0 ≤ k) (h3 : x.length ≤ 1000) : mulD (.str x) (.int k) st = .ok (.str (repS x k.toNat)) st := by
  show (if _ then _ else _) = _
  rw [if_pos]
  refine ⟨by omega, by omega, ?_⟩
  rw [szL]
  have : x.length * k.toNat ≤ 1000 * 1000 := Nat.mul_le_mul h3 (by omega)
  omega
theorem mul_tup {ds : List D} {k : Int} {st : Sto} (h1 : 0 ≤ k) (h2 : k ≤ 1000) (h3 : ds.length ≤ 10000) : mulD (.tup ds) (.int k) st = .ok (.tup (List.replicate k.toNat ds).flatten) st := by
  show (if _ then _ else if _ then _ else if _ then _ else _) = _
  by_cases c1 : ds ≠ [] ∧ 2 ≤ k
  · rw [if_pos ⟨c1.1, c1.2, h2, h3⟩]
  · rw [if_neg (fun z => c1 ⟨z.1, z.2.1⟩)]
    by_cases c2 : ds = []
    · subst c2
      rw [if_pos ⟨.inl rfl, by omega, by omega⟩]
      simp
    · have hk : k = 0 ∨ k = 1 := by
        have : ¬ 2 ≤ k := fun z => c1 ⟨c2, z⟩
        omega
      rcases hk with rfl | rfl
      · rw [if_neg (by simp [c2]), if_pos ⟨c2, by decide, by decide⟩]
        simp
      · rw [if_pos ⟨.inr rfl, by decide, by decide⟩]
        simp
theorem for_ix {w : Wat} {t : Tg} {B : DS} {N : Nat} {J : Nat → Env → Sto → Prop} (hw : ∀ k env st, J k env st → okW w st = true) :
    ∀ (ds : List D) (k : Nat) (env : Env) (st : Sto), (∀ d ∈ ds, ∀ k env st, k < N → J k env st → ∃ env1 env2 st2, bindT t d env = some env1 ∧ B env1 st = .nx env2 st2 ∧ J (k + 1) env2 st2) → k + ds.length = N → J k env st →
    ∃ env' st', forL w t B ds env st = .nx env' st' ∧ J N env' st'
  | [], k, env, st, _, e, h => ⟨env, st, forL_nil (hw k env st h), by simp at e; subst e; exact h⟩
  | d :: ds, k, env, st, step, e, h => by
    rw [List.length_cons] at e
    obtain ⟨env1, env2, st2, b, q, j⟩ := step d List.mem_cons_self k env st (by omega) h
    obtain ⟨env', st', q', j'⟩ := for_ix hw ds (k + 1) env2 st2 (fun x hx => step x (List.mem_cons_of_mem _ hx)) (by omega) j
    refine ⟨env', st', ?_, j'⟩
    rw [forL_cons (hw k env st h) b, q]
    exact q'
/-- a comprehension that keeps nothing, while the store goes on -/
theorem comp_noneJ {w : Wat} {C : DT} {F : DE} {env : Env} {s : Nat} {J : Sto → Prop} (hw : ∀ st, J st → okW w st = true) : ∀ (ds : List D) (st : Sto), (∀ d ∈ ds, ∀ st, J st → ∃ st', C (env.set s (some d)) st = .ok false st' ∧ J st') → J st → ∃ st', compL w (.nm s) C F env ds st = .ok [] st' ∧ J st'
  | [], st, _, h => ⟨st, compL_nil (hw st h), h⟩
  | d :: ds, st, step, h => by
    obtain ⟨st1, q1, j1⟩ := step d List.mem_cons_self st h
    obtain ⟨st2, q2, j2⟩ := comp_noneJ hw ds st1 (fun x hx => step x (List.mem_cons_of_mem _ hx)) j1
    refine ⟨st2, ?_, j2⟩
    rw [compL, if_pos (hw st h)]
    show (noX (C (env.set s (some d)) st)).bind _ = _
    rw [q1]
    exact q2
end Mi

namespace Mi
open PySem L2
/-- whether something is a thing, its tuples so deep at most -/
def txB (x : Str) : Bool := decide (x.length ≤ 40) && x.cps.toList.all (fun c => decide (32 ≤ c) && decide (c ≤ 126))
mutual
def tq : Nat → D → Bool
  | _, .non => true
  | _, .bl _ => true
  | _, .int _ => true
  | _, .str x => txB x
  | 0, .tup _ => false
  | n + 1, .tup ds => decide (ds.length ≤ 6) && tqs n ds
  | _, _ => false
def tqs : Nat → List D → Bool
  | _, [] => true
  | n, d :: ds => tq n d && tqs n ds
end
theorem tqs_all {n : Nat} : ∀ {ds : List D}, (∀ d ∈ ds, tq n d = true) → tqs n ds = true
  | [], _ => by rw [tqs]
  | d :: ds, h => by rw [tqs, h d List.mem_cons_self, tqs_all fun x hx => h x (List.mem_cons_of_mem _ hx)]; rfl
theorem tqs_eq {n : Nat} : ∀ ds : List D, tqs n ds = ds.all (tq n)
  | [] => by rw [tqs]; rfl
  | d :: ds => by rw [tqs, tqs_eq ds]; rfl
theorem wis_le {w : Int} : ∀ {ds : List D}, (∀ d ∈ ds, wi d ≤ w) → wis ds ≤ (ds.length : Nat) * (1 + w)
  | [], _ => by simp [wis]
  | d :: ds, h => by
    have a := h d List.mem_cons_self
    have b := wis_le fun x hx => h x (List.mem_cons_of_mem _ hx)
    rw [wis, List.length_cons]
    have : ((ds.length + 1 : Nat) : Int) * (1 + w) = (ds.length : Nat) * (1 + w) + (1 + w) := by rw [Int.natCast_add, Int.add_mul]; simp
    omega
/-- a thing drawn so deep -/
structure Tt (e : Nat) (w : Int) (s : Nat) (d : D) : Prop where
  gt : Gt s e d
  tq : Mi.tq e d = true
  wi : Mi.wi d ≤ w
theorem tt_int {e s : Nat} {w : Int} {i : Int} (h : i.natAbs < 2 ^ 240) (hw : 0 ≤ w) (hs : 10 ≤ s) : Tt e w s (.int i) := ⟨Gt.int h (by omega), by cases e <;> simp [Mi.tq], by simp [Mi.wi]; exact hw⟩
theorem tt_non {e s : Nat} {w : Int} (hw : 0 ≤ w) (hs : 10 ≤ s) : Tt e w s .non := ⟨Gt.non (by omega), by cases e <;> simp [Mi.tq], by simp [Mi.wi]; exact hw⟩
theorem tt_bl {e s : Nat} {w : Int} {b : Bool} (hw : 0 ≤ w) (hs : 10 ≤ s) : Tt e w s (.bl b) := ⟨Gt.bl (by omega), by cases e <;> simp [Mi.tq], by simp [Mi.wi]; exact hw⟩
theorem tt_str {e s : Nat} {w : Int} {x : Str} (h : (ascB x && decide (x.length ≤ 9) && txB x) = true) (hw : 0 ≤ w) (hs : 10 ≤ s) : Tt e w s (.str x) := by
  simp only [Bool.and_eq_true, decide_eq_true_eq] at h
  refine ⟨Gt.str' (asc_of h.1.1) (by omega) (by omega), ?_, by simp [Mi.wi]; exact hw⟩
  cases e <;> simp [Mi.tq, h.2]
theorem tt_words {e s : Nat} {w : Int} (hw : 0 ≤ w) (hs : 10 ≤ s) : ∀ x ∈ [D.str "", D.str "a", D.str "A", D.str "ab", D.str "b", D.str "to", D.str "none", D.str "\"\\(,"], Tt e w s x := by
  intro x hx
  simp only [List.mem_cons, List.not_mem_nil, or_false] at hx
  rcases hx with rfl | rfl | rfl | rfl | rfl | rfl | rfl | rfl <;> exact tt_str (by decide +kernel) hw hs
theorem tt_tup {e s : Nat} {w : Int} (ys : List D) (hl : ys.length ≤ 3) (hw : 0 ≤ w) (h : ∀ y ∈ ys, Tt e w s y) : Tt (e + 1) (3 * (1 + w)) (1 + 3 * s) (.tup ys) := by
  refine ⟨(Gt.tup (fun y hy => (h y hy).gt) hl).mono (Nat.le_refl _) (by omega), ?_, ?_⟩
  · rw [Mi.tq, tqs_all fun y hy => (h y hy).tq, decide_eq_true (show ys.length ≤ 6 by omega)]; rfl
  · rw [Mi.wi]
    have := wis_le fun y hy => (h y hy).wi
    have k : ((ys.length : Nat) : Int) * (1 + w) ≤ 3 * (1 + w) := Int.mul_le_mul_of_nonneg_right (by omega) (by omega)
    omega
mutual
theorem tq_mono : ∀ (d : D) (n m : Nat), n ≤ m → tq n d = true → tq m d = true
  | .tup ds, 0, m, _, h => by rw [tq] at h; cases h
  | .tup ds, n + 1, 0, hm, h => by omega
  | .tup ds, n + 1, m + 1, hm, h => by
    rw [tq, Bool.and_eq_true] at h ⊢
    exact ⟨h.1, tqs_mono ds n m (by omega) h.2⟩
  | .non, n, m, _, h => by cases m <;> simp [tq]
  | .bl _, n, m, _, h => by cases m <;> simp [tq]
  | .int _, n, m, _, h => by cases m <;> simp [tq]
  | .str x, n, m, _, h => by cases n <;> cases m <;> simpa [tq] using h
  | .obj _, n, m, _, h => by cases n <;> simp [tq] at h
  | .fn _, n, m, _, h => by cases n <;> simp [tq] at h
  | .ty _, n, m, _, h => by cases n <;> simp [tq] at h
  | .kl _, n, m, _, h => by cases n <;> simp [tq] at h
  | .ev _, n, m, _, h => by cases n <;> simp [tq] at h
theorem tqs_mono : ∀ (ds : List D) (n m : Nat), n ≤ m → tqs n ds = true → tqs m ds = true
  | [], n, m, _, _ => by rw [tqs]
  | d :: ds, n, m, hm, h => by
    rw [tqs, Bool.and_eq_true] at h ⊢
    exact ⟨tq_mono d n m hm h.1, tqs_mono ds n m hm h.2⟩
end
theorem szs_wis {k : Nat} : ∀ {ds : List D}, (∀ d ∈ ds, ((sz d : Nat) : Int) ≤ 42 * (1 + wi d)) → ((szs ds : Nat) : Int) ≤ 42 * wis ds
  | [], _ => by simp [szs, wis]
  | d :: ds, h => by
    have a := h d List.mem_cons_self
    have b := szs_wis (k := k) fun x hx => h x (List.mem_cons_of_mem _ hx)
    rw [szs, wis]
    have e : (42 : Int) * (1 + wi d + wis ds) = 42 * (1 + wi d) + 42 * wis ds := by rw [Int.mul_add]
    omega
end Mi

namespace Mi
open PySem L2
/-! the law's own look -/
theorem wi_nn : ∀ d : D, 0 ≤ wi d := by
  intro d
  cases d with
  | tup ds => rw [wi]; exact go ds
  | _ => simp [wi]
where go : ∀ ds : List D, 0 ≤ wis ds
  | [] => by simp [wis]
  | d :: ds => by rw [wis]; have := wi_nn d; have := go ds; omega
theorem wis_mem : ∀ {ds : List D} {d : D}, d ∈ ds → wi d ≤ wis ds
  | x :: xs, d, h => by
    rw [wis]
    have a := wi_nn x
    have b := wi_nn.go xs
    rcases List.mem_cons.mp h with rfl | h
    · omega
    · have := wis_mem h; omega
def lq (n : Nat) (d : D) : Bool := tq n d && decide (wi d ≤ 40)
theorem lq_tup {n : Nat} {ds : List D} : lq (n + 1) (.tup ds) = (decide (ds.length ≤ 6) && ds.all (lq n) && decide (wi (.tup ds) ≤ 40)) := by
  unfold lq
  rw [tq, tqs_eq]
  by_cases z : wi (.tup ds) ≤ 40
  · have : ds.all (tq n) = ds.all (fun d => tq n d && decide (wi d ≤ 40)) := by
      rw [Bool.eq_iff_iff, List.all_eq_true, List.all_eq_true]
      constructor
      · intro h x hx
        rw [h x hx, Bool.true_and, decide_eq_true_eq]
        rw [wi] at z
        have := wis_mem hx
        omega
      · intro h x hx
        have := h x hx
        rw [Bool.and_eq_true] at this
        exact this.1
    rw [this]
  · rw [decide_eq_false z, Bool.and_false, Bool.and_false]
theorem filt_empty {f : D → Bool} (ds : List D) : (ds.filter fun d => !f d).isEmpty = ds.all f := by
  induction ds with
  | nil => rfl
  | cons d ds ih => cases z : f d <;> simp only [List.filter_cons, z, List.all_cons, Bool.not_true, Bool.not_false, if_true, if_false, Bool.false_eq_true, Bool.true_and, Bool.false_and] <;> first | exact ih | rfl
theorem filt_emptyN {f : Nat → Bool} (ds : List Nat) : (ds.filter fun d => !f d).isEmpty = ds.all f := by
  induction ds with
  | nil => rfl
  | cons d ds ih => cases z : f d <;> simp only [List.filter_cons, z, List.all_cons, Bool.not_true, Bool.not_false, if_true, if_false, Bool.false_eq_true, Bool.true_and, Bool.false_and] <;> first | exact ih | rfl
def sgn : D → Bool
  | .str y => y.cps.toList.all fun c => decide (32 ≤ c) && decide (c ≤ 126)
  | _ => false
theorem ofs_inj {a b : String} (h : Str.ofString a = Str.ofString b) : a = b := by
  have : (Str.ofString a).cps.toList = (Str.ofString b).cps.toList := by rw [h]
  rw [ofS_toList, ofS_toList] at this
  have e : a.toList = b.toList := (List.map_inj_right (fun x y (z : x.toNat = y.toNat) => Char.ext (UInt32.toNat_inj.mp z))).mp this
  exact String.ext e
@[simp] theorem ofs_eq {a b : String} : (Str.ofString a = Str.ofString b) ↔ (a = b) := ⟨ofs_inj, fun h => by rw [h]⟩
/-! + of lists, for simp -/
def addO (a b : Option Ob) (st : Sto) : R D := match a, b with
  | some (.lst xs), some (.lst ys) => if xs.length + ys.length ≤ sizeLine then new (.lst (xs ++ ys)) st else .stuck
  | _, _ => .stuck
theorem add_ooS {m n : Nat} {st : Sto} : addD (.obj m) (.obj n) st = addO st[m]? st[n]? st := rfl
theorem add_oeS {m : Nat} {ys : List D} {st : Sto} : addD (.obj m) (.ev ys) st = addO st[m]? (some (.lst ys)) st := by
  unfold addD addO
  dsimp only
  cases h : st[m]? with
  | none => rfl
  | some o => cases o <;> rfl
@[simp] theorem addO_some {xs ys : List D} {st : Sto} : addO (some (.lst xs)) (some (.lst ys)) st = if xs.length + ys.length ≤ sizeLine then .ok (.obj st.length) (st ++ [.lst (xs ++ ys)]) else .stuck := rfl
end Mi

namespace Mi
open PySem L2
theorem rq_of {d : D} {p : PyData} {st : Sto} (h : toQ st 66 d = some p) (h1 : p.showable = true) (h2 : p.depth ≤ 64) (h3 : p.shown.length ≤ 1000000) : reprQ [d] st = .ok (.str p.shown) st := by
  unfold reprQ
  simp only [h]
  unfold shwO
  rw [if_pos]
  rw [h1, Bool.true_and, Bool.and_eq_true, decide_eq_true_eq, decide_eq_true_eq, szL]
  omega
theorem rq_bl (b : Bool) (st : Sto) : reprQ [.bl b] st = .ok (.str (tf b)) st := by
  rw [rq_of (p := .bool b) rfl rfl (by simp [PyData.depth]) (by cases b <;> decide +kernel)]
  cases b <;> rfl
theorem rq_int {i : Int} (h : i.natAbs < 2 ^ 240) : ∃ x, Th (.str x) ∧ ∀ st, reprQ [.int i] st = .ok (.str x) st := by
  have hl : i.natAbs.log2 < 1920 := by have := log_le (a := i.natAbs) (b := 240) h (by decide); omega
  obtain ⟨a, b⟩ := str_int_asc i h
  refine ⟨(PyData.int i).shown, ⟨a, b⟩, fun st => rq_of (p := .int i) rfl (decide_eq_true hl) (by simp [PyData.depth]) ?_⟩
  have : (PyData.int i).shown = toString i := rfl
  rw [this]
  omega
end Mi

namespace Mi
open PySem L2
theorem take_ok (n : Nat) {st : Sto} {r : Nat} {G M C many : Int} (h : st[r]? = some (.lst [.int G, .int M, .int C])) (hm : 0 < many) (hm2 : many < 2 ^ 64) (hG : 0 ≤ G) (hC : 0 ≤ C) (hC2 : C < 2 ^ 60) :
    ∃ d G' C', 0 ≤ d ∧ d < many ∧ 0 ≤ G' ∧ 0 ≤ C' ∧ C' ≤ C + 1 ∧ Phi prog (n + 1) i__law_take [.obj r, .int many] st = .ok (.int d) (st.set r (.lst [.int G', .int M, .int C'])) := by
  rw [Phi__law_take, runB_eq]
  have hlog : many.natAbs.log2 < 9000 := by
    have := log_le (a := many.natAbs) (b := 64) (by omega) (by decide)
    omega
  by_cases hg : 0 < G
  · refine ⟨G % many, G / many, C, Int.emod_nonneg _ (by omega), Int.emod_lt_of_pos _ hm, Int.ediv_nonneg hG (by omega), hC, by omega, ?_⟩
    simp [b__law_take, h, hg, mod_int hm, fdiv_int hm hlog, at_set]
  · refine ⟨mix M C / 64 % many, G, C + 1, Int.emod_nonneg _ (by omega), Int.emod_lt_of_pos _ hm, hG, by omega, by omega, ?_⟩
    have m1 : ∀ st, mulD (.int 40692) (.int (C + 1)) st = .ok (.int (40692 * (C + 1))) st := fun st => mul_ok st 16 61 (by decide) (by omega) (by decide) (by decide) (by decide)
    have m2 : ∀ st, mulD (.int (40692 * (C + 1))) (.int (C + 1)) st = .ok (.int (40692 * (C + 1) * (C + 1))) st := fun st => mul_ok st 77 61 (by omega) (by omega) (by decide) (by decide) (by decide)
    have m3 : ∀ st, mulD (.int 69621) (.int (C + 1)) st = .ok (.int (69621 * (C + 1))) st := fun st => mul_ok st 17 61 (by decide) (by omega) (by decide) (by decide) (by decide)
    generalize ha : (M + 40692 * (C + 1) * (C + 1) + 69621 * (C + 1)) % 2147483647 = a
    have a0 : 0 ≤ a := by rw [← ha]; exact Int.emod_nonneg _ (by decide)
    have a1 : a < 2147483647 := by rw [← ha]; exact Int.emod_lt_of_pos _ (by decide)
    have m4 : ∀ st, mulD (.int a) (.int a) st = .ok (.int (a * a)) st := fun st => mul_ok st 31 31 (by omega) (by omega) (by decide) (by decide) (by decide)
    have m5 : ∀ st, mulD (.int 39373) (.int a) st = .ok (.int (39373 * a)) st := fun st => mul_ok st 16 31 (by decide) (by omega) (by decide) (by decide) (by decide)
    generalize hb : (a * a + 39373 * a + (C + 1)) % 2147483579 = b
    have b0 : 0 ≤ b := by rw [← hb]; exact Int.emod_nonneg _ (by decide)
    have b1 : b < 2147483579 := by rw [← hb]; exact Int.emod_lt_of_pos _ (by decide)
    have m6 : ∀ st, mulD (.int b) (.int b) st = .ok (.int (b * b)) st := fun st => mul_ok st 31 31 (by omega) (by omega) (by decide) (by decide) (by decide)
    have m7 : ∀ st, mulD (.int 16807) (.int b) st = .ok (.int (16807 * b)) st := fun st => mul_ok st 15 31 (by decide) (by omega) (by decide) (by decide) (by decide)
    have em : mix M C = (b * b + 16807 * b) % 2147483549 := by simp only [mix, ha, hb]
    have k1 : ∀ (x : Int) (st : Sto), modD (.int x) (.int 2147483647) st = .ok (.int (x % 2147483647)) st := fun x st => mod_int (by decide)
    have k2 : ∀ (x : Int) (st : Sto), modD (.int x) (.int 2147483579) st = .ok (.int (x % 2147483579)) st := fun x st => mod_int (by decide)
    have k3 : ∀ (x : Int) (st : Sto), modD (.int x) (.int 2147483549) st = .ok (.int (x % 2147483549)) st := fun x st => mod_int (by decide)
    have k4 : ∀ (x : Int) (st : Sto), fdivD (.int x) (.int 64) st = .ok (.int (x / 64)) st := fun x st => fdiv_int (by decide) (by decide +kernel)
    have k5 : ∀ (x : Int) (st : Sto), modD (.int x) (.int many) st = .ok (.int (x % many)) st := fun x st => mod_int hm
    rw [em]
    simp [b__law_take, h, hg, at_set, m1, m2, m3, m4, m5, m6, m7, k1, k2, k3, k4, k5, ha, hb]

theorem take_g (n : Nat) {st : Sto} {r : Nat} {C many : Int} (h : Fd r C st) (hm : 0 < many) (hm2 : many < 2 ^ 64) (hC : C < 2 ^ 60) :
    ∃ d st', Phi prog (n + 1) i__law_take [.obj r, .int many] st = .ok (.int d) st' ∧ 0 ≤ d ∧ d < many ∧ Fd r (C + 1) st' ∧ Sm r st st' := by
  obtain ⟨G, M, K, h0, h1, h2, h3⟩ := h
  obtain ⟨d, G', C', a, b, c, e, f, q⟩ := take_ok n h0 hm hm2 h1 h2 (by omega)
  exact ⟨d, _, q, a, b, ⟨G', M, C', by rw [at_set, h0]; rfl, c, e, by omega⟩, Sm.set⟩
theorem feed_p (m : Nat) (ns : List Int) (k : Int) (st : Sto) (h0 : 0 ≤ k) (h1 : k < 1000) : ∃ G M : Int, 0 ≤ G ∧ Phi prog (m + 1) i__law_feed [.kl (ns.map .int), .int k] st = .ok (.obj st.length) (st ++ [.lst [.int G, .int M, .int 0]]) := by
  rw [Phi__law_feed, runB_eq]
  have ln : lenB [.kl (ns.map .int)] st = .ok (.int (ns.length : Nat)) st := by unfold lenB; simp
  have k1 : ∀ (x : Int) (st : Sto), modD (.int x) (.int 2147483423) st = .ok (.int (x % 2147483423)) st := fun x st => mod_int (by decide)
  have m1 : ∀ x : Int, mulD (.int (x % 2147483423)) (.int 48271) st = .ok (.int (x % 2147483423 * 48271)) st := fun x => mul_ok st 31 16 (by have := Int.emod_nonneg x (b := 2147483423) (by decide); have := Int.emod_lt_of_pos x (b := 2147483423) (by decide); omega) (by decide) (by decide) (by decide) (by decide)
  have m2 : mulD (.int 6151) (.int k) st = .ok (.int (6151 * k)) st := mul_ok st 13 10 (by decide) (by omega) (by decide) (by decide) (by decide)
  have ab : ∀ x : Int, ∃ g : Int, 0 ≤ g ∧ absB [.int x] st = .ok (.int g) st := fun x => ⟨if x < 0 then -x else x, by split <;> omega, rfl⟩
  have pw : powD (.int 10) (.int 18) st = .ok (.int 1000000000000000000) st := rfl
  by_cases c : k < ns.length
  · obtain ⟨x, hx, ex⟩ := menu (xs := ns.map D.int) h0 (by rw [List.length_map]; exact c)
    obtain ⟨i, _, rfl⟩ := List.mem_map.mp hx
    obtain ⟨g, g0, ab⟩ := ab i
    by_cases q : g < 1000000000000000000
    · exact ⟨0, (i % 2147483423 * 48271 + 6151 * k + 17) % 2147483423, by decide, by simp [b__law_feed, K1__law_feed, K2__law_feed, ln, c, ex, pw, k1, m1, m2, ab, q, lsz]⟩
    · exact ⟨g, (i % 2147483423 * 48271 + 6151 * k + 17) % 2147483423, g0, by simp [b__law_feed, K1__law_feed, K2__law_feed, ln, c, ex, pw, k1, m1, m2, ab, q, lsz]⟩
  · have m3 := m1 0
    exact ⟨0, (6151 * k + 17) % 2147483423, by decide, by simp [b__law_feed, K1__law_feed, K2__law_feed, ln, c, pw, k1, m2, lsz, absB, mul_ok st 1 16 (i := 0) (j := 48271) (by decide) (by decide) (by decide) (by decide) (by decide)]⟩

end Mi

namespace Mi
open PySem L2
theorem thing_at (deep n : Nat) (st : Sto) (r : Nat) (C : Int) (h : Fd r C st) {B : Int} {S E s e : Nat} (hC : C + 4 < 2 ^ 60)
    {b : Int} (rec : 2 ≤ deep → ∀ (st : Sto) (C : Int), Fd r C st → C + b < 2 ^ 60 → Dr r C b (Gt s e) st (Phi prog (n + 1) i__law_thing [.obj r, .int ((deep : Int) - 1)] st)) (hb0 : 0 ≤ b) (hbB : 2 + 3 * b ≤ B) (hCB : C + B < 2 ^ 60) (hsS : 1 + 3 * s ≤ S) (heE : 2 ≤ deep → 1 + e ≤ E) (hB : 4 ≤ B) (hS : 10 ≤ S) :
    Dr r C B (Gt S E) st (Phi prog (n + 2) i__law_thing [.obj r, .int deep] st) := by
  have pw : ∀ st, powD (.int 10) (.int 30) st = .ok (.int 1000000000000000000000000000000) st := fun st => rfl
  rw [Phi__law_thing, runB_eq]
  obtain ⟨way, st1, q1, w0, w1, f1, s1⟩ := take_g n h (many := 16) (by decide) (by decide) (by omega)
  by_cases c1 : way < 6
  · obtain ⟨d, st2, q2, d0, d1, f2, s2⟩ := take_g n f1 (many := 6) (by decide) (by decide) (by omega)
    obtain ⟨x, hx, ex⟩ := menu (xs := [D.int 0, D.int 1, D.int 2, D.int 3, D.int (-1), D.int 1000000000000000000000000000000]) d0 d1
    simp [b__law_thing, q1, c1, pw, q2, lsz, ex]
    refine ⟨x, st2, rfl, ?_, f2.mono (by omega), s1.trans s2⟩
    simp at hx
    rcases hx with rfl | rfl | rfl | rfl | rfl | rfl <;> exact Gt.int (by decide) (by omega)
  by_cases c2 : way < 9
  · obtain ⟨d, st2, q2, d0, d1, f2, s2⟩ := take_g n f1 (many := 8) (by decide) (by decide) (by omega)
    obtain ⟨x, hx, ex⟩ := menu (xs := [D.str "", D.str "a", D.str "A", D.str "ab", D.str "b", D.str "to", D.str "none", D.str "\"\\(,"]) d0 d1
    simp [b__law_thing, q1, c1, c2, q2, lsz, ex]
    refine ⟨x, st2, rfl, Gt.mono (s := 10) (e := 0) ?_ hS (by omega), f2.mono (by omega), s1.trans s2⟩
    simp at hx
    rcases hx with rfl | rfl | rfl | rfl | rfl | rfl | rfl | rfl <;> exact Gt.str (by decide +kernel)
  by_cases c3 : way < 12
  · obtain ⟨x, hx, ex⟩ := menu (xs := [D.non, D.bl false, D.bl true]) (d := way - 9) (by omega) (by simp; omega)
    simp [b__law_thing, q1, c1, c2, c3, lsz, ex]
    refine ⟨x, st1, rfl, ?_, f1.mono (by omega), s1⟩
    simp at hx
    rcases hx with rfl | rfl | rfl
    · exact Gt.non (by omega)
    · exact Gt.bl (by omega)
    · exact Gt.bl (by omega)
  by_cases c4 : way < 14 ∨ (deep : Int) < 2
  · obtain ⟨d, st2, q2, d0, d1, f2, s2⟩ := take_g n f1 (many := 40) (by decide) (by decide) (by omega)
    have : Dr r C B (Gt S E) st (.ok (.int (d - 20)) st2) := ⟨_, st2, rfl, Gt.int (by omega) (by omega), f2.mono (by omega), s1.trans s2⟩
    by_cases c5 : way < 14
    · simpa [b__law_thing, q1, c1, c2, c3, c5, q2] using this
    · have c6 : (deep : Int) < 2 := c4.resolve_left c5
      simpa [b__law_thing, q1, c1, c2, c3, c5, c6, q2] using this
  · have c5 : ¬ way < 14 := fun z => c4 (.inl z)
    have c6 : ¬ (deep : Int) < 2 := fun z => c4 (.inr z)
    obtain ⟨j, st2, q2, d0, d1, f2, s2⟩ := take_g n f1 (many := 4) (by decide) (by decide) (by omega)
    obtain ⟨ys, st3, q3, l3, p3, f3, s3⟩ := comp_draw (r := r) (P := Gt s e) (F := eCall (Phi prog (n + 1) i__law_thing) (aCons (eVar 0) (aCons (e2 subD (eVar 1) (eC (.int 1))) aNil))) (env := [some (.obj r), some (.int deep), some (.int way), none]) (s := 3) hb0
      (fun d st C h hC => by simpa using rec (by omega) st C h hC) (upI 0 j.toNat) st2 (C + 1 + 1) f2 (by rw [upI_len]; have : b * (j.toNat : Int) ≤ b * 3 := Int.mul_le_mul_of_nonneg_left (by omega) hb0; omega)
    rw [upI_len] at l3 f3
    have hj : b * (j.toNat : Int) ≤ b * 3 := Int.mul_le_mul_of_nonneg_left (by omega) hb0
    simp [b__law_thing, q1, c1, c2, c3, c5, c6, q2, rng1_ok (j := j) (by omega) (by omega), upI_len, lsz j.toNat (by omega), wipeE, q3, tupleL]
    exact ⟨_, st3, rfl, (Gt.tup p3 (m := 3) (by omega)).mono hsS (heE (by omega)), f3.mono (by omega), (s1.trans s2).trans s3⟩
theorem thing_g : ∀ (deep n : Nat) (st : Sto) (r : Nat) (C : Int), Fd r C st → C + 4 ^ (deep + 2) < 2 ^ 60 →
    Dr r C (4 ^ (deep + 2)) (Gt (10 * 4 ^ deep) deep) st (Phi prog (n + deep + 2) i__law_thing [.obj r, .int deep] st) := by
  intro deep
  induction deep with
  | zero => exact fun n st r C h hC => thing_at 0 n st r C h (by omega) (b := 0) (s := 0) (e := 0) (fun z => absurd z (by decide)) (by decide) (by decide) (by omega) (by decide) (fun z => absurd z (by decide)) (by decide) (by decide)
  | succ deep ih =>
    intro n st r C h hC
    have e4 : (4 : Int) ^ (deep + 1 + 2) = 4 * 4 ^ (deep + 2) := by rw [Int.pow_succ]; omega
    have e5 : (4 : Int) ^ (deep + 2) = 4 * 4 ^ (deep + 1) := by rw [Int.pow_succ]; omega
    have e4' : (4 : Nat) ^ (deep + 1) = 4 * 4 ^ deep := by rw [Nat.pow_succ]; omega
    have p0 : (0 : Int) < 4 ^ (deep + 1) := Int.pow_pos (by decide)
    have p1 : 0 < 4 ^ deep := Nat.pow_pos (by decide)
    rw [e4] at hC ⊢
    refine thing_at (deep + 1) (n + (deep + 1)) st r C h (by omega) (b := 4 ^ (deep + 2)) (s := 10 * 4 ^ deep) (e := deep) (fun _ st C h hC => ?_) (by omega) (by omega) (by omega) (by omega) (fun _ => by omega) (by omega) (by omega)
    have := ih n st r C h hC
    have ed : ((deep + 1 : Nat) : Int) - 1 = (deep : Int) := by omega
    rw [ed]
    exact this

end Mi

namespace Mi
open PySem L2
/-! ### a drawn thing keeps what its parts keep -/
theorem thing_P (P Pc : D → Prop) (deep n : Nat) (st : Sto) (r : Nat) (C : Int) (h : Fd r C st) {B b : Int} (hC : C + 4 < 2 ^ 60) (hi : ∀ i : Int, i.natAbs < 2 ^ 240 → P (.int i)) (hs : ∀ x ∈ [D.str "", D.str "a", D.str "A", D.str "ab", D.str "b", D.str "to", D.str "none", D.str "\"\\(,"], P x) (hn : P .non) (hb : ∀ b, P (.bl b))
    (ht : 2 ≤ deep → ∀ ys : List D, ys.length ≤ 3 → (∀ y ∈ ys, Pc y) → P (.tup ys))
    (rec : 2 ≤ deep → ∀ (st : Sto) (C : Int), Fd r C st → C + b < 2 ^ 60 → Dr r C b Pc st (Phi prog (n + 1) i__law_thing [.obj r, .int ((deep : Int) - 1)] st)) (hb0 : 0 ≤ b) (hbB : 2 + 3 * b ≤ B) (hCB : C + B < 2 ^ 60) (hB : 4 ≤ B) :
    Dr r C B P st (Phi prog (n + 2) i__law_thing [.obj r, .int deep] st) := by
  have pw : ∀ st, powD (.int 10) (.int 30) st = .ok (.int 1000000000000000000000000000000) st := fun st => rfl
  rw [Phi__law_thing, runB_eq]
  obtain ⟨way, st1, q1, w0, w1, f1, s1⟩ := take_g n h (many := 16) (by decide) (by decide) (by omega)
  by_cases c1 : way < 6
  · obtain ⟨d, st2, q2, d0, d1, f2, s2⟩ := take_g n f1 (many := 6) (by decide) (by decide) (by omega)
    obtain ⟨x, hx, ex⟩ := menu (xs := [D.int 0, D.int 1, D.int 2, D.int 3, D.int (-1), D.int 1000000000000000000000000000000]) d0 d1
    simp [b__law_thing, q1, c1, pw, q2, lsz, ex]
    refine ⟨x, st2, rfl, ?_, f2.mono (by omega), s1.trans s2⟩
    simp at hx
    rcases hx with rfl | rfl | rfl | rfl | rfl | rfl <;> exact hi _ (by decide)
  by_cases c2 : way < 9
  · obtain ⟨d, st2, q2, d0, d1, f2, s2⟩ := take_g n f1 (many := 8) (by decide) (by decide) (by omega)
    obtain ⟨x, hx, ex⟩ := menu (xs := [D.str "", D.str "a", D.str "A", D.str "ab", D.str "b", D.str "to", D.str "none", D.str "\"\\(,"]) d0 d1
    simp [b__law_thing, q1, c1, c2, q2, lsz, ex]
    exact ⟨x, st2, rfl, hs x hx, f2.mono (by omega), s1.trans s2⟩
  by_cases c3 : way < 12
  · obtain ⟨x, hx, ex⟩ := menu (xs := [D.non, D.bl false, D.bl true]) (d := way - 9) (by omega) (by simp; omega)
    simp [b__law_thing, q1, c1, c2, c3, lsz, ex]
    refine ⟨x, st1, rfl, ?_, f1.mono (by omega), s1⟩
    simp at hx
    rcases hx with rfl | rfl | rfl
    · exact hn
    · exact hb _
    · exact hb _
  by_cases c4 : way < 14 ∨ (deep : Int) < 2
  · obtain ⟨d, st2, q2, d0, d1, f2, s2⟩ := take_g n f1 (many := 40) (by decide) (by decide) (by omega)
    have : Dr r C B P st (.ok (.int (d - 20)) st2) := ⟨_, st2, rfl, hi _ (by omega), f2.mono (by omega), s1.trans s2⟩
    by_cases c5 : way < 14
    · simpa [b__law_thing, q1, c1, c2, c3, c5, q2] using this
    · have c6 : (deep : Int) < 2 := c4.resolve_left c5
      simpa [b__law_thing, q1, c1, c2, c3, c5, c6, q2] using this
  · have c5 : ¬ way < 14 := fun z => c4 (.inl z)
    have c6 : ¬ (deep : Int) < 2 := fun z => c4 (.inr z)
    obtain ⟨j, st2, q2, d0, d1, f2, s2⟩ := take_g n f1 (many := 4) (by decide) (by decide) (by omega)
    have step : ∀ (d : D) (st : Sto) (C : Int), Fd r C st → C + b < 2 ^ 60 → Dr r C b Pc st ((eCall (Phi prog (n + 1) i__law_thing) (aCons (eVar 0) (aCons (e2 subD (eVar 1) (eC (.int 1))) aNil))) ([some (.obj r), some (.int deep), some (.int way), none].set 3 (some d)) st) := fun d st C h hC => by simpa using rec (by omega) st C h hC
    obtain ⟨ys, st3, q3, l3, p3, f3, s3⟩ := comp_draw hb0 step (upI 0 j.toNat) st2 (C + 1 + 1) f2 (by rw [upI_len]; have : b * (j.toNat : Int) ≤ b * 3 := Int.mul_le_mul_of_nonneg_left (by omega) hb0; omega)
    rw [upI_len] at l3 f3
    have hj : b * (j.toNat : Int) ≤ b * 3 := Int.mul_le_mul_of_nonneg_left (by omega) hb0
    simp [b__law_thing, q1, c1, c2, c3, c5, c6, q2, rng1_ok (j := j) (by omega) (by omega), upI_len, lsz j.toNat (by omega), wipeE, q3, tupleL]
    exact ⟨_, st3, rfl, ht (by omega) ys (by omega) p3, f3.mono (by omega), (s1.trans s2).trans s3⟩
theorem thing_1 (n r : Nat) (C : Int) (st : Sto) (h : Fd r C st) (hC : C + 64 < 2 ^ 60) : Dr r C 64 (Tt 0 0 10) st (Phi prog (n + 2) i__law_thing [.obj r, .int 1] st) :=
  thing_P (Tt 0 0 10) (fun _ => False) 1 n st r C h (b := 0) (by omega) (fun i hi => tt_int hi (by decide) (by decide)) (tt_words (by decide) (by decide)) (tt_non (by decide) (by decide)) (fun b => tt_bl (by decide) (by decide)) (fun z => absurd z (by decide)) (fun z => absurd z (by decide)) (by decide) (by decide) (by omega) (by decide)
theorem thing_2 (n r : Nat) (C : Int) (st : Sto) (h : Fd r C st) (hC : C + 256 < 2 ^ 60) : Dr r C 256 (Tt 1 3 31) st (Phi prog (n + 3) i__law_thing [.obj r, .int 2] st) :=
  thing_P (Tt 1 3 31) (Tt 0 0 10) 2 (n + 1) st r C h (b := 64) (by omega) (fun i hi => tt_int hi (by decide) (by decide)) (tt_words (by decide) (by decide)) (tt_non (by decide) (by decide)) (fun b => tt_bl (by decide) (by decide)) (fun _ ys hl h => tt_tup ys hl (by decide) h) (fun _ st C h hC => thing_1 n r C st h hC) (by decide) (by decide) (by omega) (by decide)
theorem thing_3 (n r : Nat) (C : Int) (st : Sto) (h : Fd r C st) (hC : C + 1024 < 2 ^ 60) : Dr r C 1024 (Tt 2 12 94) st (Phi prog (n + 4) i__law_thing [.obj r, .int 3] st) :=
  thing_P (Tt 2 12 94) (Tt 1 3 31) 3 (n + 2) st r C h (b := 256) (by omega) (fun i hi => tt_int hi (by decide) (by decide)) (tt_words (by decide) (by decide)) (tt_non (by decide) (by decide)) (fun b => tt_bl (by decide) (by decide)) (fun _ ys hl h => tt_tup ys hl (by decide) h) (fun _ st C h hC => thing_2 n r C st h hC) (by decide) (by decide) (by omega) (by decide)
theorem thing_4 (n r : Nat) (C : Int) (st : Sto) (h : Fd r C st) (hC : C + 4096 < 2 ^ 60) : Dr r C 4096 (Tt 3 39 283) st (Phi prog (n + 5) i__law_thing [.obj r, .int 4] st) :=
  thing_P (Tt 3 39 283) (Tt 2 12 94) 4 (n + 3) st r C h (b := 1024) (by omega) (fun i hi => tt_int hi (by decide) (by decide)) (tt_words (by decide) (by decide)) (tt_non (by decide) (by decide)) (fun b => tt_bl (by decide) (by decide)) (fun _ ys hl h => tt_tup ys hl (by decide) h) (fun _ st C h hC => thing_3 n r C st h hC) (by decide) (by decide) (by omega) (by decide)
end Mi

namespace Mi
open PySem L2
def abc (c : Nat) : Bool := decide (97 ≤ c) && decide (c ≤ 122)
def nameB (x : Str) : Bool := decide (1 ≤ x.length) && (decide (x.length ≤ 8) && x.cps.toList.all abc)
def isLead : D → Bool
  | .tup [.str w, .str x] => decide (w = "to") && nameB x
  | _ => false
def leadName : List D → List Str
  | [_, .str x] => [x]
  | _ => []
def ledLead (f : Str → Str) : List D → D
  | [w, .str x] => .tup [w, .str (f x)]
  | _ => .non
mutual
def leads : D → List Str
  | .tup ds => if isLead (.tup ds) = true then leadName ds else leadss ds
  | _ => []
def leadss : List D → List Str
  | [] => []
  | d :: ds => leads d ++ leadss ds
end
mutual
def led (f : Str → Str) : D → D
  | .tup ds => if isLead (.tup ds) = true then ledLead f ds else .tup (leds f ds)
  | d => d
def leds (f : Str → Str) : List D → List D
  | [] => []
  | d :: ds => led f d :: leds f ds
end
theorem isLead_shape {ds : List D} (h : isLead (.tup ds) = true) : ∃ x, ds = [.str "to", .str x] ∧ nameB x = true := by
  unfold isLead at h
  split at h
  · rename_i w x e
    cases e
    rw [Bool.and_eq_true, decide_eq_true_eq] at h
    obtain ⟨rfl, h2⟩ := h
    exact ⟨x, rfl, h2⟩
  · cases h
def alpha : Str := "abcdefghijklmnopqrstuvwxyz"
theorem in_abc : ∀ c < 128, inO (.str ⟨#[c]⟩) (.str "abcdefghijklmnopqrstuvwxyz") [] = some (abc c) := by
  have : ∀ c < 128, decide (c ∈ (Str.ofString "abcdefghijklmnopqrstuvwxyz").cps.toList) = abc c := by decide +kernel
  intro c hc
  unfold inO
  dsimp only
  rw [if_pos (show (#[c] : Array Nat).size = 1 from rfl)]
  show some (decide (c ∈ (Str.ofString "abcdefghijklmnopqrstuvwxyz").cps.toList)) = _
  rw [this c hc]
theorem inD_abc {c : Nat} (h : c < 128) (st : Sto) : inD (.str ⟨#[c]⟩) (.str "abcdefghijklmnopqrstuvwxyz") st = .ok (.bl (abc c)) st := by
  unfold inD
  have := in_abc c h
  have e : inO (.str ⟨#[c]⟩) (.str "abcdefghijklmnopqrstuvwxyz") st = inO (.str ⟨#[c]⟩) (.str "abcdefghijklmnopqrstuvwxyz") [] := rfl
  rw [e, this]
theorem ninD_abc {c : Nat} (h : c < 128) (st : Sto) : notInD (.str ⟨#[c]⟩) (.str "abcdefghijklmnopqrstuvwxyz") st = .ok (.bl (!abc c)) st := by
  unfold notInD
  have := in_abc c h
  have e : inO (.str ⟨#[c]⟩) (.str "abcdefghijklmnopqrstuvwxyz") st = inO (.str ⟨#[c]⟩) (.str "abcdefghijklmnopqrstuvwxyz") [] := rfl
  rw [e, this]
theorem allO_bl {f : Nat → Bool} : ∀ cs : List Nat, allO toB (cs.map fun c => .bl (f c)) = some (cs.map f)
  | [] => rfl
  | c :: cs => by rw [List.map_cons, allO, allO_bl cs]; rfl
theorem name_p (m : Nat) (d : D) (st : Sto) (h : Th d) : Phi prog (m + 1) i_is_name [d] st = .ok (.bl (match d with | .str x => nameB x | _ => false)) st := by
  rw [Phi_is_name, runB_eq]
  cases d with
  | kl => exact h.elim
  | ev => exact h.elim
  | obj => exact h.elim
  | fn => exact h.elim
  | ty => exact h.elim
  | str x =>
    obtain ⟨xa, xl⟩ : asc x ∧ x.length ≤ 100 := h
    have ln := len_str (z := x) (st := st) (lsz _ (by omega))
    have e := comp_map (st := st) (F := e2 inD (eVar 1) (eC (.str "abcdefghijklmnopqrstuvwxyz"))) (env := [some (.str x), none]) (s := 1) (f := fun d => match d with | .str y => .bl (y.cps.toList.all abc) | d => d) (ds := x.cps.toList.map fun c => .str ⟨#[c]⟩) (fun d hx => by
      obtain ⟨c, hc, rfl⟩ := List.mem_map.mp hx
      simp [inD_abc (xa c hc)])
    rw [List.map_map] at e
    have e' : (List.map ((fun d => match d with | .str y => D.bl (y.cps.toList.all abc) | d => d) ∘ fun c => D.str ⟨#[c]⟩) x.cps.toList) = x.cps.toList.map fun c => .bl (abc c) := by
      apply List.map_congr_left
      intro c _
      simp
    rw [e'] at e
    have al : allL (x.cps.toList.map fun c => .bl (abc c)) st = .ok (.bl (x.cps.toList.all abc)) st := by
      unfold allL
      rw [allO_bl]
      dsimp only
      rw [show (x.cps.toList.map abc).all id = x.cps.toList.all abc from by simp [List.all_map]]
    have il : iterD (.str x) st = some (x.cps.toList.map fun c => .str ⟨#[c]⟩, []) := rfl
    have hl : (x.cps.toList.map fun c => D.str ⟨#[c]⟩).length ≤ sizeLine := lsz _ (by rw [List.length_map]; have : x.cps.toList.length = x.length := by simp [Str.length]
                                                                                      omega)
    generalize (x.cps.toList.map fun c => D.str ⟨#[c]⟩) = L at *
    show _ = R.ok (D.bl (nameB x)) st
    unfold nameB
    generalize (x.cps.toList.all abc) = Z at *
    generalize (x.cps.toList.map fun c => D.bl (abc c)) = Y at *
    by_cases z : 1 ≤ x.length
    · have z' : (1 : Int) ≤ (x.length : Nat) := by omega
      by_cases y : x.length ≤ 8
      · have y' : ((x.length : Nat) : Int) ≤ 8 := by omega
        simp [b_is_name, ln, z, z', y, y', il, hl, wipeE, e, al]
      · have y' : ¬ ((x.length : Nat) : Int) ≤ 8 := by omega
        simp [b_is_name, ln, z, z', y, y']
    · have z' : ¬ (1 : Int) ≤ (x.length : Nat) := by omega
      simp [b_is_name, ln, z, z']
  | _ => simp [b_is_name]
theorem lead_p (m : Nat) (d : D) (st : Sto) (h : Th d) : Phi prog (m + 2) i_is_lead [d] st = .ok (.bl (isLead d)) st := by
  rw [Phi_is_lead, runB_eq]
  cases d with
  | kl => exact h.elim
  | ev => exact h.elim
  | obj => exact h.elim
  | fn => exact h.elim
  | ty => exact h.elim
  | tup ds =>
    match ds, h with
    | [], _ => simp [b_is_lead, isLead]
    | [a], _ => simp [b_is_lead, isLead]
    | a :: b :: c :: r, _ =>
      have : ¬ (((r.length : Nat) : Int) + 1 + 1 + 1 = 2) := by omega
      simp [b_is_lead, isLead, this]
    | [a, b], h =>
      have nb := name_p m b st h.2.1
      have sh : ∀ a b, (∀ w, a ≠ .str w) → isLead (.tup [a, b]) = false := fun a b ha => by
        cases a with
        | str w => exact absurd rfl (ha w)
        | _ => rfl
      cases a with
      | str w =>
        by_cases c : w = "to"
        · subst c
          cases b with
          | str x => simp at nb; simp [b_is_lead, isLead, nb]
          | _ => simp at nb; simp [b_is_lead, isLead, nb]
        · have : isLead (.tup [.str w, b]) = false := by
            cases b with
            | str x => simp [isLead, c]
            | _ => rfl
          simp [b_is_lead, this, c]
      | kl => exact h.1.elim
      | ev => exact h.1.elim
      | obj => exact h.1.elim
      | fn => exact h.1.elim
      | ty => exact h.1.elim
      | _ => simp [b_is_lead, isLead]
  | _ => simp [b_is_lead, isLead]
end Mi

namespace Mi
open PySem L2
theorem leads_nt {d : D} (h : ∀ ds, d ≠ .tup ds) : leads d = [] := by
  cases d with
  | tup ds => exact absurd rfl (h ds)
  | _ => simp [leads]
theorem leads_lead {ds : List D} {x : Str} (e : ds = [.str "to", .str x]) (h : isLead (.tup ds) = true) : leads (.tup ds) = [x] := by
  rw [leads, if_pos h]
  subst e
  rfl
theorem leads_no {ds : List D} (h : isLead (.tup ds) = false) : leads (.tup ds) = leadss ds := by rw [leads, if_neg (by rw [h]; decide)]
mutual
theorem leads_len : ∀ d : D, (leads d).length ≤ sz d
  | .tup ds => by
    rw [sz]
    have := leadss_len ds
    by_cases h : isLead (.tup ds) = true
    · obtain ⟨x, e, _⟩ := isLead_shape h
      rw [leads_lead e h]
      simp
    · rw [leads_no (by simpa using h)]
      omega
  | .non => by simp [leads]
  | .bl _ => by simp [leads]
  | .int _ => by simp [leads]
  | .str _ => by simp [leads]
  | .obj _ => by simp [leads]
  | .fn _ => by simp [leads]
  | .ty _ => by simp [leads]
  | .kl _ => by simp [leads]
  | .ev _ => by simp [leads]
theorem leadss_len : ∀ ds : List D, (leadss ds).length ≤ szs ds
  | [] => by simp [leadss]
  | d :: ds => by
    rw [leadss, szs, List.length_append]
    have := leads_len d
    have := leadss_len ds
    omega
end
/-! comprehensions with two fors -/
theorem c2In_p {n k : Nat} {ys : List D} {env : Env} (hk : k ≠ n) : ∀ (zs acc : List D) (st : Sto), st[n]? = some (.lst acc) → st[k]? = some (.lst ys) → acc.length + zs.length ≤ 1000000 →
    c2In n [(k, ys)] (.nm 2) cYes (eVar 2) [env[0]?.join, env[1]?.join, none] zs st = .ok () (st.set n (.lst (acc ++ zs)))
  | [], acc, st, hn, hy, _ => by
    rw [c2In, if_pos (okW_at hy), List.append_nil]
    have : st.set n (.lst acc) = st := by
      apply List.ext_getElem?
      intro i
      by_cases hi : i = n
      · subst hi; rw [at_set, hn]; rfl
      · rw [List.getElem?_set_ne (Ne.symm hi)]
    rw [this]
  | z :: zs, acc, st, hn, hy, hl => by
    rw [List.length_cons] at hl
    rw [c2In, if_pos (okW_at hy)]
    have b : bindT (.nm 2) z [env[0]?.join, env[1]?.join, none] = some [env[0]?.join, env[1]?.join, some z] := rfl
    rw [b]
    show (match st[n]? with | some (.lst acc) => if acc.length < sizeLine then c2In n [(k, ys)] (.nm 2) cYes (eVar 2) [env[0]?.join, env[1]?.join, none] zs (st.set n (.lst (acc ++ [z]))) else R.stuck | _ => .stuck) = _
    rw [hn]
    dsimp only
    rw [if_pos (by rw [szL]; omega), c2In_p hk zs (acc ++ [z]) (st.set n (.lst (acc ++ [z]))) (by rw [at_set, hn]; rfl) (by rw [List.getElem?_set_ne (Ne.symm hk)]; exact hy) (by simp; omega)]
    rw [List.set_set, List.append_assoc]
    rfl
theorem c2Out_p (m n : Nat) (x0 : D) (rec : ∀ d, Th d → dp' d + 3 < m → sz d ≤ 100000 → ∀ st, ∃ k t, Phi prog m i_leads_in [d] st = .ok (.obj k) (st ++ t) ∧ st.length ≤ k ∧ (st ++ t)[k]? = some (.lst ((leads d).map .str))) :
    ∀ (ds : List D) (acc : List D) (S T : Sto), n = S.length → Ths ds → dps' ds + 3 < m → szs ds + acc.length ≤ 100000 → ∃ T', c2Out n [] (.nm 1) cYes [2] (.nm 2) (iVal (eCall (Phi prog m i_leads_in) (aCons (eVar 1) aNil))) cYes (eVar 2) [some x0, none, none] ds (S ++ (.lst acc :: T)) = .ok () (S ++ (.lst (acc ++ (leadss ds).map .str) :: T'))
  | [], acc, S, T, hn, _, _, _ => ⟨T, by rw [c2Out, if_pos (show okW [] _ = true from rfl), leadss]; simp⟩
  | d :: ds, acc, S, T, hn, ht, hd, hs => by
    rw [dps'] at hd
    rw [szs] at hs
    obtain ⟨k, t, q, hk, hL⟩ := rec d ht.1 (by omega) (by omega) (S ++ (.lst acc :: T))
    have ll := leads_len d
    have kn : k ≠ n := by rw [List.length_append, List.length_cons] at hk; omega
    have an : (S ++ (.lst acc :: T) ++ t)[n]? = some (.lst acc) := by rw [hn]; simp
    have hin := c2In_p (env := [some x0, some d]) kn ((leads d).map .str) acc _ an hL (by simp; omega)
    have es : (S ++ (.lst acc :: T) ++ t).set n (.lst (acc ++ (leads d).map .str)) = S ++ (.lst (acc ++ (leads d).map .str) :: (T ++ t)) := by rw [hn]; simp
    rw [es] at hin
    obtain ⟨T', q'⟩ := c2Out_p m n x0 rec ds (acc ++ (leads d).map .str) S (T ++ t) hn ht.2 (by omega) (by simp; omega)
    refine ⟨T', ?_⟩
    rw [c2Out, if_pos (show okW [] _ = true from rfl)]
    have b : bindT (.nm 1) d [some x0, none, none] = some [some x0, some d, none] := rfl
    rw [b]
    have iI : iVal (eCall (Phi prog m i_leads_in) (aCons (eVar 1) aNil)) [some x0, some d, none] (S ++ (.lst acc :: T)) = .ok ((leads d).map .str, [(k, (leads d).map .str)]) (S ++ (.lst acc :: T) ++ t) := by
      generalize hU : S ++ (Ob.lst acc :: T) ++ t = U at *
      generalize S ++ (Ob.lst acc :: T) = V at *
      simp [q, iter_obj hL]
    show (noX (iVal (eCall (Phi prog m i_leads_in) (aCons (eVar 1) aNil)) [some x0, some d, none] (S ++ (.lst acc :: T)))).bind _ = _
    rw [iI]
    show (c2In n [(k, (leads d).map .str)] (.nm 2) cYes (eVar 2) (wipeE [some x0, some d, none] [2]) ((leads d).map .str) (S ++ (.lst acc :: T) ++ t)).bind _ = _
    have we : wipeE [some x0, some d, none] [2] = [some x0, some d, none] := rfl
    rw [we]
    have hin' : c2In n [(k, (leads d).map .str)] (.nm 2) cYes (eVar 2) [some x0, some d, none] ((leads d).map .str) (S ++ (.lst acc :: T) ++ t) = .ok () (S ++ (.lst (acc ++ (leads d).map .str) :: (T ++ t))) := hin
    rw [hin']
    show c2Out n [] (.nm 1) cYes [2] (.nm 2) (iVal (eCall (Phi prog m i_leads_in) (aCons (eVar 1) aNil))) cYes (eVar 2) [some x0, none, none] ds (S ++ (.lst (acc ++ (leads d).map .str) :: (T ++ t))) = _
    rw [q', leadss, List.map_append, List.append_assoc]
theorem leads_in_p : ∀ (m : Nat) (d : D), Th d → dp' d + 3 < m → sz d ≤ 100000 → ∀ st, ∃ k t, Phi prog m i_leads_in [d] st = .ok (.obj k) (st ++ t) ∧ st.length ≤ k ∧ (st ++ t)[k]? = some (.lst ((leads d).map .str)) := by
  intro m
  induction m with
  | zero => intro d _ h; omega
  | succ m ih =>
    intro d ht hd hs st
    obtain ⟨m, rfl⟩ : ∃ k, m = k + 2 := ⟨m - 2, by omega⟩
    rw [Phi_leads_in, runB_eq]
    have il := lead_p m d st ht
    cases d with
    | kl => exact ht.elim
    | ev => exact ht.elim
    | obj => exact ht.elim
    | fn => exact ht.elim
    | ty => exact ht.elim
    | tup ds =>
      by_cases h : isLead (.tup ds) = true
      · obtain ⟨x, e, _⟩ := isLead_shape h
        rw [h] at il
        refine ⟨st.length, [.lst [.str x]], ?_, Nat.le_refl _, by rw [leads_lead e h]; simp⟩
        subst e
        simp [b_leads_in, il, lsz]
      · have h' : isLead (.tup ds) = false := by simpa using h
        rw [h'] at il
        rw [sz] at hs
        rw [dp'] at hd
        obtain ⟨T', q⟩ := c2Out_p (m + 2) st.length (.tup ds) ih ds [] st [] rfl ht (by omega) (by simp; omega)
        refine ⟨st.length, .lst ((leadss ds).map .str) :: T', ?_, Nat.le_refl _, by rw [leads_no h']; simp⟩
        have q2 : eComp2 [1, 2] (.nm 1) (iVal (eVar 0)) (cYes) [2] (.nm 2) (iVal (eCall (Phi prog (m + 2) i_leads_in) (aCons (eVar 1) (aNil)))) (cYes) (eVar 2) [some (.tup ds), none, none] st = .ok (.obj st.length) (st ++ (.lst ((leadss ds).map .str) :: T')) := by
          unfold eComp2
          show (c2Out st.length [] (.nm 1) cYes [2] (.nm 2) (iVal (eCall (Phi prog (m + 2) i_leads_in) (aCons (eVar 1) aNil))) cYes (eVar 2) [some (.tup ds), none, none] ds (st ++ [.lst []])).bind _ = _
          rw [q]
          rfl
        simp [b_leads_in, il, q2]
    | _ =>
      refine ⟨st.length, [.lst []], ?_, Nat.le_refl _, by simp [leads]⟩
      simp [isLead] at il
      simp [b_leads_in, il, lsz]
end Mi

namespace Mi
open PySem L2
/-- the texts that are drawn -/
def SS : List Str := ["", "a", "A", "ab", "b", "to", "none", "\"\\(,", "ninesigns", "To", "c", "d", "e", "abox", "zz", "abcdefgh", "q", "slot", "new", "on", "drop", "aa", "aaa", "abcdefg"]
mutual
def Wt : D → Prop
  | .non => True
  | .bl _ => True
  | .int i => (-20 ≤ i ∧ i ≤ 19) ∨ i = 1000000000000000000000000000000
  | .str x => x ∈ SS
  | .tup ds => Wts ds
  | _ => False
def Wts : List D → Prop
  | [] => True
  | d :: ds => Wt d ∧ Wts ds
end
theorem SS_ok : ∀ x ∈ SS, asc x ∧ x.length ≤ 9 := by
  have : ∀ x ∈ SS, (ascB x && decide (x.length ≤ 9)) = true := by decide +kernel
  intro x hx
  have h := this x hx
  rw [Bool.and_eq_true, decide_eq_true_eq] at h
  exact ⟨asc_of h.1, h.2⟩
mutual
theorem Wt.th : ∀ d : D, Wt d → Th d
  | .non, _ => trivial
  | .bl _, _ => trivial
  | .int i, h => by
    have h : (-20 ≤ i ∧ i ≤ 19) ∨ i = 1000000000000000000000000000000 := h
    show i.natAbs < 2 ^ 240
    rcases h with h | h <;> omega
  | .str x, h => by
    obtain ⟨a, b⟩ := SS_ok x h
    exact ⟨a, by omega⟩
  | .tup ds, h => Wts.th ds h
  | .obj _, h => h.elim
  | .fn _, h => h.elim
  | .ty _, h => h.elim
  | .kl _, h => h.elim
  | .ev _, h => h.elim
theorem Wts.th : ∀ ds : List D, Wts ds → Ths ds
  | [], _ => trivial
  | d :: ds, h => ⟨Wt.th d h.1, Wts.th ds h.2⟩
end
theorem Wts.of : ∀ {ds : List D}, (∀ d ∈ ds, Wt d) → Wts ds
  | [], _ => trivial
  | d :: ds, h => ⟨h d List.mem_cons_self, Wts.of fun x hx => h x (List.mem_cons_of_mem _ hx)⟩
theorem Wts.mem : ∀ {ds : List D}, Wts ds → ∀ d ∈ ds, Wt d
  | [], _, d, hd => by simp at hd
  | x :: xs, h, d, hd => by
    rcases List.mem_cons.mp hd with rfl | hd
    · exact h.1
    · exact Wts.mem h.2 d hd
/-! repr -/
theorem toQs_rp {st : Sto} {n : Nat} : ∀ {ds : List D}, (∀ d ∈ ds, toQ st n d = some (rp d)) → allO (toQ st n) ds = some (rps ds)
  | [], _ => rfl
  | d :: ds, h => by rw [allO, h d List.mem_cons_self, toQs_rp fun x hx => h x (List.mem_cons_of_mem _ hx)]; rfl
theorem toQ_rp (st : Sto) : ∀ (n : Nat) (d : D), Th d → dp' d ≤ n → toQ st n d = some (rp d) := by
  intro n
  induction n with
  | zero =>
    intro d h k
    cases d with
    | tup ds => rw [dp'] at k; omega
    | kl => exact h.elim
    | ev => exact h.elim
    | obj => exact h.elim
    | fn => exact h.elim
    | ty => exact h.elim
    | _ => rfl
  | succ n ih =>
    intro d h k
    cases d with
    | tup ds =>
      rw [dp'] at k
      rw [toQ, toQs_rp fun x hx => ih x (Ths.mem h x hx) (by have := dps_mem hx; omega)]
      rfl
    | kl => exact h.elim
    | ev => exact h.elim
    | obj => exact h.elim
    | fn => exact h.elim
    | ty => exact h.elim
    | _ => rfl
theorem rq_th {d : D} (h : Th d) (hd : dp' d ≤ 60) (hs : sz d ≤ 9000) (st : Sto) : reprQ [d] st = .ok (.str (rp d).shown) st := by
  obtain ⟨h1, _, h3, h4⟩ := rp_ok d h
  exact rq_of (toQ_rp st 66 d h (by omega)) h1 (by omega) (by omega)
theorem rq_lst {n : Nat} {ds : List D} {st : Sto} (hn : st[n]? = some (.lst ds)) (h : Ths ds) (hd : dps' ds ≤ 60) (hs : szs ds ≤ 9000) : reprQ [.obj n] st = .ok (.str (PyData.list (rps ds)).shown) st := by
  obtain ⟨h1, _, h3, h4⟩ := rps_ok ds h
  refine rq_of (p := .list (rps ds)) ?_ (by rw [PyData.showable]; exact h1) (by rw [PyData.depth]; omega) ?_
  · rw [toQ, hn]
    dsimp only
    rw [toQs_rp fun x hx => toQ_rp st 65 x (Ths.mem h x hx) (by have := dps_mem hx; omega)]
  · rw [PyData.shown]
    have := listText_len_le (PyData.shownAll (rps ds))
    omega
def isTo : D → Bool | .str w => decide (w = "to") | _ => false
theorem to_shown (d : D) (h : Wt d) : decide ((rp d).shown = Str.ofString "'to'") = isTo d := by
  cases d with
  | non => exact decide_eq_false (by simp only [rp, PyData.shown]; decide +kernel)
  | bl b => cases b <;> exact decide_eq_false (by simp only [rp, PyData.shown]; decide +kernel)
  | int i =>
    have h : (-20 ≤ i ∧ i ≤ 19) ∨ i = 1000000000000000000000000000000 := h
    have fin : ∀ k : Fin 40, ¬ (PyData.int ((k.val : Int) - 20)).shown = Str.ofString "'to'" := by decide +kernel
    rcases h with h | rfl
    · have := fin ⟨(i + 20).toNat, by omega⟩
      have e : (((i + 20).toNat : Nat) : Int) - 20 = i := by omega
      simp only [e] at this
      exact decide_eq_false this
    · exact decide_eq_false (by simp only [rp]; decide +kernel)
  | str x =>
    have fin : ∀ x ∈ SS, decide ((PyData.str x).shown = Str.ofString "'to'") = decide (x = Str.ofString "to") := by decide +kernel
    have := fin x h
    rw [rp, this]
    rfl
  | tup ds =>
    refine decide_eq_false fun e => ?_
    rw [rp, PyData.shown] at e
    have c0 : (Str.ofString "(").cps = #[40] := by decide +kernel
    have : ((tupleText (PyData.shownAll (rps ds))).cps)[0]? = some 40 := by
      unfold tupleText
      show ((Str.ofString "(").cps ++ (Str.join ", " (PyData.shownAll (rps ds))).cps ++ _)[0]? = some 40
      rw [c0, Array.append_assoc, Array.getElem?_append_left (by simp)]
      rfl
    rw [e] at this
    revert this
    decide +kernel
  | kl => exact h.elim
  | ev => exact h.elim
  | obj => exact h.elim
  | fn => exact h.elim
  | ty => exact h.elim
end Mi

namespace Mi
open PySem L2
/-- a dict of names, by what it tells -/
def Nm (st : Sto) (n : Nat) (f : Str → Str) : Prop := ∃ kvs, st[n]? = some (.dic kvs) ∧ ∀ x, (dgetL kvs (.inr x)).getD (.str x) = .str (f x)
theorem Nm.app {st t : Sto} {n : Nat} {f : Str → Str} (h : Nm st n f) : Nm (st ++ t) n f := let ⟨kvs, a, b⟩ := h; ⟨kvs, at_old a, b⟩
theorem leds_map (f : Str → Str) : ∀ ds : List D, ds.map (led f) = leds f ds
  | [] => rfl
  | d :: ds => by rw [List.map_cons, leds_map f ds, leds]
theorem led_lead {f : Str → Str} {ds : List D} {x : Str} (e : ds = [.str "to", .str x]) (h : isLead (.tup ds) = true) : led f (.tup ds) = .tup [.str "to", .str (f x)] := by
  rw [led, if_pos h]
  subst e
  rfl
theorem led_no {f : Str → Str} {ds : List D} (h : isLead (.tup ds) = false) : led f (.tup ds) = .tup (leds f ds) := by rw [led, if_neg (by rw [h]; decide)]
theorem led_p (f : Str → Str) : ∀ (m : Nat) (d : D) (st : Sto) (n : Nat), Nm st n f → Th d → dp' d + 3 < m → sz d ≤ 100000 → Phi prog m i_led_anew [d, .obj n] st = .ok (led f d) st := by
  intro m
  induction m with
  | zero => intro d _ _ _ _ h; omega
  | succ m ih =>
    intro d st n hn ht hd hs
    obtain ⟨m, rfl⟩ : ∃ k, m = k + 2 := ⟨m - 2, by omega⟩
    rw [Phi_led_anew, runB_eq]
    have il := lead_p m d st ht
    cases d with
    | kl => exact ht.elim
    | ev => exact ht.elim
    | obj => exact ht.elim
    | fn => exact ht.elim
    | ty => exact ht.elim
    | tup ds =>
      by_cases h : isLead (.tup ds) = true
      · obtain ⟨x, e, _⟩ := isLead_shape h
        rw [h] at il
        obtain ⟨kvs, a, b⟩ := hn
        rw [led_lead e h, ← b x]
        subst e
        simp [b_led_anew, il, lsz, a]
      · have h' : isLead (.tup ds) = false := by simpa using h
        rw [h'] at il
        rw [sz] at hs
        rw [dp'] at hd
        have hl : ds.length ≤ sizeLine := lsz _ (by have := szs_len ds; omega)
        have e := comp_map (st := st) (F := eCall (Phi prog (m + 2) i_led_anew) (aCons (eVar 2) (aCons (eVar 1) aNil))) (env := [some (.tup ds), some (.obj n), none]) (s := 2) (f := led f) (ds := ds) (fun x hx => by
          have := ih x st n hn (Ths.mem ht x hx) (by have := dps_mem hx; omega) (by have := szs_mem hx; omega)
          simp [this])
        rw [led_no h', ← leds_map]
        simp [b_led_anew, il, iterD, hl, wipeE, e, tupleL]
    | _ =>
      simp [isLead] at il
      simp [b_led_anew, il, led]
/-! the law's own -/
theorem ext_oo {m n : Nat} {xs ys : List D} {st : Sto} (h1 : st[m]? = some (.lst xs)) (h2 : st[n]? = some (.lst ys)) (hl : xs.length + ys.length ≤ 1000000) : extendM (.obj m) [.obj n] st = .ok .non (st.set m (.lst (xs ++ ys))) := by
  unfold extendM
  simp only [h1, h2]
  rw [if_pos (lsz _ hl)]
theorem fl_p (m n : Nat) (x0 : D) (o3 : Option D) (rec : ∀ d, Wt d → dp' d + 3 < m ∧ dp' d ≤ 50 → sz d ≤ 9000 → ∀ st, ∃ k t, Phi prog m i__law_leads [d] st = .ok (.obj k) (st ++ t) ∧ st.length ≤ k ∧ (st ++ t)[k]? = some (.lst ((leads d).map .str))) :
    ∀ (ds acc : List D) (S T : Sto) (o2 : Option D), n = S.length → Wts ds → dps' ds + 3 < m ∧ dps' ds ≤ 50 → szs ds ≤ 9000 → acc.length + szs ds ≤ 100000 → ∃ o T', forL [] (.nm 2) (L1__law_leads (Phi prog m)) ds [some x0, some (.obj n), o2, o3] (S ++ (.lst acc :: T)) = .nx [some x0, some (.obj n), o, o3] (S ++ (.lst (acc ++ (leadss ds).map .str) :: T'))
  | [], acc, S, T, o2, hn, _, _, _, _ => ⟨o2, T, by rw [forL_nil rfl, leadss]; simp⟩
  | d :: ds, acc, S, T, o2, hn, ht, hd, hs, ha => by
    rw [dps'] at hd
    rw [szs] at hs ha
    obtain ⟨k, t, q, hk, hL⟩ := rec d ht.1 (by omega) (by omega) (S ++ (.lst acc :: T))
    have ll := leads_len d
    have an : (S ++ (.lst acc :: T) ++ t)[n]? = some (.lst acc) := by rw [hn]; simp
    have ex := ext_oo an hL (by simp; omega)
    have es : (S ++ (.lst acc :: T) ++ t).set n (.lst (acc ++ (leads d).map .str)) = S ++ (.lst (acc ++ (leads d).map .str) :: (T ++ t)) := by rw [hn]; simp
    rw [es] at ex
    have e1 : L1__law_leads (Phi prog m) [some x0, some (.obj n), some d, o3] (S ++ (.lst acc :: T)) = .nx [some x0, some (.obj n), some d, o3] (S ++ (.lst (acc ++ (leads d).map .str) :: (T ++ t))) := by
      have sb : seqB ((S ++ (Ob.lst acc :: T))[n]?) = some acc := by rw [hn]; simp
      generalize hU : S ++ (Ob.lst acc :: T) ++ t = U at *
      generalize S ++ (Ob.lst acc :: T) = V at *
      generalize S ++ (Ob.lst (acc ++ (leads d).map D.str) :: (T ++ t)) = W at *
      simp [L1__law_leads, sb, q, ex]
    obtain ⟨o, T', q'⟩ := fl_p m n x0 o3 rec ds (acc ++ (leads d).map .str) S (T ++ t) (some d) hn ht.2 (by omega) (by omega) (by simp; omega)
    refine ⟨o, T', ?_⟩
    rw [forL_cons rfl (show bindT (.nm 2) d [some x0, some (.obj n), o2, o3] = some [some x0, some (.obj n), some d, o3] from rfl), e1]
    show forL [] (.nm 2) (L1__law_leads (Phi prog m)) ds [some x0, some (.obj n), some d, o3] (S ++ (.lst (acc ++ (leads d).map .str) :: (T ++ t))) = _
    rw [q', leadss, List.map_append, List.append_assoc]
theorem K1_leads (m : Nat) (ds : List D) (o1 o2 o3 : Option D) (st : Sto) (rec : ∀ d, Wt d → dp' d + 3 < m ∧ dp' d ≤ 50 → sz d ≤ 9000 → ∀ st, ∃ k t, Phi prog m i__law_leads [d] st = .ok (.obj k) (st ++ t) ∧ st.length ≤ k ∧ (st ++ t)[k]? = some (.lst ((leads d).map .str)))
    (ht : Wts ds) (hd : dps' ds + 3 < m ∧ dps' ds ≤ 50) (hs : szs ds ≤ 9000) : ∃ T', K1__law_leads (Phi prog m) [some (.tup ds), o1, o2, o3] st = .rt (.obj st.length) (st ++ (.lst ((leadss ds).map .str) :: T')) := by
  obtain ⟨o, T', q⟩ := fl_p m st.length (.tup ds) o3 rec ds [] st [] o2 rfl ht hd hs (by simp; omega)
  refine ⟨T', ?_⟩
  rw [List.nil_append] at q
  have it : ∀ st, iterD (.tup ds) st = some (ds, []) := fun _ => rfl
  simp [K1__law_leads, lsz, it, q]
def nabc : D → Bool
  | .str y => y.cps.toList.all abc
  | _ => false
theorem nabc_one (c : Nat) : nabc (.str ⟨#[c]⟩) = abc c := by simp [nabc]
theorem ll_p : ∀ (m : Nat) (d : D), Wt d → dp' d + 3 < m ∧ dp' d ≤ 50 → sz d ≤ 9000 → ∀ st, ∃ k t, Phi prog m i__law_leads [d] st = .ok (.obj k) (st ++ t) ∧ st.length ≤ k ∧ (st ++ t)[k]? = some (.lst ((leads d).map .str)) := by
  intro m
  induction m with
  | zero => intro d _ h; omega
  | succ m ih =>
    intro d hw hd hs st
    have ht := Wt.th d hw
    rw [Phi__law_leads, runB_eq]
    cases d with
    | kl => exact hw.elim
    | ev => exact hw.elim
    | obj => exact hw.elim
    | fn => exact hw.elim
    | ty => exact hw.elim
    | tup ds =>
      rw [sz] at hs
      rw [dp'] at hd
      obtain ⟨T', kq⟩ := K1_leads m ds none none none st ih hw (by omega) (by omega)
      have done : isLead (.tup ds) = false → endS (b__law_leads (Phi prog m) (List.map some [D.tup ds] ++ List.replicate (4 - [D.tup ds].length) none) st) = .ok (.obj st.length) (st ++ (.lst ((leadss ds).map .str) :: T')) →
          ∃ k t, endS (b__law_leads (Phi prog m) (List.map some [D.tup ds] ++ List.replicate (4 - [D.tup ds].length) none) st) = .ok (.obj k) (st ++ t) ∧ st.length ≤ k ∧ (st ++ t)[k]? = some (.lst ((leads (.tup ds)).map .str)) := fun h q => ⟨st.length, _, q, Nat.le_refl _, by rw [leads_no h]; simp⟩
      match ds, hw, ht, hs, hd, kq, done with
      | [], hw, ht, hs, hd, kq, done => exact done rfl (by simp [b__law_leads, kq])
      | [a], hw, ht, hs, hd, kq, done => exact done (by cases a <;> rfl) (by simp [b__law_leads, kq])
      | a :: b :: c :: r, hw, ht, hs, hd, kq, done =>
        have : ¬ (((r.length : Nat) : Int) + 1 + 1 + 1 = 2) := by omega
        exact done (by simp [isLead]) (by simp [b__law_leads, this, kq])
      | [a, b], hw, ht, hs, hd, kq, done =>
        rw [szs, szs] at hs
        rw [dps', dps'] at hd
        have ra := rq_th (Wt.th a hw.1) (by omega) (by omega) st
        have ts := to_shown a hw.1
        cases c1 : isTo a with
        | false =>
          rw [c1] at ts
          have ts' : ¬ (rp a).shown = Str.ofString "'to'" := of_decide_eq_false ts
          refine done ?_ ?_
          · cases a with
            | str w => have : ¬ w = "to" := of_decide_eq_false c1
                       cases b <;> simp [isLead, this]
            | _ => rfl
          · simp [b__law_leads, ra, ts', kq]
        | true =>
          rw [c1] at ts
          have ts' : (rp a).shown = Str.ofString "'to'" := of_decide_eq_true ts
          have ea : a = .str "to" := by
            cases a with
            | str w => have : w = "to" := of_decide_eq_true c1
                       rw [this]
            | _ => cases c1
          rw [ts'] at ra
          subst ea
          cases b with
          | str x =>
            obtain ⟨xa, xl⟩ := SS_ok x hw.2.1
            have ln := len_str (z := x) (st := st) (lsz _ (by omega))
            have e := comp_filter (w := []) (st := st) (C := tstB (e2 notInD (eVar 3) (eC (.str "abcdefghijklmnopqrstuvwxyz")))) (F := eVar 3) (env := [some (.tup [.str "to", .str x]), none, none, none]) (s := 3) (f := fun d => !nabc d) (ds := x.cps.toList.map fun c => .str ⟨#[c]⟩) rfl (fun d hx => by
              obtain ⟨c, hc, rfl⟩ := List.mem_map.mp hx
              simp [ninD_abc (xa c hc), nabc_one]) (fun d hx => by simp)
            have em := filt_empty (f := nabc) (x.cps.toList.map fun c => D.str ⟨#[c]⟩)
            have em2 : ((x.cps.toList.map fun c => D.str ⟨#[c]⟩).all nabc) = x.cps.toList.all abc := by
              rw [List.all_map]
              congr 1
              funext c
              exact nabc_one c
            rw [em2] at em
            have il : ∀ st, iterD (.str x) st = some (x.cps.toList.map fun c => .str ⟨#[c]⟩, []) := fun _ => rfl
            have hl : (x.cps.toList.map fun c => D.str ⟨#[c]⟩).length ≤ sizeLine := lsz _ (by rw [List.length_map]; have : x.cps.toList.length = x.length := by simp [Str.length]
                                                                                              omega)
            generalize (x.cps.toList.map fun c => D.str ⟨#[c]⟩) = L at *
            by_cases y1 : 1 ≤ x.length ∧ x.length ≤ 8
            · have z1 : (0 : Int) < (x.length : Nat) := by omega
              have z1n : 0 < x.length := by omega
              have z2 : ((x.length : Nat) : Int) < 9 := by omega
              cases ab : x.cps.toList.all abc with
              | true =>
                rw [ab] at em
                have il2 : isLead (.tup [.str "to", .str x]) = true := by simp [isLead, nameB, y1.1, y1.2, ab]
                refine ⟨st.length, [.lst [.str x]], ?_, Nat.le_refl _, by rw [leads_lead rfl il2]; simp⟩
                simp [b__law_leads, ra, ln, z1, z1n, z2, ltQ, il, hl, wipeE, e, em, lsz, -List.isEmpty_iff]
              | false =>
                rw [ab] at em
                refine done (by simp [isLead, nameB, ab]) ?_
                simp [b__law_leads, ra, ln, z1, z1n, z2, ltQ, il, hl, wipeE, e, em, lsz, -List.isEmpty_iff, kq]
            · refine done ?_ ?_
              · have : nameB x = false := by
                  unfold nameB
                  by_cases q : 1 ≤ x.length
                  · have : ¬ x.length ≤ 8 := fun z => y1 ⟨q, z⟩
                    simp [this]
                  · simp [q]
                simp [isLead, this]
              · by_cases q : 1 ≤ x.length
                · have z1 : (0 : Int) < (x.length : Nat) := by omega
                  have z1n : 0 < x.length := by omega
                  have z2 : ¬ ((x.length : Nat) : Int) < 9 := fun z => y1 ⟨q, by omega⟩
                  simp [b__law_leads, ra, ln, z1, z1n, z2, ltQ, kq]
                · have z1 : ¬ (0 : Int) < (x.length : Nat) := by omega
                  have z1n : ¬ 0 < x.length := by omega
                  have z1e : x.length = 0 := by omega
                  simp [b__law_leads, ra, ln, z1e, ltQ, kq]
          | kl => exact hw.2.1.elim
          | ev => exact hw.2.1.elim
          | obj => exact hw.2.1.elim
          | fn => exact hw.2.1.elim
          | ty => exact hw.2.1.elim
          | _ => exact done rfl (by simp [b__law_leads, ra, kq])
    | _ =>
      refine ⟨st.length, [.lst []], ?_, Nat.le_refl _, by simp [leads]⟩
      simp [b__law_leads, lsz]
end Mi

namespace Mi
open PySem L2
theorem comp_gr {F : DE} {env : Env} {s : Nat} {f : D → D} {st : Sto} : ∀ (ds : List D), (∀ d ∈ ds, ∀ t, ∃ t', F (env.set s (some d)) (st ++ t) = .ok (f d) (st ++ t')) → ∀ t, ∃ t', compL [] (.nm s) cYes F env ds (st ++ t) = .ok (ds.map f) (st ++ t')
  | [], _, t => ⟨t, compL_nil rfl⟩
  | d :: ds, h, t => by
    obtain ⟨t1, q1⟩ := h d List.mem_cons_self t
    obtain ⟨t2, q2⟩ := comp_gr ds (fun x hx => h x (List.mem_cons_of_mem _ hx)) t1
    exact ⟨t2, compL_yes rfl rfl q1 q2⟩
theorem shaped_lst {ds : List D} (h : Ths ds) (hd : dps' ds ≤ 60) : SeqAt.shaped (.list (rps ds)) = true := by
  have l : PyData.canLay0 (.list (rps ds)) = true := by rw [PyData.canLay0]; exact rps_lay ds h
  unfold SeqAt.shaped
  rw [l, Bool.true_and, decide_eq_true_eq, PyData.depth]
  have := (rps_ok ds h).2.2.1
  omega
theorem eq_ll {st : Sto} {m n : Nat} {xs ys : List D} (hm : st[m]? = some (.lst xs)) (hn : st[n]? = some (.lst ys)) (hx : Ths xs) (hy : Ths ys) (dx : dps' xs ≤ 60) (dy : dps' ys ≤ 60) : eqD (.obj m) (.obj n) st = .ok (.bl (PyData.eqvAll (rps xs) (rps ys))) st := by
  unfold eqD
  have e : eqO (.obj m) (.obj n) st = some (PyData.eqvAll (rps xs) (rps ys)) := by
    show eqG (.obj m) (.obj n) st = _
    unfold eqG
    rw [toP_obj hm hx dx, toP_obj hn hy dy]
    dsimp only
    rw [shaped_lst hx dx, shaped_lst hy dy]
    rfl
  rw [e]
mutual
theorem leads_th : ∀ d : D, Th d → Ths ((leads d).map .str) ∧ dps' ((leads d).map .str) ≤ 0
  | .tup ds, h => by
    by_cases c : isLead (.tup ds) = true
    · obtain ⟨x, e, _⟩ := isLead_shape c
      rw [leads_lead e c]
      subst e
      exact ⟨⟨h.2.1, trivial⟩, by simp [dps', dp']⟩
    · rw [leads_no (by simpa using c)]
      exact leadss_th ds h
  | .non, _ => by simp [leads, Ths, dps']
  | .bl _, _ => by simp [leads, Ths, dps']
  | .int _, _ => by simp [leads, Ths, dps']
  | .str _, _ => by simp [leads, Ths, dps']
  | .obj _, h => h.elim
  | .fn _, h => h.elim
  | .ty _, h => h.elim
  | .kl _, h => h.elim
  | .ev _, h => h.elim
theorem leadss_th : ∀ ds : List D, Ths ds → Ths ((leadss ds).map .str) ∧ dps' ((leadss ds).map .str) ≤ 0
  | [], _ => by simp [leadss, Ths, dps']
  | d :: ds, h => by
    obtain ⟨a, b⟩ := leads_th d h.1
    obtain ⟨a', b'⟩ := leadss_th ds h.2
    rw [leadss, List.map_append]
    refine ⟨Ths.of fun x hx => ?_, ?_⟩
    · rcases List.mem_append.mp hx with hx | hx
      · exact Ths.mem a x hx
      · exact Ths.mem a' x hx
    · have gen : ∀ xs ys : List D, dps' xs ≤ 0 → dps' ys ≤ 0 → dps' (xs ++ ys) ≤ 0 := by
        intro xs
        induction xs with
        | nil => intro ys _ h; exact h
        | cons x xs ih =>
          intro ys h1 h2
          rw [dps'] at h1
          rw [List.cons_append, dps']
          have := ih ys (by omega) h2
          omega
      exact gen _ _ b b'
end
theorem eqv_no : ∀ (b : D), isLead (.tup [.str "to", b]) = false → PyData.eqvAll (rps ((leads (.tup [.str "to", b])).map .str)) (rps [b]) = false := by
  intro b h
  rw [leads_no h, leadss, leadss, leadss, List.append_nil]
  rw [show leads (.str "to") = [] from rfl, List.nil_append]
  cases b with
  | tup ds =>
    generalize leads (.tup ds) = l
    match l with
    | [] => rfl
    | x :: r => simp [rps, rp, PyData.eqvAll, PyData.eqv]
  | _ => rfl
@[simp] theorem list_tupN {ds : List D} {st : Sto} : listB [.tup ds] st = .ok (.obj st.length) (st ++ [.lst ds]) := rfl
theorem cutG_1 (ds : List D) : cutG ds (some 1) none = ds.drop 1 := cut_from (k := 1)
theorem lled_p (f : Str → Str) : ∀ (m : Nat) (d : D), Wt d → dp' d + 5 < m ∧ dp' d ≤ 50 → sz d ≤ 9000 → ∀ (st : Sto) (n : Nat), Nm st n f → ∃ t, Phi prog m i__law_led [d, .obj n] st = .ok (led f d) (st ++ t) := by
  intro m
  induction m with
  | zero => intro d _ h; omega
  | succ m ih =>
    intro d hw hd hs st n hn
    have ht := Wt.th d hw
    rw [Phi__law_led, runB_eq]
    cases d with
    | kl => exact hw.elim
    | ev => exact hw.elim
    | obj => exact hw.elim
    | fn => exact hw.elim
    | ty => exact hw.elim
    | tup ds =>
      obtain ⟨k, t, q, hk, hL⟩ := ll_p m (.tup ds) hw (by omega) hs st
      obtain ⟨a1, a2⟩ := leads_th (.tup ds) ht
      rw [sz] at hs
      rw [dp'] at hd
      have dt : Ths (ds.drop 1) ∧ dps' (ds.drop 1) ≤ 60 := by
        cases ds with
        | nil => exact ⟨trivial, by simp [dps']⟩
        | cons a r => rw [dps'] at hd; exact ⟨ht.2, by simp; omega⟩
      have eq := eq_ll (st := st ++ t ++ [.lst (ds.drop 1)]) (m := k) (n := (st ++ t).length) (at_old hL) (by simp) a1 dt.1 (by omega) dt.2
      have sl : ∀ st, slD (.tup ds) (some 1) none st = .ok (.tup (ds.drop 1)) st := fun _ => by rw [sl_tup', cutG_1]
      have hn2 : Nm (st ++ t ++ [.lst (ds.drop 1)]) n f := hn.app.app
      obtain ⟨t', cq⟩ := comp_gr (F := eCall (Phi prog m i__law_led) (aCons (eVar 2) (aCons (eVar 1) aNil))) (env := [some (.tup ds), some (.obj n), none]) (s := 2) (f := led f) (st := st) ds (fun x hx t => by
          obtain ⟨t2, q2⟩ := ih x (Wts.mem hw x hx) (by have := dps_mem hx; omega) (by have := szs_mem hx; omega) (st ++ t) n hn.app
          exact ⟨t ++ t2, by simp [q2]⟩) (t ++ [.lst (ds.drop 1)])
      rw [← List.append_assoc] at cq
      have hl : ds.length ≤ sizeLine := lsz _ (by have := szs_len ds; omega)
      have it : ∀ st, iterD (.tup ds) st = some (ds, []) := fun _ => rfl
      rw [leds_map] at cq
      by_cases h : isLead (.tup ds) = true
      · obtain ⟨x, e, _⟩ := isLead_shape h
        rw [led_lead e h]
        rw [leads_lead e h] at eq
        subst e
        have ra := fun st => rq_th (Wt.th _ hw.1) (by simp [dp']) (by rw [szs] at hs; omega) st
        have ts : (rp (.str (Str.ofString "to"))).shown = Str.ofString "'to'" := by decide +kernel
        rw [ts] at ra
        have ee : PyData.eqvAll (rps (List.map D.str [x])) (rps (List.drop 1 [D.str (Str.ofString "to"), D.str x])) = true := by simp [rps, rp, PyData.eqvAll, PyData.eqv]
        rw [ee] at eq
        obtain ⟨kvs, ha, hb⟩ := hn2
        refine ⟨t ++ [.lst [.str x]], ?_⟩
        rw [← List.append_assoc]
        rw [← hb x]
        simp only [List.drop_one, List.tail_cons] at *
        generalize st ++ t = U at *
        simp [b__law_led, q, sl, -sl_tup', eq, ra, ha, lsz]
      · have h' : isLead (.tup ds) = false := by simpa using h
        rw [led_no h']
        refine ⟨t', ?_⟩
        have key : ∀ E : Bool, (∀ a b, ds = [a, b] → isTo a = true → E = false) → eqD (.obj k) (.obj (st ++ t).length) (st ++ t ++ [.lst (ds.drop 1)]) = .ok (.bl E) (st ++ t ++ [.lst (ds.drop 1)]) →
            endS (b__law_led (Phi prog m) (List.map some [D.tup ds, .obj n] ++ List.replicate (3 - [D.tup ds, .obj n].length) none) st) = .ok (.tup (leds f ds)) (st ++ t') := by
          intro E hE eq
          generalize hV : st ++ t' = V at *
          generalize hU : st ++ t = U at *
          cases E with
          | false => 
            generalize hds : ds.drop 1 = tl at *
            simp [b__law_led, q, sl, -sl_tup', eq, it, hl, wipeE, cq, tupleL]
          | true =>
            by_cases l2 : ds.length = 2
            · obtain ⟨a, b, rfl⟩ : ∃ a b, ds = [a, b] := by
                match ds, l2 with
                | [a, b], _ => exact ⟨a, b, rfl⟩
              have na : isTo a = false := by
                cases c : isTo a with
                | false => rfl
                | true => exact absurd (hE a b rfl c) (by decide)
              rw [szs, szs] at hs
              rw [dps', dps'] at hd
              have ra := fun st => rq_th (Wt.th a hw.1) (by omega) (by omega) st
              have ts := to_shown a hw.1
              rw [na] at ts
              have ts' : ¬ (rp a).shown = Str.ofString "'to'" := of_decide_eq_false ts
              simp only [List.drop_one, List.tail_cons] at *
              simp [b__law_led, q, sl, -sl_tup', eq, ra, ts', it, hl, lsz, wipeE, cq, tupleL]
            · have l2' : ¬ ((ds.length : Nat) : Int) = 2 := by omega
              generalize hds : ds.drop 1 = tl at *
              simp [b__law_led, q, sl, -sl_tup', eq, l2', it, hl, wipeE, cq, tupleL]
        refine key _ (fun a b e c => ?_) eq
        subst e
        have ea : a = .str "to" := by
          cases a with
          | str w => have : w = "to" := of_decide_eq_true c
                     rw [this]
          | _ => cases c
        subst ea
        exact eqv_no b h'
    | _ =>
      refine ⟨[], ?_⟩
      simp [b__law_led, led]
end Mi

namespace Mi
open PySem L2
def Wq (a c : Nat) (d : D) : Prop := Wt d ∧ dp' d ≤ a ∧ sz d ≤ c
theorem Wq.mono {a c a' c' : Nat} {d : D} (h : Wq a c d) (ha : a ≤ a') (hc : c ≤ c') : Wq a' c' d := ⟨h.1, by have := h.2.1; omega, by have := h.2.2; omega⟩
theorem szs_le' {s : Nat} : ∀ {ds : List D}, (∀ d ∈ ds, sz d ≤ s) → szs ds ≤ s * ds.length
  | [], _ => by simp [szs]
  | d :: ds, h => by
    have := h d List.mem_cons_self
    have := szs_le' fun x hx => h x (List.mem_cons_of_mem _ hx)
    rw [szs, List.length_cons, Nat.mul_add]
    omega
theorem Wq.tup {a c : Nat} (ys : List D) (hl : ys.length ≤ 3) (h : ∀ y ∈ ys, Wq a c y) : Wq (a + 1) (1 + 3 * c) (.tup ys) := by
  refine ⟨Wts.of fun y hy => (h y hy).1, ?_, ?_⟩
  · rw [dp']
    have := dps_le (s := a) fun d hd => (h d hd).2.1
    omega
  · rw [sz]
    have := szs_le' (s := c) fun d hd => (h d hd).2.2
    have k : c * ys.length ≤ c * 3 := Nat.mul_le_mul_left c hl
    omega
theorem Wq.word {x : Str} (h : x ∈ SS) {a : Nat} : Wq a 10 (.str x) := ⟨h, by simp [dp'], by rw [sz]; have := (SS_ok x h).2; omega⟩
theorem thing_Q (P Pc : D → Prop) (deep n : Nat) (st : Sto) (r : Nat) (C : Int) (h : Fd r C st) {B b : Int} (hC : C + 4 < 2 ^ 60) (hi : ∀ i : Int, ((-20 ≤ i ∧ i ≤ 19) ∨ i = 1000000000000000000000000000000) → P (.int i)) (hs : ∀ x ∈ [D.str "", D.str "a", D.str "A", D.str "ab", D.str "b", D.str "to", D.str "none", D.str "\"\\(,"], P x) (hn : P .non) (hb : ∀ b, P (.bl b))
    (ht : 2 ≤ deep → ∀ ys : List D, ys.length ≤ 3 → (∀ y ∈ ys, Pc y) → P (.tup ys))
    (rec : 2 ≤ deep → ∀ (st : Sto) (C : Int), Fd r C st → C + b < 2 ^ 60 → Dr r C b Pc st (Phi prog (n + 1) i__law_thing [.obj r, .int ((deep : Int) - 1)] st)) (hb0 : 0 ≤ b) (hbB : 2 + 3 * b ≤ B) (hCB : C + B < 2 ^ 60) (hB : 4 ≤ B) :
    Dr r C B P st (Phi prog (n + 2) i__law_thing [.obj r, .int deep] st) := by
  have pw : ∀ st, powD (.int 10) (.int 30) st = .ok (.int 1000000000000000000000000000000) st := fun st => rfl
  rw [Phi__law_thing, runB_eq]
  obtain ⟨way, st1, q1, w0, w1, f1, s1⟩ := take_g n h (many := 16) (by decide) (by decide) (by omega)
  by_cases c1 : way < 6
  · obtain ⟨d, st2, q2, d0, d1, f2, s2⟩ := take_g n f1 (many := 6) (by decide) (by decide) (by omega)
    obtain ⟨x, hx, ex⟩ := menu (xs := [D.int 0, D.int 1, D.int 2, D.int 3, D.int (-1), D.int 1000000000000000000000000000000]) d0 d1
    simp [b__law_thing, q1, c1, pw, q2, lsz, ex]
    refine ⟨x, st2, rfl, ?_, f2.mono (by omega), s1.trans s2⟩
    simp at hx
    rcases hx with rfl | rfl | rfl | rfl | rfl | rfl <;> exact hi _ (by decide)
  by_cases c2 : way < 9
  · obtain ⟨d, st2, q2, d0, d1, f2, s2⟩ := take_g n f1 (many := 8) (by decide) (by decide) (by omega)
    obtain ⟨x, hx, ex⟩ := menu (xs := [D.str "", D.str "a", D.str "A", D.str "ab", D.str "b", D.str "to", D.str "none", D.str "\"\\(,"]) d0 d1
    simp [b__law_thing, q1, c1, c2, q2, lsz, ex]
    exact ⟨x, st2, rfl, hs x hx, f2.mono (by omega), s1.trans s2⟩
  by_cases c3 : way < 12
  · obtain ⟨x, hx, ex⟩ := menu (xs := [D.non, D.bl false, D.bl true]) (d := way - 9) (by omega) (by simp; omega)
    simp [b__law_thing, q1, c1, c2, c3, lsz, ex]
    refine ⟨x, st1, rfl, ?_, f1.mono (by omega), s1⟩
    simp at hx
    rcases hx with rfl | rfl | rfl
    · exact hn
    · exact hb _
    · exact hb _
  by_cases c4 : way < 14 ∨ (deep : Int) < 2
  · obtain ⟨d, st2, q2, d0, d1, f2, s2⟩ := take_g n f1 (many := 40) (by decide) (by decide) (by omega)
    have : Dr r C B P st (.ok (.int (d - 20)) st2) := ⟨_, st2, rfl, hi _ (by omega), f2.mono (by omega), s1.trans s2⟩
    by_cases c5 : way < 14
    · simpa [b__law_thing, q1, c1, c2, c3, c5, q2] using this
    · have c6 : (deep : Int) < 2 := c4.resolve_left c5
      simpa [b__law_thing, q1, c1, c2, c3, c5, c6, q2] using this
  · have c5 : ¬ way < 14 := fun z => c4 (.inl z)
    have c6 : ¬ (deep : Int) < 2 := fun z => c4 (.inr z)
    obtain ⟨j, st2, q2, d0, d1, f2, s2⟩ := take_g n f1 (many := 4) (by decide) (by decide) (by omega)
    have step : ∀ (d : D) (st : Sto) (C : Int), Fd r C st → C + b < 2 ^ 60 → Dr r C b Pc st ((eCall (Phi prog (n + 1) i__law_thing) (aCons (eVar 0) (aCons (e2 subD (eVar 1) (eC (.int 1))) aNil))) ([some (.obj r), some (.int deep), some (.int way), none].set 3 (some d)) st) := fun d st C h hC => by simpa using rec (by omega) st C h hC
    obtain ⟨ys, st3, q3, l3, p3, f3, s3⟩ := comp_draw hb0 step (upI 0 j.toNat) st2 (C + 1 + 1) f2 (by rw [upI_len]; have : b * (j.toNat : Int) ≤ b * 3 := Int.mul_le_mul_of_nonneg_left (by omega) hb0; omega)
    rw [upI_len] at l3 f3
    have hj : b * (j.toNat : Int) ≤ b * 3 := Int.mul_le_mul_of_nonneg_left (by omega) hb0
    simp [b__law_thing, q1, c1, c2, c3, c5, c6, q2, rng1_ok (j := j) (by omega) (by omega), upI_len, lsz j.toNat (by omega), wipeE, q3, tupleL]
    exact ⟨_, st3, rfl, ht (by omega) ys (by omega) p3, f3.mono (by omega), (s1.trans s2).trans s3⟩
theorem wq_words {a : Nat} : ∀ x ∈ [D.str "", D.str "a", D.str "A", D.str "ab", D.str "b", D.str "to", D.str "none", D.str "\"\\(,"], Wq a 10 x := by
  intro x hx
  simp only [List.mem_cons, List.not_mem_nil, or_false] at hx
  rcases hx with rfl | rfl | rfl | rfl | rfl | rfl | rfl | rfl <;> exact Wq.word (by decide +kernel)
theorem wq_int {a : Nat} {i : Int} (h : (-20 ≤ i ∧ i ≤ 19) ∨ i = 1000000000000000000000000000000) : Wq a 10 (.int i) := ⟨h, by simp [dp'], by simp [sz]⟩
theorem thing_q1 (n r : Nat) (C : Int) (st : Sto) (h : Fd r C st) (hC : C + 64 < 2 ^ 60) : Dr r C 64 (Wq 0 10) st (Phi prog (n + 2) i__law_thing [.obj r, .int 1] st) :=
  thing_Q (Wq 0 10) (fun _ => False) 1 n st r C h (b := 0) (by omega) (fun i hi => wq_int hi) wq_words ⟨trivial, by simp [dp'], by simp [sz]⟩ (fun b => ⟨trivial, by simp [dp'], by simp [sz]⟩) (fun z => absurd z (by decide)) (fun z => absurd z (by decide)) (by decide) (by decide) (by omega) (by decide)
theorem thing_q2 (n r : Nat) (C : Int) (st : Sto) (h : Fd r C st) (hC : C + 256 < 2 ^ 60) : Dr r C 256 (Wq 1 31) st (Phi prog (n + 3) i__law_thing [.obj r, .int 2] st) :=
  thing_Q (Wq 1 31) (Wq 0 10) 2 (n + 1) st r C h (b := 64) (by omega) (fun i hi => (wq_int hi).mono (Nat.le_refl _) (by decide)) (fun x hx => (wq_words x hx).mono (Nat.le_refl _) (by decide)) ⟨trivial, by simp [dp'], by simp [sz]⟩ (fun b => ⟨trivial, by simp [dp'], by simp [sz]⟩) (fun _ ys hl h => Wq.tup ys hl h) (fun _ st C h hC => thing_q1 n r C st h hC) (by decide) (by decide) (by omega) (by decide)
/-! draws that may lay new lists down -/
def Da (r : Nat) (C : Int) (b : Int) (P : D → Prop) (st : Sto) (x : R D) : Prop := ∃ d st', x = .ok d st' ∧ P d ∧ Fd r (C + b) st' ∧ Ex r st st'
theorem comp_drawE {r p : Nat} {o : Ob} (hpr : p ≠ r) {P : D → Prop} {F : DE} {env : Env} {s : Nat} {b : Int} (hb : 0 ≤ b) (step : ∀ (d : D) (st : Sto) (C : Int), Fd r C st → st[p]? = some o → C + b < 2 ^ 60 → Da r C b P st (F (env.set s (some d)) st)) :
    ∀ (ds : List D) (st : Sto) (C : Int), Fd r C st → st[p]? = some o → C + b * ds.length < 2 ^ 60 → ∃ ys st', compL [] (.nm s) cYes F env ds st = .ok ys st' ∧ ys.length = ds.length ∧ (∀ y ∈ ys, P y) ∧ Fd r (C + b * ds.length) st' ∧ Ex r st st'
  | [], st, C, h, _, _ => ⟨[], st, compL_nil rfl, rfl, by simp, by simpa using h, Ex.refl⟩
  | d :: ds, st, C, h, ho, hC => by
    have e1 : (b : Int) * ((d :: ds).length : Nat) = b + b * (ds.length : Nat) := by
      rw [List.length_cons, Int.natCast_add, Int.mul_add]
      simp
      omega
    have hp : 0 ≤ b * (ds.length : Nat) := Int.mul_nonneg hb (by omega)
    rw [e1] at hC ⊢
    obtain ⟨y, st1, q1, p1, f1, s1⟩ := step d st C h ho (by omega)
    obtain ⟨ys, st2, q2, l2, p2, f2, s2⟩ := comp_drawE hpr hb step ds st1 (C + b) f1 (s1.at hpr ho) (by omega)
    refine ⟨y :: ys, st2, compL_yes rfl rfl q1 q2, by simp [l2], fun z hz => ?_, ?_, s1.trans s2⟩
    · rcases List.mem_cons.mp hz with rfl | hz
      · exact p1
      · exact p2 z hz
    · rw [← Int.add_assoc]
      exact f2
def nearL : List D := [.tup [.str "to"], .tup [.str "to", .str "A"], .tup [.str "to", .str "ninesigns"], .tup [.str "To", .str "a"], .tup [.str "to", .str "a", .str "b"], .tup [.str "to", .int 0], .tup [.str "to", .str ""], .str "to"]
theorem near_wq : ∀ x ∈ nearL, Wq 1 31 x := by
  intro x hx
  simp only [nearL, List.mem_cons, List.not_mem_nil, or_false] at hx
  have w : ∀ y ∈ SS, Wq 0 10 (.str y) := fun y hy => Wq.word hy
  rcases hx with rfl | rfl | rfl | rfl | rfl | rfl | rfl | rfl
  · exact Wq.tup (a := 0) (c := 10) _ (by decide) (by intro y hy; simp at hy; subst hy; exact w _ (by decide +kernel))
  · exact Wq.tup (a := 0) (c := 10) _ (by decide) (by intro y hy; simp at hy; rcases hy with rfl | rfl <;> exact w _ (by decide +kernel))
  · exact Wq.tup (a := 0) (c := 10) _ (by decide) (by intro y hy; simp at hy; rcases hy with rfl | rfl <;> exact w _ (by decide +kernel))
  · exact Wq.tup (a := 0) (c := 10) _ (by decide) (by intro y hy; simp at hy; rcases hy with rfl | rfl <;> exact w _ (by decide +kernel))
  · exact Wq.tup (a := 0) (c := 10) _ (by decide) (by intro y hy; simp at hy; rcases hy with rfl | rfl | rfl <;> exact w _ (by decide +kernel))
  · exact Wq.tup (a := 0) (c := 10) _ (by decide) (by intro y hy; simp at hy; rcases hy with rfl | rfl; exact w _ (by decide +kernel); exact wq_int (by decide))
  · exact Wq.tup (a := 0) (c := 10) _ (by decide) (by intro y hy; simp at hy; rcases hy with rfl | rfl <;> exact w _ (by decide +kernel))
  · exact (Wq.word (by decide +kernel)).mono (Nat.le_refl _) (by decide)
theorem leading_P {p r : Nat} (hpr : p ≠ r) (nms : List Str) (h5 : nms.length = 5) (hN : ∀ x ∈ nms, x ∈ SS) (dd : Int) (hdd : dd = 1 ∨ dd = 2 ∨ dd = 3) (n : Nat) (st : Sto) (C : Int) (h : Fd r C st) (hp : st[p]? = some (.lst (nms.map .str))) {a' c' a c : Nat}
    (ha : a' + 1 ≤ a) (ha1 : 1 ≤ a) (hc : 1 + 3 * c' ≤ c) (hc1 : 31 ≤ c) {B b : Int} (hb0 : 0 ≤ b) (hbB : 2 + 3 * b ≤ B) (hB : 300 ≤ B) (hC : C + B < 2 ^ 60)
    (rec : 1 < dd → ∀ (st : Sto) (C : Int), Fd r C st → st[p]? = some (.lst (nms.map .str)) → C + b < 2 ^ 60 → Da r C b (Wq a' c') st (Phi prog (n + 3) i__law_leading [.obj r, .obj p, .int (dd - 1)] st)) :
    Da r C B (Wq a c) st (Phi prog (n + 4) i__law_leading [.obj r, .obj p, .int dd] st) := by
  rw [Phi__law_leading, runB_eq]
  obtain ⟨way, st1, q1, w0, w1, f1, s1⟩ := take_g (n + 2) h (many := 8) (by decide) (by decide) (by omega)
  have hp1 := s1.ex.at hpr hp
  by_cases c1 : way < 3
  · obtain ⟨d, st2, q2, d0, d1, f2, s2⟩ := take_g (n + 2) f1 (many := 5) (by decide) (by decide) (by omega)
    have hp2 := s2.ex.at hpr hp1
    obtain ⟨x, hx, ex⟩ := menu (xs := nms.map D.str) (d := d) d0 (by simp [h5]; omega)
    obtain ⟨y, hy, rfl⟩ := List.mem_map.mp hx
    have ln : lenB [.obj p] st1 = .ok (.int 5) st1 := by
      unfold lenB
      simp only [seq_lst hp1, List.length_map, h5]
      rfl
    have ix : ixD (.obj p) (.int d) st2 = .ok (.str y) st2 := by
      simp [ixD, hp2, ex]
    simp [b__law_leading, q1, c1, ln, q2, ix, lsz]
    refine ⟨_, st2, rfl, ?_, f2.mono (by omega), (s1.trans s2).ex⟩
    exact (Wq.tup (a := 0) (c := 10) [.str "to", .str y] (by simp) (by
      intro z hz
      simp at hz
      rcases hz with rfl | rfl
      · exact Wq.word (by decide +kernel)
      · exact Wq.word (hN y hy))).mono ha1 hc1
  by_cases c2 : way = 3
  · obtain ⟨d, st2, q2, d0, d1, f2, s2⟩ := take_g (n + 2) (f1.app (t := [.lst nearL])) (many := 8) (by decide) (by decide) (by omega)
    obtain ⟨x, hx, ex⟩ := menu (xs := nearL) (d := d) d0 (by simp [nearL]; omega)
    have hl : st2[st1.length]? = some (.lst nearL) := s2.ex.at (Nat.ne_of_gt f1.lt) (by simp)
    have ix : ixD (.obj st1.length) (.int d) st2 = .ok x st2 := by
      simp [ixD, hl, ex]
    have sx : Ex r st st2 := (s1.ex.trans Ex.app).trans s2.ex
    unfold nearL at q2
    simp [b__law_leading, q1, c1, c2, q2, ix, lsz]
    exact ⟨x, st2, rfl, (near_wq x hx).mono ha1 hc1, f2.mono (by omega), sx⟩
  by_cases c3 : way < 6 ∧ 1 < dd
  · obtain ⟨j, st2, q2, d0, d1, f2, s2⟩ := take_g (n + 2) f1 (many := 4) (by decide) (by decide) (by omega)
    have hp2 := s2.ex.at hpr hp1
    have step : ∀ (d : D) (st : Sto) (C : Int), Fd r C st → st[p]? = some (.lst (nms.map .str)) → C + b < 2 ^ 60 → Da r C b (Wq a' c') st ((eCall (Phi prog (n + 3) i__law_leading) (aCons (eVar 0) (aCons (eVar 1) (aCons (e2 subD (eVar 2) (eC (.int 1))) aNil)))) ([some (.obj r), some (.obj p), some (.int dd), some (.int way), none, none].set 5 (some d)) st) := fun d st C h hp hC => by simpa using rec c3.2 st C h hp hC
    obtain ⟨ys, st3, q3, l3, p3, f3, s3⟩ := comp_drawE hpr hb0 step (upI 0 j.toNat) st2 (C + 1 + 1) f2 hp2 (by rw [upI_len]; have : b * (j.toNat : Int) ≤ b * 3 := Int.mul_le_mul_of_nonneg_left (by omega) hb0; omega)
    rw [upI_len] at l3 f3
    have hj : b * (j.toNat : Int) ≤ b * 3 := Int.mul_le_mul_of_nonneg_left (by omega) hb0
    simp [b__law_leading, q1, c1, c2, c3.1, c3.2, q2, rng1_ok (j := j) (by omega) (by omega), upI_len, lsz j.toNat (by omega), wipeE, q3, tupleL]
    exact ⟨_, st3, rfl, (Wq.tup ys (by omega) p3).mono ha hc, f3.mono (by omega), (s1.trans s2).ex.trans s3⟩
  · have fin : ∀ e : Int, (∀ st, minB [.int 2, .int dd] st = .ok (.int e) st) → Dr r (C + 1) 256 (Wq 1 31) st1 (Phi prog (n + 3) i__law_thing [.obj r, .int e] st1) → Da r C B (Wq a c) st (endS (b__law_leading (Phi prog (n + 3)) (List.map some [D.obj r, .obj p, .int dd] ++ List.replicate (6 - [D.obj r, .obj p, .int dd].length) none) st)) := by
      intro e mn hh
      obtain ⟨d, st2, q2, p2, f2, s2⟩ := hh
      have : endS (b__law_leading (Phi prog (n + 3)) (List.map some [D.obj r, .obj p, .int dd] ++ List.replicate (6 - [D.obj r, .obj p, .int dd].length) none) st) = .ok d st2 := by
        by_cases c4 : way < 6
        · have c5 : ¬ 1 < dd := fun z => c3 ⟨c4, z⟩
          simp [b__law_leading, q1, c1, c2, c4, c5, mn, q2]
        · simp [b__law_leading, q1, c1, c2, c4, mn, q2]
      rw [this]
      exact ⟨d, st2, rfl, p2.mono ha1 hc1, f2.mono (by omega), (s1.trans s2).ex⟩
    rcases hdd with rfl | rfl | rfl
    · refine fin 1 (fun _ => rfl) ?_
      obtain ⟨d, st2, q2, p2, f2, s2⟩ := thing_q1 (n + 1) r (C + 1) st1 f1 (by omega)
      exact ⟨d, st2, q2, p2.mono (by decide) (by decide), f2.mono (by omega), s2⟩
    · exact fin 2 (fun _ => rfl) (thing_q2 n r (C + 1) st1 f1 (by omega))
    · exact fin 2 (fun _ => rfl) (thing_q2 n r (C + 1) st1 f1 (by omega))
theorem leading_3 {p r : Nat} (hpr : p ≠ r) (nms : List Str) (h5 : nms.length = 5) (hN : ∀ x ∈ nms, x ∈ SS) (n : Nat) (st : Sto) (C : Int) (h : Fd r C st) (hp : st[p]? = some (.lst (nms.map .str))) (hC : C + 4000 < 2 ^ 60) :
    Da r C 4000 (Wq 3 400) st (Phi prog (n + 6) i__law_leading [.obj r, .obj p, .int 3] st) := by
  refine leading_P hpr nms h5 hN 3 (by decide) (n + 2) st C h hp (a' := 2) (c' := 100) (b := 1000) (by decide) (by decide) (by decide) (by decide) (by decide) (by decide) (by decide) hC fun _ st C h hp hC => ?_
  refine leading_P hpr nms h5 hN 2 (by decide) (n + 1) st C h hp (a' := 1) (c' := 31) (b := 300) (by decide) (by decide) (by decide) (by decide) (by decide) (by decide) (by decide) hC fun _ st C h hp hC => ?_
  exact leading_P hpr nms h5 hN 1 (by decide) n st C h hp (a' := 0) (c' := 10) (b := 0) (by decide) (by decide) (by decide) (by decide) (by decide) (by decide) (by decide) hC fun z => absurd z (by decide)
end Mi

namespace Mi
open PySem L2
/-! names told by pairs -/
def dS (ps : List (Str × Str)) : List (Key × D) := ps.map fun p => (.inr p.1, .str p.2)
def fS (ps : List (Str × Str)) (x : Str) : Str := match ps.find? (fun p => decide (p.1 = x)) with | some p => p.2 | none => x
theorem find_dS (x : Str) : ∀ ps : List (Str × Str), dgetL (dS ps) (.inr x) = (ps.find? fun p => decide (p.1 = x)).map fun p => .str p.2
  | [] => rfl
  | p :: ps => by
    have ih := find_dS x ps
    unfold dgetL dS at ih ⊢
    rw [List.map_cons, List.find?_cons, List.find?_cons]
    by_cases c : p.1 = x
    · simp [c]
    · have c' : ¬ (Sum.inr p.1 : Key) = Sum.inr x := fun z => c (by cases z; rfl)
      simp only [c, c', decide_false]
      exact ih
theorem nm_dS {st : Sto} {n : Nat} {ps : List (Str × Str)} (h : st[n]? = some (.dic (dS ps))) : Nm st n (fS ps) := by
  refine ⟨_, h, fun x => ?_⟩
  rw [find_dS]
  unfold fS
  cases ps.find? fun p => decide (p.1 = x) <;> rfl
def Ps (ps : List (Str × Str)) : Prop := ps.length ≤ 5 ∧ ∀ p ∈ ps, (asc p.1 ∧ p.1.length ≤ 9) ∧ (asc p.2 ∧ p.2.length ≤ 9)
theorem Ps.f {ps : List (Str × Str)} (h : Ps ps) {x : Str} (hx : asc x ∧ x.length ≤ 9) : asc (fS ps x) ∧ (fS ps x).length ≤ 9 := by
  unfold fS
  cases e : ps.find? fun p => decide (p.1 = x) with
  | none => exact hx
  | some p => exact (h.2 p (List.mem_of_find?_eq_some e)).2
theorem key_dS {f : D → Option PyData} (hf : ∀ x, f (.str x) = some (.str x)) : ∀ ps : List (Str × Str), keyQ f (dS ps) = some (ps.map fun p => (.str p.1, .str p.2))
  | [] => rfl
  | p :: ps => by
    have := key_dS hf ps
    unfold dS at this ⊢
    rw [List.map_cons, keyQ]
    simp only [hf, this]
    rfl
theorem okPk_dS : ∀ ps : List (Str × Str), (∀ p ∈ ps, (asc p.1 ∧ p.1.length ≤ 9) ∧ (asc p.2 ∧ p.2.length ≤ 9)) → okPk (ps.map fun p => (.str p.1, .str p.2)) ∧ szPk (ps.map fun p => (.str p.1, .str p.2)) ≤ 20 * ps.length
  | [], _ => by simp [okPk, szPk]
  | p :: ps, h => by
    obtain ⟨a, b⟩ := okPk_dS ps fun q hq => h q (List.mem_cons_of_mem _ hq)
    obtain ⟨⟨c1, c2⟩, c3, c4⟩ := h p List.mem_cons_self
    rw [List.map_cons, okPk, szPk, okP, okP, szP, szP, List.length_cons]
    exact ⟨⟨c1, c3, a⟩, by omega⟩
theorem wr_dS {r k : Nat} {st : Sto} {ps : List (Str × Str)} (hk : k ≠ r) (ha : st[k]? = some (.dic (dS ps))) (h : Ps ps) : Wr r st 101 3 (.obj k) := by
  obtain ⟨a, b⟩ := okPk_dS ps h.2
  have := h.1
  refine ⟨.dict (ps.map fun p => (.str p.1, .str p.2)), fun st2 n q hn => ?_, by rw [okP]; exact a, by rw [szP]; omega⟩
  obtain ⟨n, rfl⟩ : ∃ k, n = k + 1 := ⟨n - 1, by omega⟩
  rw [toQ, q k _ hk ha]
  simp only
  rw [key_dS (fun x => by cases n <;> rfl)]
/-! what stays of a thing that is led -/
theorem szs_app' : ∀ xs ys : List D, szs (xs ++ ys) = szs xs + szs ys
  | [], ys => by simp [szs]
  | x :: xs, ys => by rw [List.cons_append, szs, szs, szs_app' xs ys]; omega
mutual
theorem leads_sz : ∀ d : D, szs ((leads d).map .str) ≤ sz d
  | .tup ds => by
    by_cases c : isLead (.tup ds) = true
    · obtain ⟨x, e, _⟩ := isLead_shape c
      rw [leads_lead e c]
      subst e
      simp only [List.map_cons, List.map_nil, szs, sz]
      omega
    · rw [leads_no (by simpa using c), sz]
      have := leadss_sz ds
      omega
  | .non => by simp [leads, szs]
  | .bl _ => by simp [leads, szs]
  | .int _ => by simp [leads, szs]
  | .str _ => by simp [leads, szs]
  | .obj _ => by simp [leads, szs]
  | .fn _ => by simp [leads, szs]
  | .ty _ => by simp [leads, szs]
  | .kl _ => by simp [leads, szs]
  | .ev _ => by simp [leads, szs]
theorem leadss_sz : ∀ ds : List D, szs ((leadss ds).map .str) ≤ szs ds
  | [] => by simp [leadss, szs]
  | d :: ds => by
    rw [leadss, List.map_append, szs_app', szs]
    have := leads_sz d
    have := leadss_sz ds
    omega
end
mutual
theorem led_ok {f : Str → Str} (hf : ∀ x, asc x ∧ x.length ≤ 9 → asc (f x) ∧ (f x).length ≤ 9) : ∀ d : D, Wt d → Th (led f d) ∧ dp' (led f d) ≤ dp' d ∧ sz (led f d) ≤ 10 * sz d
  | .tup ds, h => by
    by_cases c : isLead (.tup ds) = true
    · obtain ⟨x, e, _⟩ := isLead_shape c
      rw [led_lead e c]
      subst e
      obtain ⟨a, b⟩ := hf x (SS_ok x h.2.1)
      have t2 := (SS_ok _ h.1)
      refine ⟨⟨⟨t2.1, by omega⟩, ⟨a, by omega⟩, trivial⟩, by simp [dp', dps'], ?_⟩
      simp only [sz, szs]
      omega
    · rw [led_no (by simpa using c)]
      obtain ⟨a, b, c⟩ := leds_ok hf ds h
      exact ⟨a, by rw [dp', dp']; omega, by rw [sz, sz]; omega⟩
  | .non, h => ⟨trivial, by simp [led], by simp [led, sz]⟩
  | .bl _, h => ⟨trivial, by simp [led], by simp [led, sz]⟩
  | .int i, h => ⟨Wt.th (.int i) h, by simp [led], by simp [led, sz]⟩
  | .str x, h => ⟨Wt.th (.str x) h, by simp [led], by simp [led, sz]; omega⟩
  | .obj _, h => h.elim
  | .fn _, h => h.elim
  | .ty _, h => h.elim
  | .kl _, h => h.elim
  | .ev _, h => h.elim
theorem leds_ok {f : Str → Str} (hf : ∀ x, asc x ∧ x.length ≤ 9 → asc (f x) ∧ (f x).length ≤ 9) : ∀ ds : List D, Wts ds → Ths (leds f ds) ∧ dps' (leds f ds) ≤ dps' ds ∧ szs (leds f ds) ≤ 10 * szs ds
  | [], _ => ⟨trivial, by simp [leds], by simp [leds, szs]⟩
  | d :: ds, h => by
    obtain ⟨a, b, c⟩ := led_ok hf d h.1
    obtain ⟨a', b', c'⟩ := leds_ok hf ds h.2
    rw [leds]
    exact ⟨⟨a, a'⟩, by rw [dps', dps']; omega, by rw [szs, szs]; omega⟩
end
mutual
theorem led_id {f : Str → Str} (hf : ∀ x, f x = x) : ∀ d : D, led f d = d
  | .tup ds => by
    by_cases c : isLead (.tup ds) = true
    · obtain ⟨x, e, _⟩ := isLead_shape c
      rw [led_lead e c, e, hf]
    · rw [led_no (by simpa using c), leds_id hf ds]
  | .non => rfl
  | .bl _ => rfl
  | .int _ => rfl
  | .str _ => rfl
  | .obj _ => rfl
  | .fn _ => rfl
  | .ty _ => rfl
  | .kl _ => rfl
  | .ev _ => rfl
theorem leds_id {f : Str → Str} (hf : ∀ x, f x = x) : ∀ ds : List D, leds f ds = ds
  | [] => rfl
  | d :: ds => by rw [leds, led_id hf d, leds_id hf ds]
end
theorem led_str {f : Str → Str} {d : D} {x : Str} (h : led f d = .str x) : d = .str x := by
  cases d with
  | tup ds =>
    by_cases c : isLead (.tup ds) = true
    · obtain ⟨y, e, _⟩ := isLead_shape c
      rw [led_lead e c] at h
      cases h
    · rw [led_no (by simpa using c)] at h
      cases h
  | _ => exact h
theorem isLead_led {f : Str → Str} {ds : List D} (h : isLead (.tup ds) = false) : isLead (.tup (leds f ds)) = false := by
  cases c : isLead (.tup (leds f ds)) with
  | false => rfl
  | true =>
    obtain ⟨x, e, hx⟩ := isLead_shape c
    match ds, e with
    | [a, b], e =>
      rw [leds, leds, leds] at e
      injection e with e1 e2
      injection e2 with e2 _
      rw [led_str e1, led_str e2] at h
      simp [isLead, hx] at h
    | [a], e => simp [leds] at e
    | a :: b :: c :: r, e => simp [leds] at e
    | [], e => simp [leds] at e
mutual
theorem led_back {f g : Str → Str} (hf : ∀ x, nameB x = true → nameB (f x) = true ∧ g (f x) = x) : ∀ d : D, led g (led f d) = d
  | .tup ds => by
    by_cases c : isLead (.tup ds) = true
    · obtain ⟨x, e, hx⟩ := isLead_shape c
      obtain ⟨a, b⟩ := hf x hx
      rw [led_lead e c, led_lead rfl (by simp [isLead, a]), b, e]
    · have c' : isLead (.tup ds) = false := by simpa using c
      rw [led_no c', led_no (isLead_led c'), leds_back hf ds]
  | .non => rfl
  | .bl _ => rfl
  | .int _ => rfl
  | .str _ => rfl
  | .obj _ => rfl
  | .fn _ => rfl
  | .ty _ => rfl
  | .kl _ => rfl
  | .ev _ => rfl
theorem leds_back {f g : Str → Str} (hf : ∀ x, nameB x = true → nameB (f x) = true ∧ g (f x) = x) : ∀ ds : List D, leds g (leds f ds) = ds
  | [] => rfl
  | d :: ds => by rw [leds, leds, led_back hf d, leds_back hf ds]
end
/-! right -/
theorem ro_p (n0 n : Nat) (d : D) (hw : Wq 3 400 d) (X3 : D) (st t : Sto) (x2 : D) (o4 : Option D) :
    ∃ o4' t', L1__law_right (Phi prog (n0 + 20)) [some d, some (.obj n), some x2, some X3, o4] (st ++ t) = .nx [some d, some (.obj n), some x2, some X3, o4'] (st ++ t') := by
  obtain ⟨ww, wd, ws⟩ := hw
  have th := Wt.th d ww
  obtain ⟨k1, t1, q1, g1, l1⟩ := leads_in_p (n0 + 20) d th (by omega) (by omega) (st ++ t)
  obtain ⟨k2, t2, q2, g2, l2⟩ := ll_p (n0 + 20) d ww (by omega) (by omega) (st ++ t ++ t1)
  obtain ⟨a1, a2⟩ := leads_th d th
  have a3 := leads_sz d
  have a4 := leads_len d
  have r1 := rq_lst l1 a1 (by omega) (by omega)
  have r2 := rq_lst l2 a1 (by omega) (by omega)
  have l1' := at_old (t := t2) l1
  have es : (st ++ t ++ t1 ++ t2).set k1 (.lst ((leads d).map .str ++ [.str "a"])) = st ++ ((t ++ t1 ++ t2).set (k1 - st.length) (.lst ((leads d).map .str ++ [.str "a"]))) := by
    have : st.length ≤ k1 := by rw [List.length_append] at g1; omega
    rw [List.append_assoc, List.append_assoc, List.set_append_right _ _ this, List.append_assoc]
  have ap : appendM (.obj k1) [.str "a"] (st ++ t ++ t1 ++ t2) = .ok .non (st ++ ((t ++ t1 ++ t2).set (k1 - st.length) (.lst ((leads d).map .str ++ [.str "a"])))) := by
    rw [← es]
    unfold appendM
    simp only [l1']
    rw [if_pos]
    exact lsz _ (by simp; omega)
  refine ⟨some (.obj k1), (t ++ t1 ++ t2).set (k1 - st.length) (.lst ((leads d).map .str ++ [.str "a"])), ?_⟩
  generalize st ++ ((t ++ t1 ++ t2).set (k1 - st.length) (.lst ((leads d).map .str ++ [.str "a"]))) = W at *
  generalize (PyData.list (rps ((leads d).map D.str))).shown = Z at *
  generalize st ++ t ++ t1 ++ t2 = V at *
  generalize st ++ t ++ t1 = U at *
  generalize st ++ t = T at *
  simp [L1__law_right, q1, r1, q2, r2, ap, l1', seqB, -app_at]
theorem right_p (n0 n : Nat) (d : D) (hw : Wq 3 400 d) (st : Sto) (ps : List (Str × Str)) (h : st[n]? = some (.dic (dS ps))) (hp : Ps ps) : ∃ t, Phi prog (n0 + 21) i__law_right [d, .obj n] st = .ok (.bl true) (st ++ t) := by
  have hw' := hw
  obtain ⟨ww, wd, ws⟩ := hw
  have th := Wt.th d ww
  obtain ⟨x, hx⟩ := Wr.repr (r := n + 1) (st := st) (s := 600) (e := 4) (d := .tup [d, .obj n]) ((Wr.tup (Wrs.cons (((Gt.wr (s := 400) (e := 3) ⟨th, ws, wd⟩ (n + 1) st))) (Wrs.cons (wr_dS (by omega) h hp) Wrs.nil))).mono (by omega) (by omega)) (by decide) (by decide)
  have hx0 := hx st Kp.refl
  obtain ⟨env', st', fq, t, o3, o4, rfl, rfl⟩ := for_inv (w := []) (t := .nm 3) (J := fun env s => ∃ t o3 o4, env = [some d, some (.obj n), some (.str x), o3, o4] ∧ s = st ++ t) (B := L1__law_right (Phi prog (n0 + 20)))
    (fun _ _ _ => rfl) (upI 0 2) [some d, some (.obj n), some (.str x), none, none] st (by
      rintro e he env s ⟨t, o3, o4, rfl, rfl⟩
      obtain ⟨o4', t', q⟩ := ro_p n0 n d hw' e st t (.str x) o4
      exact ⟨_, _, _, rfl, q, t', _, _, rfl, rfl⟩) ⟨[], none, none, rfl, by simp⟩
  have nm : Nm (st ++ t) n (fS ps) := (nm_dS h).app
  have q3 := led_p (fS ps) (n0 + 20) d (st ++ t) n nm th (by omega) (by omega)
  obtain ⟨t4, q4⟩ := lled_p (fS ps) (n0 + 20) d ww (by omega) (by omega) (st ++ t) n nm
  obtain ⟨b1, b2, b3⟩ := led_ok (fun x hx => hp.f hx) d ww
  have r3 := fun s => rq_th b1 (by omega) (by omega) s
  have r5 := fun s => rq_th th (by omega) (by omega) s
  have nm0 : Nm (st ++ t ++ t4 ++ [.dic []]) (st ++ t ++ t4).length (fun x => x) := ⟨[], by simp, fun x => rfl⟩
  have q5 := led_p (fun x => x) (n0 + 20) d (st ++ t ++ t4 ++ [.dic []]) (st ++ t ++ t4).length nm0 th (by omega) (by omega)
  rw [led_id (fun _ => rfl)] at q5
  have hx1 := hx (st ++ t ++ t4 ++ [.dic []]) (by rw [List.append_assoc, List.append_assoc]; exact Kp.app)
  refine ⟨t ++ t4 ++ [.dic []], ?_⟩
  rw [← List.append_assoc, ← List.append_assoc]
  rw [Phi__law_right, runB_eq]
  have rg : ∀ st, rng1 [.int 2] st = .ok (upI 0 2, []) st := fun st => rng1_ok (j := 2) (by decide) (by decide)
  generalize (rp (led (fS ps) d)).shown = Z at *
  generalize (rp d).shown = Y at *
  generalize st ++ t ++ t4 = V at *
  generalize st ++ t = T at *
  simp [b__law_right, hx0, rg, upI_len, lsz, fq, q3, r3, q4, q5, r5, hx1]
end Mi

namespace Mi
open PySem L2
def NL : List (List Str) := [["a", "b", "c", "d", "e"], ["to", "abox", "zz", "abcdefgh", "q"], ["none", "slot", "new", "on", "drop"], ["aa", "ab", "aaa", "a", "abcdefg"]]
def rot (xs : List Str) : List Str := xs.drop 1 ++ xs.take 1
theorem nl_ok : ∀ nms ∈ NL, nms.length = 5 ∧ nms.Nodup ∧ (rot nms).Nodup ∧ (∀ x ∈ nms, x ∈ SS) := by decide +kernel
theorem nl_back : ∀ nms ∈ NL, ∀ x ∈ nms, nameB (fS (nms.zip (rot nms)) x) = true ∧ fS ((rot nms).zip nms) (fS (nms.zip (rot nms)) x) = x := by decide +kernel
theorem rot_mem {xs : List Str} {x : Str} : x ∈ rot xs ↔ x ∈ xs := by
  unfold rot
  cases xs with
  | nil => simp
  | cons a r => simp [or_comm]
theorem fS_out {x : Str} : ∀ {ps : List (Str × Str)}, (∀ p ∈ ps, p.1 ≠ x) → fS ps x = x := by
  intro ps h
  unfold fS
  rw [List.find?_eq_none.mpr fun p hp => by simpa using h p hp]
theorem zip_out {xs ys : List Str} {x : Str} (h : x ∉ xs) : ∀ p ∈ xs.zip ys, p.1 ≠ x := fun p hp e => h (e ▸ (List.of_mem_zip (a := p.1) (b := p.2) hp).1)
theorem nl_led {nms : List Str} (h : nms ∈ NL) (d : D) : led (fS ((rot nms).zip nms)) (led (fS (nms.zip (rot nms))) d) = d := by
  refine led_back (fun x hx => ?_) d
  by_cases c : x ∈ nms
  · exact nl_back nms h x c
  · rw [fS_out (zip_out c)]
    exact ⟨hx, fS_out (zip_out fun z => c (rot_mem.mp z))⟩
theorem ps_zip {xs ys : List Str} (h : xs.length ≤ 5) (hx : ∀ x ∈ xs, asc x ∧ x.length ≤ 9) (hy : ∀ x ∈ ys, asc x ∧ x.length ≤ 9) : Ps (xs.zip ys) := by
  refine ⟨by rw [List.length_zip]; omega, fun p hp => ?_⟩
  have := List.of_mem_zip (a := p.1) (b := p.2) hp
  exact ⟨hx _ this.1, hy _ this.2⟩
/-! new dicts -/
theorem merge_new : ∀ (kvs acc : List (Key × D)), ((acc ++ kvs).map (·.1)).Nodup → mergeL acc kvs = acc ++ kvs
  | [], acc, _ => by simp [mergeL]
  | p :: kvs, acc, h => by
    have e : putL acc p.1 p.2 = acc ++ [p] := by
      unfold putL
      rw [if_neg]
      intro z
      rw [List.any_eq_true] at z
      obtain ⟨q, hq, e⟩ := z
      have e := of_decide_eq_true e
      rw [List.map_append, List.nodup_append] at h
      exact h.2.2 q.1 (List.mem_map_of_mem hq) p.1 (by simp) e
    show mergeL (putL acc p.1 p.2) kvs = _
    rw [e, merge_new kvs (acc ++ [p]) (by simpa using h)]
    simp
theorem pairs_dS : ∀ xs ys : List Str, allO pairOf (pairs (xs.map .str) (ys.map .str)) = some (dS (xs.zip ys))
  | [], ys => rfl
  | x :: xs, [] => rfl
  | x :: xs, y :: ys => by
    have := pairs_dS xs ys
    unfold pairs dS at this ⊢
    simp only [List.map_cons, List.zip_cons_cons, allO, this]
    rfl
theorem nodup_zip : ∀ {xs ys : List Str}, xs.Nodup → ((dS (xs.zip ys)).map (·.1)).Nodup
  | [], ys, _ => by simp [dS]
  | x :: xs, [], _ => by simp [dS]
  | x :: xs, y :: ys, h => by
    rw [List.nodup_cons] at h
    have ih := nodup_zip (ys := ys) h.2
    unfold dS at ih ⊢
    rw [List.zip_cons_cons, List.map_cons, List.map_cons, List.nodup_cons]
    refine ⟨fun z => ?_, ih⟩
    obtain ⟨p, hp, e⟩ := List.mem_map.mp z
    obtain ⟨q, hq, rfl⟩ := List.mem_map.mp hp
    have e : q.1 = x := by injection e
    exact zip_out h.1 q hq e
def Gr (s u : Sto) : Prop := ∃ t, u = s ++ t
theorem Gr.trans {a b c : Sto} : Gr a b → Gr b c → Gr a c
  | ⟨t, e⟩, ⟨t', e'⟩ => ⟨t ++ t', by rw [e', e, List.append_assoc]⟩
theorem Gr.at {a b : Sto} (h : Gr a b) {n : Nat} {o : Ob} (e : a[n]? = some o) : b[n]? = some o := by
  obtain ⟨t, rfl⟩ := h
  exact at_old e
theorem Gr.fd {a b : Sto} (h : Gr a b) {r : Nat} {C : Int} (e : Fd r C a) : Fd r C b := by
  obtain ⟨t, rfl⟩ := h
  exact e.app
theorem g_sl {s : Sto} {p : Nat} {xs : List D} {lo hi : Option Int} (h : s[p]? = some (.lst xs)) : ∃ a u, slD (.obj p) lo hi s = .ok (.obj a) u ∧ u[a]? = some (.lst (cutG xs lo hi)) ∧ Gr s u := by
  refine ⟨s.length, s ++ [.lst (cutG xs lo hi)], ?_, by simp, _, rfl⟩
  unfold slD
  simp only [seq_lst h]
  rfl
theorem g_addE {s : Sto} {m : Nat} {xs ys : List D} (h : s[m]? = some (.lst xs)) (hl : xs.length + ys.length ≤ 1000) : ∃ a u, addD (.obj m) (.ev ys) s = .ok (.obj a) u ∧ u[a]? = some (.lst (xs ++ ys)) ∧ Gr s u := by
  refine ⟨s.length, s ++ [.lst (xs ++ ys)], ?_, by simp, _, rfl⟩
  rw [add_oeS, h, addO_some, if_pos (lsz _ (by omega))]
theorem g_add {s : Sto} {m n : Nat} {xs ys : List D} (h : s[m]? = some (.lst xs)) (h' : s[n]? = some (.lst ys)) (hl : xs.length + ys.length ≤ 1000) : ∃ a u, addD (.obj m) (.obj n) s = .ok (.obj a) u ∧ u[a]? = some (.lst (xs ++ ys)) ∧ Gr s u := by
  refine ⟨s.length, s ++ [.lst (xs ++ ys)], ?_, by simp, _, rfl⟩
  rw [add_ooS, h, h', addO_some, if_pos (lsz _ (by omega))]
theorem g_dict {s : Sto} {m n : Nat} {xs ys : List Str} (h : s[m]? = some (.lst (xs.map .str))) (h' : s[n]? = some (.lst (ys.map .str))) (nd : xs.Nodup) : ∃ a u b v, zipLD [.obj m, .obj n] s = .ok (.obj a) u ∧ dictB [.obj a] u = .ok (.obj b) v ∧ v[b]? = some (.dic (dS (xs.zip ys))) ∧ Gr s v := by
  have e := dict_ok (n := s.length) (st := s ++ [.lst (pairs (xs.map .str) (ys.map .str))]) (ds := pairs (xs.map .str) (ys.map .str)) (by simp) (pairs_dS xs ys)
  rw [merge_new _ _ (by simpa using nodup_zip nd), List.nil_append] at e
  exact ⟨_, _, _, _, zipL_ok h h', e, by simp, ⟨_, List.append_assoc _ _ _⟩⟩
theorem cut_i {xs : List Str} {j : Int} (h : 0 ≤ j) : cutG (xs.map D.str) (some j) none = (xs.drop j.toNat).map D.str := by
  obtain ⟨k, rfl⟩ : ∃ k : Nat, j = (k : Int) := ⟨j.toNat, by omega⟩
  rw [cut_from, ← List.map_drop]
  rfl
theorem cut_t {xs : List Str} : cutG (xs.map D.str) none (some 1) = (xs.take 1).map D.str := by
  rw [show (some (1 : Int)) = some ((1 : Nat) : Int) from rfl, cut_to, ← List.map_take]
theorem g_rot {s : Sto} {p : Nat} {xs : List Str} (h : s[p]? = some (.lst (xs.map .str))) (hl : xs.length = 5) : ∃ a u b v c w, slD (.obj p) (some 1) none s = .ok (.obj a) u ∧ slD (.obj p) none (some 1) u = .ok (.obj b) v ∧ addD (.obj a) (.obj b) v = .ok (.obj c) w ∧ w[c]? = some (.lst ((rot xs).map .str)) ∧ Gr s w := by
  obtain ⟨a, u, q1, h1, g1⟩ := g_sl (lo := some 1) (hi := none) h
  obtain ⟨b, v, q2, h2, g2⟩ := g_sl (lo := none) (hi := some 1) (g1.at h)
  rw [cut_i (by decide)] at h1
  rw [cut_t] at h2
  obtain ⟨c, w, q3, h3, g3⟩ := g_add (g2.at h1) h2 (by simp; omega)
  refine ⟨a, u, b, v, c, w, q1, q2, q3, ?_, (g1.trans g2).trans g3⟩
  rw [h3, ← List.map_append]
  rfl
/-! names drawn -/
theorem box_p (n : Nat) {st : Sto} {r : Nat} {C : Int} (h : Fd r C st) (hC : C + 1 < 2 ^ 60) : ∃ k nms st', Phi prog (n + 2) i__law_boxnames [.obj r] st = .ok (.obj k) st' ∧ nms ∈ NL ∧ st'[k]? = some (.lst (nms.map .str)) ∧ k ≠ r ∧ Fd r (C + 1) st' := by
  have hr := h.lt
  rw [Phi__law_boxnames, runB_eq]
  obtain ⟨i, s2, q2, i0, i1, f2, sm⟩ := take_g n (h.app (t := [.lst [.str "a", .str "b", .str "c", .str "d", .str "e"], .lst [.str "to", .str "abox", .str "zz", .str "abcdefgh", .str "q"], .lst [.str "none", .str "slot", .str "new", .str "on", .str "drop"], .lst [.obj st.length, .obj (st.length + 1), .obj (st.length + 2)], .lst [.str "aa", .str "ab", .str "aaa", .str "a", .str "abcdefg"], .lst [.obj st.length, .obj (st.length + 1), .obj (st.length + 2), .obj (st.length + 4)]])) (many := 4) (by decide) (by decide) (by omega)
  obtain ⟨x, hx, ex⟩ := menu (xs := [D.obj st.length, .obj (st.length + 1), .obj (st.length + 2), .obj (st.length + 4)]) (d := i) i0 (by simpa using i1)
  have a0 : s2[st.length]? = some (.lst ((["a", "b", "c", "d", "e"] : List Str).map .str)) := sm.ex.at (n := st.length) (by omega) (by simp)
  have a1 : s2[st.length + 1]? = some (.lst ((["to", "abox", "zz", "abcdefgh", "q"] : List Str).map .str)) := sm.ex.at (n := st.length + 1) (by omega) (by simp)
  have a2 : s2[st.length + 2]? = some (.lst ((["none", "slot", "new", "on", "drop"] : List Str).map .str)) := sm.ex.at (n := st.length + 2) (by omega) (by simp)
  have a4 : s2[st.length + 4]? = some (.lst ((["aa", "ab", "aaa", "a", "abcdefg"] : List Str).map .str)) := sm.ex.at (n := st.length + 4) (by omega) (by simp)
  have a5 : s2[st.length + 5]? = some (.lst [D.obj st.length, .obj (st.length + 1), .obj (st.length + 2), .obj (st.length + 4)]) := sm.ex.at (n := st.length + 5) (by omega) (by simp)
  have ix : ixD (.obj (st.length + 5)) (.int i) s2 = .ok x s2 := by rw [ix_obj' a5, ex]; rfl
  have run : endS (b__law_boxnames (Phi prog (n + 1)) (List.map some [D.obj r] ++ List.replicate (2 - [D.obj r].length) none) st) = .ok x s2 := by
    simp [b__law_boxnames, lsz, add_oeS, q2, ix, -ix_at]
  rw [run]
  simp only [List.mem_cons, List.not_mem_nil, or_false] at hx
  rcases hx with rfl | rfl | rfl | rfl
  · exact ⟨_, ["a", "b", "c", "d", "e"], s2, rfl, by decide +kernel, a0, by omega, f2⟩
  · exact ⟨_, ["to", "abox", "zz", "abcdefgh", "q"], s2, rfl, by decide +kernel, a1, by omega, f2⟩
  · exact ⟨_, ["none", "slot", "new", "on", "drop"], s2, rfl, by decide +kernel, a2, by omega, f2⟩
  · exact ⟨_, ["aa", "ab", "aaa", "a", "abcdefg"], s2, rfl, by decide +kernel, a4, by omega, f2⟩
end Mi

namespace Mi
open PySem L2
theorem asc9 : ∀ x ∈ SS, asc x ∧ x.length ≤ 9 := SS_ok
theorem asc_x : ∀ x ∈ (["x", "zzzzzzzz", "nowhere", "a"] : List Str), asc x ∧ x.length ≤ 9 := by
  have : ∀ x ∈ (["x", "zzzzzzzz", "nowhere", "a"] : List Str), (ascB x && decide (x.length ≤ 9)) = true := by decide +kernel
  intro x hx
  have h := this x hx
  rw [Bool.and_eq_true, decide_eq_true_eq] at h
  exact ⟨asc_of h.1, h.2⟩
theorem step_p (n : Nat) {p r : Nat} (hpr : p ≠ r) {nms : List Str} (hN : nms ∈ NL) {s : Sto} {C : Int} (h : Fd r C s) (hC : C + 4100 < 2 ^ 60) (hp : s[p]? = some (.lst (nms.map .str))) (x1 x3 : D) (o4 o5 o6 o7 o8 : Option D) :
    ∃ o4' o5' o6' o7' o8' s', L1__law_turn (Phi prog (n + 30)) [some (.obj r), some x1, some (.obj p), some x3, o4, o5, o6, o7, o8] s = .nx [some (.obj r), some x1, some (.obj p), some x3, o4', o5', o6', o7', o8'] s' ∧ Fd r (C + 4001) s' ∧ s'[p]? = some (.lst (nms.map .str)) := by
  obtain ⟨h5, nd, ndr, hS⟩ := nl_ok nms hN
  obtain ⟨d, s1, q1, wd, f1, e1⟩ := leading_3 hpr nms h5 hS (n + 24) s C h hp (by omega)
  have hp1 := e1.at hpr hp
  obtain ⟨j, s2, q2, j0, j1, f2, e2⟩ := take_g (n + 29) f1 (many := 5) (by decide) (by decide) (by omega)
  have hp2 := e2.ex.at hpr hp1
  obtain ⟨a1, u1, q3, h3, g3⟩ := g_sl (lo := some j) (hi := none) hp2
  rw [cut_i j0] at h3
  obtain ⟨a2, u2, q4, h4, g4⟩ := g_addE (ys := [.str "x", .str "zzzzzzzz"]) h3 (by simp; omega)
  have h4' : u2[a2]? = some (.lst ((nms.drop j.toNat ++ (["x", "zzzzzzzz"] : List Str)).map .str)) := by rw [h4, List.map_append]; rfl
  obtain ⟨a3, u3, a4, u4, q5, q6, h6, g6⟩ := g_dict ((g3.trans g4).at hp2) h4' nd
  have G4 : Gr s2 u4 := (g3.trans g4).trans g6
  have p1 : Ps (nms.zip (nms.drop j.toNat ++ (["x", "zzzzzzzz"] : List Str))) := ps_zip (by omega) (fun x hx => asc9 x (hS x hx)) (fun x hx => by
    rcases List.mem_append.mp hx with hx | hx
    · exact asc9 x (hS x (List.mem_of_mem_drop hx))
    · exact asc_x x (by simp at hx; rcases hx with rfl | rfl <;> simp))
  obtain ⟨t5, q7⟩ := right_p (n + 9) a4 d wd u4 _ h6 p1
  have G5 : Gr s2 (u4 ++ t5) := G4.trans ⟨t5, rfl⟩
  generalize u4 ++ t5 = u5 at *
  have p2 : Ps [("nowhere", "a")] := ⟨by decide, fun p hp => by
    simp at hp
    subst hp
    exact ⟨asc_x _ (by simp), asc_x _ (by simp)⟩⟩
  obtain ⟨t6, q8⟩ := right_p (n + 9) u5.length d wd (u5 ++ [.dic [(.inr "nowhere", .str "a")]]) [("nowhere", "a")] (by simp [dS]) p2
  have G6 : Gr s2 (u5 ++ [.dic [(.inr "nowhere", .str "a")]] ++ t6) := G5.trans ⟨_, List.append_assoc _ _ _⟩
  generalize u5 ++ [.dic [(.inr "nowhere", .str "a")]] ++ t6 = u6 at *
  have dsp : ∀ env, eDisp [(.inr "nowhere", eC (.str "a"))] env u5 = .ok (.obj u5.length) (u5 ++ [.dic [(.inr "nowhere", .str "a")]]) := fun env => by
    simp [mergeL, putL]
  generalize u5 ++ [.dic [(.inr "nowhere", .str "a")]] = v5 at *
  obtain ⟨b1, v1, b2, v2, b3, v3, q9, q10, q11, h11, g11⟩ := g_rot (G6.at hp2) h5
  obtain ⟨b4, v4, b5, w5, q12, q13, h13, g13⟩ := g_dict ((G6.trans g11).at hp2) h11 nd
  have G7 : Gr s2 w5 := (G6.trans g11).trans g13
  obtain ⟨c1, w1, c2, w2, c3, w3, q14, q15, q16, h16, g16⟩ := g_rot (G7.at hp2) h5
  obtain ⟨c4, w4, c5, z5, q17, q18, h18, g18⟩ := g_dict h16 ((G7.trans g16).at hp2) ndr
  have G8 : Gr s2 z5 := (G7.trans g16).trans g18
  have h13' := (g16.trans g18).at h13
  have pt : Ps (nms.zip (rot nms)) := ps_zip (by omega) (fun x hx => asc9 x (hS x hx)) (fun x hx => asc9 x (hS x (rot_mem.mp hx)))
  obtain ⟨ww, wdd, ws⟩ := wd
  have th := Wt.th d ww
  have q19 := led_p _ (n + 30) d z5 b5 (nm_dS h13') th (by omega) (by omega)
  obtain ⟨t1, t2, t3⟩ := led_ok (fun x hx => pt.f hx) d ww
  have q20 := led_p _ (n + 30) _ z5 c5 (nm_dS h18) t1 (by omega) (by omega)
  rw [nl_led hN] at q20
  have rd := rq_th th (by omega) (by omega) z5
  refine ⟨some d, some (.obj a2), some (.obj a4), some (.obj b5), some (.obj c5), z5, ?_, (G8.fd f2).mono (by omega), G8.at hp2⟩
  generalize led (fS (nms.zip (rot nms))) d = dl at *
  generalize (rp d).shown = Y at *
  simp [L1__law_turn, q1, q2, q3, q4, q5, q6, q7, dsp, q8, q9, q10, q11, q12, q13, q14, q15, q16, q17, q18, q19, q20, rd, lsz, -dict_at, -ap_disp]
theorem turn_p (n : Nat) {r : Nat} {st : Sto} (h : Fd r 0 st) : ∃ s', Phi prog (n + 31) i__law_turn [.obj r] st = .ok (.bl true) s' := by
  obtain ⟨sl, s1, q1, sl0, sl1, f1, e1⟩ := take_g (n + 29) h (many := 8) (by decide) (by decide) (by decide)
  obtain ⟨p, nms, s2, q2, hN, hp, hpr, f2⟩ := box_p (n + 28) f1 (by decide)
  obtain ⟨x, hx, ex⟩ := menu (xs := [D.int 20, .int 2, .int 10, .int 2, .int 30, .int 6, .int 14, .int 24]) (d := sl) sl0 (by simpa using sl1)
  obtain ⟨v, rfl, v0, v1⟩ : ∃ v : Int, x = .int v ∧ 0 ≤ v ∧ v ≤ 30 := by
    simp at hx
    rcases hx with rfl | rfl | rfl | rfl | rfl | rfl | rfl | rfl <;> exact ⟨_, rfl, by decide, by decide⟩
  obtain ⟨env', s', fq, _⟩ := for_ix (w := []) (t := .nm 3) (N := v.toNat) (J := fun k env s => ∃ o3 o4 o5 o6 o7 o8, env = [some (.obj r), some (.int sl), some (.obj p), o3, o4, o5, o6, o7, o8] ∧ Fd r (2 + 4001 * (k : Nat)) s ∧ s[p]? = some (.lst (nms.map .str))) (B := L1__law_turn (Phi prog (n + 30)))
    (fun _ _ _ _ => rfl) (upI 0 v.toNat) 0 [some (.obj r), some (.int sl), some (.obj p), none, none, none, none, none, none] s2 (by
      rintro d hd k env s hk ⟨o3, o4, o5, o6, o7, o8, rfl, fk, hpk⟩
      obtain ⟨o4', o5', o6', o7', o8', s', q, f', hp'⟩ := step_p n hpr hN fk (by omega) hpk (.int sl) d o4 o5 o6 o7 o8
      exact ⟨_, _, _, rfl, q, _, _, _, _, _, _, rfl, f'.mono (by omega), hp'⟩) (by rw [upI_len]; omega) ⟨_, _, _, _, _, _, rfl, f2.mono (by omega), hp⟩
  obtain ⟨o3, o4, o5, o6, o7, o8, rfl, _, _⟩ := ‹∃ o3 o4 o5 o6 o7 o8, env' = _ ∧ _›
  refine ⟨s', ?_⟩
  rw [Phi__law_turn, runB_eq]
  simp [b__law_turn, q1, q2, ex, lsz, rng1_ok (j := v) (by omega) (by omega), upI_len, lsz v.toNat (by omega), fq]
theorem min3 (l : Nat) : ∃ j : Int, 0 ≤ j ∧ j ≤ 3 ∧ ∀ st, minB [.int 3, .int (l : Nat)] st = .ok (.int j) st := by
  by_cases c : l < 3
  · refine ⟨l, by omega, by omega, fun st => ?_⟩
    have e : (if (l : Int) < 3 then (l : Int) else 3) = l := if_pos (by omega)
    show R.ok (D.int (if (l : Int) < 3 then (l : Int) else 3)) st = _
    rw [e]
  · refine ⟨3, by omega, by omega, fun st => ?_⟩
    have e : (if (l : Int) < 3 then (l : Int) else 3) = 3 := if_neg (by omega)
    show R.ok (D.int (if (l : Int) < 3 then (l : Int) else 3)) st = _
    rw [e]
theorem one_p (n : Nat) (ns : List Int) (i : Nat) (hi : i < 3) (s : Sto) : ∃ s', L1_law (Phi prog (n + 31)) [some (.kl (ns.map .int)), some (.int i)] s = .nx [some (.kl (ns.map .int)), some (.int i)] s' := by
  obtain ⟨G, M, hG, q⟩ := feed_p (n + 30) ns i s (by omega) (by omega)
  obtain ⟨s', q2⟩ := turn_p n (r := s.length) (st := s ++ [.lst [.int G, .int M, .int 0]]) ⟨G, M, 0, by simp, hG, by decide, by decide⟩
  exact ⟨s', by simp [L1_law, q, q2]⟩
theorem loop_p (n : Nat) (ns : List Int) (k : Nat) (hk : k ≤ 3) : ∃ o1 st', forL [] (.nm 1) (L1_law (Phi prog (n + 31))) (upI 0 k) [some (.kl (ns.map .int)), none] [] = .nx [some (.kl (ns.map .int)), o1] st' := by
  obtain ⟨env', st', q', o1, rfl⟩ := for_inv (w := []) (t := .nm 1) (J := fun env s => ∃ o1, env = [some (.kl (ns.map .int)), o1]) (B := L1_law (Phi prog (n + 31)))
    (fun _ _ _ => rfl) (upI 0 k) [some (.kl (ns.map .int)), none] [] (by
      rintro d hd env s ⟨o1, rfl⟩
      obtain ⟨i, hi, rfl⟩ : ∃ i : Nat, i < k ∧ d = .int i := by
        simp [upI] at hd
        obtain ⟨a, h1, rfl⟩ := hd
        exact ⟨a, h1, by simp⟩
      obtain ⟨s', q⟩ := one_p n ns i (by omega) s
      exact ⟨_, _, s', rfl, q, _, rfl⟩) ⟨_, rfl⟩
  exact ⟨o1, st', q'⟩
theorem law_gen (Φ : Fam) (ns : List Int) (hl : ∀ k : Nat, k ≤ 3 → ∃ o1 st', forL [] (.nm 1) (L1_law Φ) (upI 0 k) [some (.kl (ns.map .int)), none] [] = .nx [some (.kl (ns.map .int)), o1] st') (ht : ∀ st : Sto, ∃ s', Φ i__law_turn [.obj st.length] (st ++ [.lst [.int 0, .int 0, .int 0]]) = .ok (.bl true) s') :
    ∃ st, runB 2 (b_law Φ) [.kl (ns.map .int)] [] = .ok (.bl true) st := by
  rw [runB_eq]
  have ln : ∀ st, lenB [.kl (ns.map .int)] st = .ok (.int (ns.length : Nat)) st := fun st => by unfold lenB; simp
  obtain ⟨j, j0, j1, mn⟩ := min3 ns.length
  obtain ⟨o1, st', q'⟩ := hl j.toNat (by omega)
  obtain ⟨s', q2⟩ := ht st'
  exact ⟨s', by simp [b_law, ln, mn, rng1_ok (j := j) (by omega) (by omega), upI_len, lsz j.toNat (by omega), q', lsz, q2]⟩
theorem law_p (n : Nat) (ns : List Int) (h : ns.length ≤ 63) : ∃ st, Phi prog (n + 32) i_law [.kl (ns.map .int)] [] = .ok (.bl true) st := by
  rw [Phi_law]
  exact law_gen _ ns (fun k hk => loop_p n ns k hk) fun st => turn_p n ⟨0, 0, 0, by simp, by decide, by decide, by decide⟩
theorem yes (ns : List Int) (h : ns.length ≤ 63) : ∃ st, Phi prog 100 i_law [.kl (ns.map .int)] [] = .ok (.bl true) st := law_p 68 ns h
end Mi

namespace Mi
open PySem L2

/-! the text by places (printed by wip/gen2.py) -/
def topS (i : Nat) : Stmt := PySem.Challenge.pw_oneprotocol_k73_leads_told.main.body.getD i (.Pass ⟨0, 0, 0, 0⟩)
abbrev s_is_name : Stmt := topS 4
abbrev N_is_name : List Str := ["given", "sign"]
abbrev s_is_lead : Stmt := topS 5
abbrev N_is_lead : List Str := ["thing"]
abbrev s_leads_in : Stmt := topS 6
abbrev N_leads_in : List Str := ["thing", "part", "name"]
abbrev s_led_anew : Stmt := topS 7
abbrev N_led_anew : List Str := ["thing", "names", "part"]
abbrev s__law_feed : Stmt := topS 9
abbrev N__law_feed : List Str := ["_law_script", "_law_k", "_law_cell", "_law_great"]
abbrev s__law_take : Stmt := topS 10
abbrev N__law_take : List Str := ["_law_feed_here", "_law_many", "_law_digit", "_law_many_so", "_law_mixed"]
abbrev s__law_thing : Stmt := topS 11
abbrev N__law_thing : List Str := ["_law_feed_here", "_law_deep", "_law_way", "_law_k"]
abbrev s__law_boxnames : Stmt := topS 12
abbrev N__law_boxnames : List Str := ["_law_feed_here", "_law_some"]
abbrev s__law_leading : Stmt := topS 13
abbrev N__law_leading : List Str := ["_law_feed_here", "_law_names", "_law_deep", "_law_way", "_law_near", "_law_k"]
abbrev s__law_leads : Stmt := topS 14
abbrev N__law_leads : List Str := ["_law_thing_here", "_law_found", "_law_part", "_law_sign"]
abbrev s__law_led : Stmt := topS 15
abbrev N__law_led : List Str := ["_law_thing_here", "_law_names", "_law_part"]
abbrev s__law_right : Stmt := topS 16
abbrev N__law_right : List Str := ["_law_thing_here", "_law_names", "_law_kept", "_law_again", "_law_found"]
abbrev s__law_turn : Stmt := topS 17
abbrev N__law_turn : List Str := ["_law_feed_here", "_law_slot", "_law_names", "_law_k", "_law_thing_here", "_law_others", "_law_mates", "_law_turned", "_law_back"]
abbrev s_law : Stmt := topS 18
abbrev N_law : List Str := ["_law_script", "_law_k"]
theorem bb_abs : bootBuiltins "abs" = some (.builtin "abs") := by decide +kernel
theorem bb_all : bootBuiltins "all" = some (.builtin "all") := by decide +kernel
theorem bb_dict : bootBuiltins "dict" = some (.type "dict") := by decide +kernel
theorem bb_isinstance : bootBuiltins "isinstance" = some (.builtin "isinstance") := by decide +kernel
theorem bb_len : bootBuiltins "len" = some (.builtin "len") := by decide +kernel
theorem bb_list : bootBuiltins "list" = some (.type "list") := by decide +kernel
theorem bb_min : bootBuiltins "min" = some (.builtin "min") := by decide +kernel
theorem bb_range : bootBuiltins "range" = some (.type "range") := by decide +kernel
theorem bb_repr : bootBuiltins "repr" = some (.builtin "repr") := by decide +kernel
theorem bb_str : bootBuiltins "str" = some (.type "str") := by decide +kernel
theorem bb_tuple : bootBuiltins "tuple" = some (.type "tuple") := by decide +kernel
theorem bb_zip : bootBuiltins "zip" = some (.type "zip") := by decide +kernel
structure FI where
  a : Addr
  d : FuncData
def faF (fi : Nat → FI) (j : Nat) : Option Addr := some (fi j).a
def caF (ci : Nat → Addr) (c : Nat) : Option Addr := some (ci c)
structure Txt (g : Gd) (fi : Nat → FI) (ci : Nat → Addr) : Prop where
  sm : ∃ o, g.base.get? sysModules = some o
  hfa : ∀ j, g.fa j = some (fi j).a
  hca : ∀ c, g.ca c = some (ci c)
  F_is_name : Fun g.K "is_name" "is_name" s_is_name (fi 0).a (fi 0).d
  b_is_name : Binds g.K (fi 0).d ["given"] []
  F_is_lead : Fun g.K "is_lead" "is_lead" s_is_lead (fi 1).a (fi 1).d
  b_is_lead : Binds g.K (fi 1).d ["thing"] []
  F_leads_in : Fun g.K "leads_in" "leads_in" s_leads_in (fi 2).a (fi 2).d
  b_leads_in : Binds g.K (fi 2).d ["thing"] []
  F_led_anew : Fun g.K "led_anew" "led_anew" s_led_anew (fi 3).a (fi 3).d
  b_led_anew : Binds g.K (fi 3).d ["thing", "names"] []
  F__law_feed : Fun g.K "_law_feed" "_law_feed" s__law_feed (fi 4).a (fi 4).d
  b__law_feed : Binds g.K (fi 4).d ["_law_script", "_law_k"] []
  F__law_take : Fun g.K "_law_take" "_law_take" s__law_take (fi 5).a (fi 5).d
  b__law_take : Binds g.K (fi 5).d ["_law_feed_here", "_law_many"] []
  F__law_thing : Fun g.K "_law_thing" "_law_thing" s__law_thing (fi 6).a (fi 6).d
  b__law_thing : Binds g.K (fi 6).d ["_law_feed_here", "_law_deep"] []
  F__law_boxnames : Fun g.K "_law_boxnames" "_law_boxnames" s__law_boxnames (fi 7).a (fi 7).d
  b__law_boxnames : Binds g.K (fi 7).d ["_law_feed_here"] []
  F__law_leading : Fun g.K "_law_leading" "_law_leading" s__law_leading (fi 8).a (fi 8).d
  b__law_leading : Binds g.K (fi 8).d ["_law_feed_here", "_law_names", "_law_deep"] []
  F__law_leads : Fun g.K "_law_leads" "_law_leads" s__law_leads (fi 9).a (fi 9).d
  b__law_leads : Binds g.K (fi 9).d ["_law_thing_here"] []
  F__law_led : Fun g.K "_law_led" "_law_led" s__law_led (fi 10).a (fi 10).d
  b__law_led : Binds g.K (fi 10).d ["_law_thing_here", "_law_names"] []
  F__law_right : Fun g.K "_law_right" "_law_right" s__law_right (fi 11).a (fi 11).d
  b__law_right : Binds g.K (fi 11).d ["_law_thing_here", "_law_names"] []
  F__law_turn : Fun g.K "_law_turn" "_law_turn" s__law_turn (fi 12).a (fi 12).d
  b__law_turn : Binds g.K (fi 12).d ["_law_feed_here"] []
  F_law : Fun g.K "law" "law" s_law (fi 13).a (fi 13).d
  b_law : Binds g.K (fi 13).d ["_law_script"] []
  m__law_boxnames : g.mg "_law_boxnames" = some (.ref (fi 7).a)
  m__law_feed : g.mg "_law_feed" = some (.ref (fi 4).a)
  m__law_leading : g.mg "_law_leading" = some (.ref (fi 8).a)
  m__law_leads : g.mg "_law_leads" = some (.ref (fi 9).a)
  m__law_led : g.mg "_law_led" = some (.ref (fi 10).a)
  m__law_right : g.mg "_law_right" = some (.ref (fi 11).a)
  m__law_take : g.mg "_law_take" = some (.ref (fi 5).a)
  m__law_thing : g.mg "_law_thing" = some (.ref (fi 6).a)
  m__law_turn : g.mg "_law_turn" = some (.ref (fi 12).a)
  m_is_lead : g.mg "is_lead" = some (.ref (fi 1).a)
  m_is_name : g.mg "is_name" = some (.ref (fi 0).a)
  m_law : g.mg "law" = some (.ref (fi 13).a)
  m_leads_in : g.mg "leads_in" = some (.ref (fi 2).a)
  m_led_anew : g.mg "led_anew" = some (.ref (fi 3).a)
  z_abs : g.mg "abs" = none
  z_all : g.mg "all" = none
  z_dict : g.mg "dict" = none
  z_isinstance : g.mg "isinstance" = none
  z_len : g.mg "len" = none
  z_list : g.mg "list" = none
  z_min : g.mg "min" = none
  z_range : g.mg "range" = none
  z_repr : g.mg "repr" = none
  z_str : g.mg "str" = none
  z_tuple : g.mg "tuple" = none
  z_zip : g.mg "zip" = none
  c_LETTERS : ∃ u, g.mg "LETTERS" = some u ∧ KVd g u (.str "abcdefghijklmnopqrstuvwxyz")
  c_LONGEST : ∃ u, g.mg "LONGEST" = some u ∧ KVd g u (.int (8))
  c_TO : ∃ u, g.mg "TO" = some u ∧ KVd g u (.str "to")
structure Fns (g : Gd) (fi : Nat → FI) (Φ : Fam) (k : Nat) : Prop where
  f_is_name : FG g k (fi 0).a (fi 0).d ["given"] (spD g 1 (Φ i_is_name))
  f_is_lead : FG g k (fi 1).a (fi 1).d ["thing"] (spD g 1 (Φ i_is_lead))
  f_leads_in : FG g k (fi 2).a (fi 2).d ["thing"] (spD g 1 (Φ i_leads_in))
  f_led_anew : FG g k (fi 3).a (fi 3).d ["thing", "names"] (spD g 2 (Φ i_led_anew))
  f__law_feed : FG g k (fi 4).a (fi 4).d ["_law_script", "_law_k"] (spD g 2 (Φ i__law_feed))
  f__law_take : FG g k (fi 5).a (fi 5).d ["_law_feed_here", "_law_many"] (spD g 2 (Φ i__law_take))
  f__law_thing : FG g k (fi 6).a (fi 6).d ["_law_feed_here", "_law_deep"] (spD g 2 (Φ i__law_thing))
  f__law_boxnames : FG g k (fi 7).a (fi 7).d ["_law_feed_here"] (spD g 1 (Φ i__law_boxnames))
  f__law_leading : FG g k (fi 8).a (fi 8).d ["_law_feed_here", "_law_names", "_law_deep"] (spD g 3 (Φ i__law_leading))
  f__law_leads : FG g k (fi 9).a (fi 9).d ["_law_thing_here"] (spD g 1 (Φ i__law_leads))
  f__law_led : FG g k (fi 10).a (fi 10).d ["_law_thing_here", "_law_names"] (spD g 2 (Φ i__law_led))
  f__law_right : FG g k (fi 11).a (fi 11).d ["_law_thing_here", "_law_names"] (spD g 2 (Φ i__law_right))
  f__law_turn : FG g k (fi 12).a (fi 12).d ["_law_feed_here"] (spD g 1 (Φ i__law_turn))
  f_law : FG g k (fi 13).a (fi 13).d ["_law_script"] (spD g 1 (Φ i_law))
variable {g : Gd} {fi : Nat → FI} {ci : Nat → Addr} {Φ : Fam} {k : Nat}
theorem sc_is_name : FnScope N_is_name ["given"] (defScope s_is_name) := ⟨rfl, rfl, rfl, by decide +kernel, rfl, by decide +kernel, by decide +kernel⟩
theorem ok_is_name (T : Txt g fi ci) (h : Fns g fi Φ k) : FG g (k + 2) (fi 0).a (fi 0).d ["given"] (spD g 1 (prog Φ i_is_name)) := by
  show FG g (k + 1 + 1) _ _ _ (spD g 1 (runB N_is_name.length (b_is_name Φ)))
  refine fg_of T.F_is_name sc_is_name rfl (by decide) fun cdv A fr s H E c hr1 => ?_
  have hr := hr1.mono (Nat.le_succ k)
  exact (os_cons (os_ret (oe_and c (oe_isi c .str (oe_var 0) bb_str bb_isinstance T.z_isinstance T.z_str) (oe_and c (oe_chain op_leD op_leD (OE.v oe_int) (OE.v (oe_callB c (bi_len c) bb_len T.z_len (oa_cons (oe_var 0) oa_nil))) (OE.v (oe_globK c T.c_LONGEST))) (oe_one (oe_callBL c ((bis_all c).l) bb_all T.z_all (ol_comp c (blkOk_by (N := N_is_name) (sc := defScope s_is_name) (own := [("sign", 1)]) (by decide +kernel)) (oi_val c (oe_var 0)) (fun _ _ _ _ _ => (og_nm c.blk.nd)) (fun _ _ _ _ _ => ots_nil) (fun _ _ _ _ _ => (oe_cmp (op_inQ c.blk) (OE.v (oe_var 1)) (OE.v (oe_globK c.blk T.c_LETTERS)))) (by decide)))))))
    os_nil)
theorem sc_is_lead : FnScope N_is_lead ["thing"] (defScope s_is_lead) := ⟨rfl, rfl, rfl, by decide +kernel, rfl, by decide +kernel, by decide +kernel⟩
theorem ok_is_lead (T : Txt g fi ci) (h : Fns g fi Φ k) : FG g (k + 2) (fi 1).a (fi 1).d ["thing"] (spD g 1 (prog Φ i_is_lead)) := by
  show FG g (k + 1 + 1) _ _ _ (spD g 1 (runB N_is_lead.length (b_is_lead Φ)))
  refine fg_of T.F_is_lead sc_is_lead rfl (by decide) fun cdv A fr s H E c hr1 => ?_
  have hr := hr1.mono (Nat.le_succ k)
  exact (os_cons (os_ret (oe_and c (oe_isi c .tuple (oe_var 0) bb_tuple bb_isinstance T.z_isinstance T.z_tuple) (oe_and c (oe_cmp (op_eqQ c) (OE.v (oe_callB c (bi_len c) bb_len T.z_len (oa_cons (oe_var 0) oa_nil))) (OE.v oe_int)) (oe_and c (oe_isi c .str (oe_ix c (OE.v (oe_var 0)) oe_int) bb_str bb_isinstance T.z_isinstance T.z_str) (oe_and c (oe_cmp (op_eqQ c) (OE.v (oe_ix c (OE.v (oe_var 0)) oe_int)) (OE.v (oe_globK c T.c_TO))) (oe_one (oe_call c h.f_is_name hr T.m_is_name T.F_is_name.kp T.b_is_name (oa_cons (oe_ix c (OE.v (oe_var 0)) oe_int) oa_nil) (hgl := (aCons_len aNil_len)))))))))
    os_nil)
theorem sc_leads_in : FnScope N_leads_in ["thing"] (defScope s_leads_in) := ⟨rfl, rfl, rfl, by decide +kernel, rfl, by decide +kernel, by decide +kernel⟩
theorem ok_leads_in (T : Txt g fi ci) (h : Fns g fi Φ k) : FG g (k + 2) (fi 2).a (fi 2).d ["thing"] (spD g 1 (prog Φ i_leads_in)) := by
  show FG g (k + 1 + 1) _ _ _ (spD g 1 (runB N_leads_in.length (b_leads_in Φ)))
  refine fg_of T.F_leads_in sc_leads_in rfl (by decide) fun cdv A fr s H E c hr1 => ?_
  have hr := hr1.mono (Nat.le_succ k)
  exact (os_cons (os_if (ot_val c (oe_call c h.f_is_lead hr T.m_is_lead T.F_is_lead.kp T.b_is_lead (oa_cons (oe_var 0) oa_nil) (hgl := (aCons_len aNil_len)))) (os_cons (os_ret (oe_lst (oa_cons (oe_ix c (OE.v (oe_var 0)) oe_int) oa_nil)))
    os_nil) os_nil)
    (os_cons (os_if (ot_not (ot_val c (oe_isi c .tuple (oe_var 0) bb_tuple bb_isinstance T.z_isinstance T.z_tuple))) (os_cons (os_ret (oe_lst oa_nil))
    os_nil) os_nil)
    (os_cons (os_ret (oe_comp2 c (vs1 := [2]) (blkOk_by (N := N_leads_in) (sc := defScope s_leads_in) (own := [("part", 1), ("name", 2)]) (by decide +kernel)) (by decide) (oi_val c (oe_var 0)) (fun _ _ _ _ _ => (og_nm c.blk.nd)) (fun _ _ _ _ _ => ots_nil) (fun _ _ _ _ _ => (oi_val c.blk (oe_call c.blk h.f_leads_in hr T.m_leads_in T.F_leads_in.kp T.b_leads_in (oa_cons (oe_var 1) oa_nil) (hgl := (aCons_len aNil_len))))) (fun _ _ _ _ _ => (og_nm c.blk.nd)) (fun _ _ _ _ _ => ots_nil) (fun _ _ _ _ _ => (oe_var 2)) (by decide) (by decide)))
    os_nil)))
theorem sc_led_anew : FnScope N_led_anew ["thing", "names"] (defScope s_led_anew) := ⟨rfl, rfl, rfl, by decide +kernel, rfl, by decide +kernel, by decide +kernel⟩
theorem ok_led_anew (T : Txt g fi ci) (h : Fns g fi Φ k) : FG g (k + 2) (fi 3).a (fi 3).d ["thing", "names"] (spD g 2 (prog Φ i_led_anew)) := by
  show FG g (k + 1 + 1) _ _ _ (spD g 2 (runB N_led_anew.length (b_led_anew Φ)))
  refine fg_of T.F_led_anew sc_led_anew rfl (by decide) fun cdv A fr s H E c hr1 => ?_
  have hr := hr1.mono (Nat.le_succ k)
  exact (os_cons (os_if (ot_val c (oe_call c h.f_is_lead hr T.m_is_lead T.F_is_lead.kp T.b_is_lead (oa_cons (oe_var 0) oa_nil) (hgl := (aCons_len aNil_len)))) (os_cons (os_ret (oe_tup (oa_cons (oe_globK c T.c_TO) (oa_cons (oe_mt c PySem.F.plainAttrs_dict PySem.F.slot_dict_get PySem.F.type_dict_get (mt_dget2D c) (oe_var 1) (oa_cons (oe_ix c (OE.v (oe_var 0)) oe_int) (oa_cons (oe_ix c (OE.v (oe_var 0)) oe_int) oa_nil))) oa_nil))))
    os_nil) os_nil)
    (os_cons (os_if (ot_not (ot_val c (oe_isi c .tuple (oe_var 0) bb_tuple bb_isinstance T.z_isinstance T.z_tuple))) (os_cons (os_ret (oe_var 0))
    os_nil) os_nil)
    (os_cons (os_ret (oe_callTyL c (bil_tuple c) bb_tuple T.z_tuple (ol_comp c (blkOk_by (N := N_led_anew) (sc := defScope s_led_anew) (own := [("part", 2)]) (by decide +kernel)) (oi_val c (oe_var 0)) (fun _ _ _ _ _ => (og_nm c.blk.nd)) (fun _ _ _ _ _ => ots_nil) (fun _ _ _ _ _ => (oe_call c.blk h.f_led_anew hr T.m_led_anew T.F_led_anew.kp T.b_led_anew (oa_cons (oe_var 2) (oa_cons (oe_var 1) oa_nil)) (hgl := (aCons_len (aCons_len aNil_len))))) (by decide))))
    os_nil)))
theorem sc__law_feed : FnScope N__law_feed ["_law_script", "_law_k"] (defScope s__law_feed) := ⟨rfl, rfl, rfl, by decide +kernel, rfl, by decide +kernel, by decide +kernel⟩
theorem ok__law_feed (T : Txt g fi ci) (h : Fns g fi Φ k) : FG g (k + 2) (fi 4).a (fi 4).d ["_law_script", "_law_k"] (spD g 2 (prog Φ i__law_feed)) := by
  show FG g (k + 1 + 1) _ _ _ (spD g 2 (runB N__law_feed.length (b__law_feed Φ)))
  refine fg_of T.F__law_feed sc__law_feed rfl (by decide) fun cdv A fr s H E c hr1 => ?_
  have hr := hr1.mono (Nat.le_succ k)
  exact (os_cons (os_set c oe_int)
    (os_cons (os_if (ot_cmp (op_ltQ c) (OE.v (oe_var 1)) (OE.v (oe_callB c (bi_len c) bb_len T.z_len (oa_cons (oe_var 0) oa_nil)))) (os_cons (os_set c (oe_ix c (OE.v (oe_var 0)) (oe_var 1)))
    os_nil) os_nil)
    (os_cons (os_set c (oe_callB c (bi_abs) bb_abs T.z_abs (oa_cons (oe_var 2) oa_nil)))
    (os_cons (os_if (ot_cmp (op_ltQ c) (OE.v (oe_var 3)) (OE.v (oe_bin op_powD (OE.v oe_int) (OE.v oe_int)))) (os_cons (os_set c oe_int)
    os_nil) os_nil)
    (os_cons (os_ret (oe_lst (oa_cons (oe_var 3) (oa_cons (oe_bin op_modD (OE.v (oe_bin (op_addD c) (OE.v (oe_bin (op_addD c) (OE.v (oe_bin (op_mulD c) (OE.v (oe_bin op_modD (OE.v (oe_var 2)) (OE.v oe_int))) (OE.v oe_int))) (OE.v (oe_bin (op_mulD c) (OE.v oe_int) (OE.v (oe_var 1)))))) (OE.v oe_int))) (OE.v oe_int)) (oa_cons oe_int oa_nil)))))
    os_nil)))))
theorem sc__law_take : FnScope N__law_take ["_law_feed_here", "_law_many"] (defScope s__law_take) := ⟨rfl, rfl, rfl, by decide +kernel, rfl, by decide +kernel, by decide +kernel⟩
theorem ok__law_take (T : Txt g fi ci) (h : Fns g fi Φ k) : FG g (k + 2) (fi 5).a (fi 5).d ["_law_feed_here", "_law_many"] (spD g 2 (prog Φ i__law_take)) := by
  show FG g (k + 1 + 1) _ _ _ (spD g 2 (runB N__law_take.length (b__law_take Φ)))
  refine fg_of T.F__law_take sc__law_take rfl (by decide) fun cdv A fr s H E c hr1 => ?_
  have hr := hr1.mono (Nat.le_succ k)
  exact (os_cons (os_if (ot_cmp op_gtD (OE.v (oe_ix c (OE.v (oe_var 0)) oe_int)) (OE.v oe_int)) (os_cons (os_set c (oe_bin op_modD (OE.v (oe_ix c (OE.v (oe_var 0)) oe_int)) (OE.v (oe_var 1))))
    (os_cons (os_sub c (oe_bin op_fdivD (OE.v (oe_ix c (OE.v (oe_var 0)) oe_int)) (OE.v (oe_var 1))) (oe_var 0) oe_int)
    (os_cons (os_ret (oe_var 2))
    os_nil))) os_nil)
    (os_cons (os_set c (oe_bin (op_addD c) (OE.v (oe_ix c (OE.v (oe_var 0)) oe_int)) (OE.v oe_int)))
    (os_cons (os_sub c (oe_var 3) (oe_var 0) oe_int)
    (os_cons (os_set c (oe_bin op_modD (OE.v (oe_bin (op_addD c) (OE.v (oe_bin (op_addD c) (OE.v (oe_ix c (OE.v (oe_var 0)) oe_int)) (OE.v (oe_bin (op_mulD c) (OE.v (oe_bin (op_mulD c) (OE.v oe_int) (OE.v (oe_var 3)))) (OE.v (oe_var 3)))))) (OE.v (oe_bin (op_mulD c) (OE.v oe_int) (OE.v (oe_var 3)))))) (OE.v oe_int)))
    (os_cons (os_set c (oe_bin op_modD (OE.v (oe_bin (op_addD c) (OE.v (oe_bin (op_addD c) (OE.v (oe_bin (op_mulD c) (OE.v (oe_var 4)) (OE.v (oe_var 4)))) (OE.v (oe_bin (op_mulD c) (OE.v oe_int) (OE.v (oe_var 4)))))) (OE.v (oe_var 3)))) (OE.v oe_int)))
    (os_cons (os_set c (oe_bin op_modD (OE.v (oe_bin (op_addD c) (OE.v (oe_bin (op_mulD c) (OE.v (oe_var 4)) (OE.v (oe_var 4)))) (OE.v (oe_bin (op_mulD c) (OE.v oe_int) (OE.v (oe_var 4)))))) (OE.v oe_int)))
    (os_cons (os_ret (oe_bin op_modD (OE.v (oe_bin op_fdivD (OE.v (oe_var 4)) (OE.v oe_int))) (OE.v (oe_var 1))))
    os_nil)))))))
theorem sc__law_thing : FnScope N__law_thing ["_law_feed_here", "_law_deep"] (defScope s__law_thing) := ⟨rfl, rfl, rfl, by decide +kernel, rfl, by decide +kernel, by decide +kernel⟩
theorem ok__law_thing (T : Txt g fi ci) (h : Fns g fi Φ k) : FG g (k + 2) (fi 6).a (fi 6).d ["_law_feed_here", "_law_deep"] (spD g 2 (prog Φ i__law_thing)) := by
  show FG g (k + 1 + 1) _ _ _ (spD g 2 (runB N__law_thing.length (b__law_thing Φ)))
  refine fg_of T.F__law_thing sc__law_thing rfl (by decide) fun cdv A fr s H E c hr1 => ?_
  have hr := hr1.mono (Nat.le_succ k)
  exact (os_cons (os_set c (oe_call c h.f__law_take hr T.m__law_take T.F__law_take.kp T.b__law_take (oa_cons (oe_var 0) (oa_cons oe_int oa_nil)) (hgl := (aCons_len (aCons_len aNil_len)))))
    (os_cons (os_if (ot_cmp (op_ltQ c) (OE.v (oe_var 2)) (OE.v oe_int)) (os_cons (os_ret (oe_ix c (OL.v (ol_disp (oa_cons oe_int (oa_cons oe_int (oa_cons oe_int (oa_cons oe_int (oa_cons (oe_un op_negD oe_int) (oa_cons (oe_bin op_powD (OE.v oe_int) (OE.v oe_int)) oa_nil)))))))) (oe_call c h.f__law_take hr T.m__law_take T.F__law_take.kp T.b__law_take (oa_cons (oe_var 0) (oa_cons oe_int oa_nil)) (hgl := (aCons_len (aCons_len aNil_len))))))
    os_nil) os_nil)
    (os_cons (os_if (ot_cmp (op_ltQ c) (OE.v (oe_var 2)) (OE.v oe_int)) (os_cons (os_ret (oe_ix c (OL.v (ol_disp (oa_cons oe_str (oa_cons oe_str (oa_cons oe_str (oa_cons oe_str (oa_cons oe_str (oa_cons oe_str (oa_cons oe_str (oa_cons oe_str oa_nil)))))))))) (oe_call c h.f__law_take hr T.m__law_take T.F__law_take.kp T.b__law_take (oa_cons (oe_var 0) (oa_cons oe_int oa_nil)) (hgl := (aCons_len (aCons_len aNil_len))))))
    os_nil) os_nil)
    (os_cons (os_if (ot_cmp (op_ltQ c) (OE.v (oe_var 2)) (OE.v oe_int)) (os_cons (os_ret (oe_ix c (OL.v (ol_disp (oa_cons oe_non (oa_cons oe_bl (oa_cons oe_bl oa_nil))))) (oe_bin op_subD (OE.v (oe_var 2)) (OE.v oe_int))))
    os_nil) os_nil)
    (os_cons (os_if (OW.ot (ow_or (ot_cmp (op_ltQ c) (OE.v (oe_var 2)) (OE.v oe_int)) (ow_or1 (ot_cmp (op_ltQ c) (OE.v (oe_var 1)) (OE.v oe_int))))) (os_cons (os_ret (oe_bin op_subD (OE.v (oe_call c h.f__law_take hr T.m__law_take T.F__law_take.kp T.b__law_take (oa_cons (oe_var 0) (oa_cons oe_int oa_nil)) (hgl := (aCons_len (aCons_len aNil_len))))) (OE.v oe_int)))
    os_nil) os_nil)
    (os_cons (os_ret (oe_callTyL c (bil_tuple c) bb_tuple T.z_tuple (ol_comp c (blkOk_by (N := N__law_thing) (sc := defScope s__law_thing) (own := [("_law_k", 3)]) (by decide +kernel)) (oi_range1 c (oa_cons (oe_call c h.f__law_take hr T.m__law_take T.F__law_take.kp T.b__law_take (oa_cons (oe_var 0) (oa_cons oe_int oa_nil)) (hgl := (aCons_len (aCons_len aNil_len)))) oa_nil) T.z_range) (fun _ _ _ _ _ => (og_nm c.blk.nd)) (fun _ _ _ _ _ => ots_nil) (fun _ _ _ _ _ => (oe_call c.blk h.f__law_thing hr T.m__law_thing T.F__law_thing.kp T.b__law_thing (oa_cons (oe_var 0) (oa_cons (oe_bin op_subD (OE.v (oe_var 1)) (OE.v oe_int)) oa_nil)) (hgl := (aCons_len (aCons_len aNil_len))))) (by decide))))
    os_nil))))))
theorem sc__law_boxnames : FnScope N__law_boxnames ["_law_feed_here"] (defScope s__law_boxnames) := ⟨rfl, rfl, rfl, by decide +kernel, rfl, by decide +kernel, by decide +kernel⟩
theorem ok__law_boxnames (T : Txt g fi ci) (h : Fns g fi Φ k) : FG g (k + 2) (fi 7).a (fi 7).d ["_law_feed_here"] (spD g 1 (prog Φ i__law_boxnames)) := by
  show FG g (k + 1 + 1) _ _ _ (spD g 1 (runB N__law_boxnames.length (b__law_boxnames Φ)))
  refine fg_of T.F__law_boxnames sc__law_boxnames rfl (by decide) fun cdv A fr s H E c hr1 => ?_
  have hr := hr1.mono (Nat.le_succ k)
  exact (os_cons (os_set c (oe_lst (oa_cons (oe_lst (oa_cons oe_str (oa_cons oe_str (oa_cons oe_str (oa_cons oe_str (oa_cons oe_str oa_nil)))))) (oa_cons (oe_lst (oa_cons oe_str (oa_cons oe_str (oa_cons oe_str (oa_cons oe_str (oa_cons oe_str oa_nil)))))) (oa_cons (oe_lst (oa_cons oe_str (oa_cons oe_str (oa_cons oe_str (oa_cons oe_str (oa_cons oe_str oa_nil)))))) oa_nil)))))
    (os_cons (os_ret (oe_ix c (OE.v (oe_bin (op_addD c) (OE.v (oe_var 1)) (OL.v (ol_disp (oa_cons (oe_lst (oa_cons oe_str (oa_cons oe_str (oa_cons oe_str (oa_cons oe_str (oa_cons oe_str oa_nil)))))) oa_nil))))) (oe_call c h.f__law_take hr T.m__law_take T.F__law_take.kp T.b__law_take (oa_cons (oe_var 0) (oa_cons oe_int oa_nil)) (hgl := (aCons_len (aCons_len aNil_len))))))
    os_nil))
theorem sc__law_leading : FnScope N__law_leading ["_law_feed_here", "_law_names", "_law_deep"] (defScope s__law_leading) := ⟨rfl, rfl, rfl, by decide +kernel, rfl, by decide +kernel, by decide +kernel⟩
theorem ok__law_leading (T : Txt g fi ci) (h : Fns g fi Φ k) : FG g (k + 2) (fi 8).a (fi 8).d ["_law_feed_here", "_law_names", "_law_deep"] (spD g 3 (prog Φ i__law_leading)) := by
  show FG g (k + 1 + 1) _ _ _ (spD g 3 (runB N__law_leading.length (b__law_leading Φ)))
  refine fg_of T.F__law_leading sc__law_leading rfl (by decide) fun cdv A fr s H E c hr1 => ?_
  have hr := hr1.mono (Nat.le_succ k)
  exact (os_cons (os_set c (oe_call c h.f__law_take hr T.m__law_take T.F__law_take.kp T.b__law_take (oa_cons (oe_var 0) (oa_cons oe_int oa_nil)) (hgl := (aCons_len (aCons_len aNil_len)))))
    (os_cons (os_if (ot_cmp (op_ltQ c) (OE.v (oe_var 3)) (OE.v oe_int)) (os_cons (os_ret (oe_tup (oa_cons oe_str (oa_cons (oe_ix c (OE.v (oe_var 1)) (oe_call c h.f__law_take hr T.m__law_take T.F__law_take.kp T.b__law_take (oa_cons (oe_var 0) (oa_cons (oe_callB c (bi_len c) bb_len T.z_len (oa_cons (oe_var 1) oa_nil)) oa_nil)) (hgl := (aCons_len (aCons_len aNil_len))))) oa_nil))))
    os_nil) os_nil)
    (os_cons (os_if (ot_cmp (op_eqQ c) (OE.v (oe_var 3)) (OE.v oe_int)) (os_cons (os_set c (oe_lst (oa_cons (oe_tup (oa_cons oe_str oa_nil)) (oa_cons (oe_tup (oa_cons oe_str (oa_cons oe_str oa_nil))) (oa_cons (oe_tup (oa_cons oe_str (oa_cons oe_str oa_nil))) (oa_cons (oe_tup (oa_cons oe_str (oa_cons oe_str oa_nil))) (oa_cons (oe_tup (oa_cons oe_str (oa_cons oe_str (oa_cons oe_str oa_nil)))) (oa_cons (oe_tup (oa_cons oe_str (oa_cons oe_int oa_nil))) (oa_cons (oe_tup (oa_cons oe_str (oa_cons oe_str oa_nil))) (oa_cons oe_str oa_nil))))))))))
    (os_cons (os_ret (oe_ix c (OE.v (oe_var 4)) (oe_call c h.f__law_take hr T.m__law_take T.F__law_take.kp T.b__law_take (oa_cons (oe_var 0) (oa_cons oe_int oa_nil)) (hgl := (aCons_len (aCons_len aNil_len))))))
    os_nil)) os_nil)
    (os_cons (os_if (OW.ot (ow_and (ot_cmp (op_ltQ c) (OE.v (oe_var 3)) (OE.v oe_int)) (ow_and1 (ot_cmp op_gtD (OE.v (oe_var 2)) (OE.v oe_int))))) (os_cons (os_ret (oe_callTyL c (bil_tuple c) bb_tuple T.z_tuple (ol_comp c (blkOk_by (N := N__law_leading) (sc := defScope s__law_leading) (own := [("_law_k", 5)]) (by decide +kernel)) (oi_range1 c (oa_cons (oe_call c h.f__law_take hr T.m__law_take T.F__law_take.kp T.b__law_take (oa_cons (oe_var 0) (oa_cons oe_int oa_nil)) (hgl := (aCons_len (aCons_len aNil_len)))) oa_nil) T.z_range) (fun _ _ _ _ _ => (og_nm c.blk.nd)) (fun _ _ _ _ _ => ots_nil) (fun _ _ _ _ _ => (oe_call c.blk h.f__law_leading hr T.m__law_leading T.F__law_leading.kp T.b__law_leading (oa_cons (oe_var 0) (oa_cons (oe_var 1) (oa_cons (oe_bin op_subD (OE.v (oe_var 2)) (OE.v oe_int)) oa_nil))) (hgl := (aCons_len (aCons_len (aCons_len aNil_len)))))) (by decide))))
    os_nil) os_nil)
    (os_cons (os_ret (oe_call c h.f__law_thing hr T.m__law_thing T.F__law_thing.kp T.b__law_thing (oa_cons (oe_var 0) (oa_cons (oe_callB c (bi_min c) bb_min T.z_min (oa_cons oe_int (oa_cons (oe_var 2) oa_nil))) oa_nil)) (hgl := (aCons_len (aCons_len aNil_len)))))
    os_nil)))))
theorem sc__law_leads : FnScope N__law_leads ["_law_thing_here"] (defScope s__law_leads) := ⟨rfl, rfl, rfl, by decide +kernel, rfl, by decide +kernel, by decide +kernel⟩
theorem ok__law_leads (T : Txt g fi ci) (h : Fns g fi Φ k) : FG g (k + 2) (fi 9).a (fi 9).d ["_law_thing_here"] (spD g 1 (prog Φ i__law_leads)) := by
  show FG g (k + 1 + 1) _ _ _ (spD g 1 (runB N__law_leads.length (b__law_leads Φ)))
  refine fg_of T.F__law_leads sc__law_leads rfl (by decide) fun cdv A fr s H E c hr1 => ?_
  have hr := hr1.mono (Nat.le_succ k)
  exact (os_cons (os_if (ot_not (ot_val c (oe_isi c .tuple (oe_var 0) bb_tuple bb_isinstance T.z_isinstance T.z_tuple))) (os_cons (os_ret (oe_lst oa_nil))
    os_nil) os_nil)
    (os_cons (os_if (OW.ot (ow_and (ot_cmp (op_eqQ c) (OE.v (oe_callB c (bi_len c) bb_len T.z_len (oa_cons (oe_var 0) oa_nil))) (OE.v oe_int)) (ow_and (ot_cmp (op_eqQ c) (OE.v (oe_callB c (bi_reprQ c T.sm) bb_repr T.z_repr (oa_cons (oe_ix c (OE.v (oe_var 0)) oe_int) oa_nil))) (OE.v oe_str)) (ow_and (ot_val c (oe_isi c .str (oe_ix c (OE.v (oe_var 0)) oe_int) bb_str bb_isinstance T.z_isinstance T.z_str)) (ow_and1 (ot_chain (op_ltQ c) (op_ltQ c) (OE.v oe_int) (OE.v (oe_callB c (bi_len c) bb_len T.z_len (oa_cons (oe_ix c (OE.v (oe_var 0)) oe_int) oa_nil))) (OE.v oe_int))))))) (os_cons (os_if (ot_cmp (op_eqQ c) (OL.v (ol_comp c (blkOk_by (N := N__law_leads) (sc := defScope s__law_leads) (own := [("_law_sign", 3)]) (by decide +kernel)) (oi_val c (oe_ix c (OE.v (oe_var 0)) oe_int)) (fun _ _ _ _ _ => (og_nm c.blk.nd)) (fun _ _ _ _ _ => (ots_one (ot_cmp (op_notInQ c.blk) (OE.v (oe_var 3)) (OE.v oe_str)))) (fun _ _ _ _ _ => (oe_var 3)) (by decide))) (OL.v (ol_disp oa_nil))) (os_cons (os_ret (oe_lst (oa_cons (oe_ix c (OE.v (oe_var 0)) oe_int) oa_nil)))
    os_nil) os_nil)
    os_nil) os_nil)
    (os_cons (os_set c (oe_lst oa_nil))
    (os_cons (os_for c (oi_val c (oe_var 0)) (og_nm c.nd) (os_cons (os_expr (oe_mt c PySem.F.plainAttrs_list PySem.F.slot_list_extend PySem.F.type_list_extend mt_extendD (oe_var 1) (oa_cons (oe_call c h.f__law_leads hr T.m__law_leads T.F__law_leads.kp T.b__law_leads (oa_cons (oe_var 2) oa_nil) (hgl := (aCons_len aNil_len))) oa_nil)))
    os_nil))
    (os_cons (os_ret (oe_var 1))
    os_nil)))))
theorem sc__law_led : FnScope N__law_led ["_law_thing_here", "_law_names"] (defScope s__law_led) := ⟨rfl, rfl, rfl, by decide +kernel, rfl, by decide +kernel, by decide +kernel⟩
theorem ok__law_led (T : Txt g fi ci) (h : Fns g fi Φ k) : FG g (k + 2) (fi 10).a (fi 10).d ["_law_thing_here", "_law_names"] (spD g 2 (prog Φ i__law_led)) := by
  show FG g (k + 1 + 1) _ _ _ (spD g 2 (runB N__law_led.length (b__law_led Φ)))
  refine fg_of T.F__law_led sc__law_led rfl (by decide) fun cdv A fr s H E c hr1 => ?_
  have hr := hr1.mono (Nat.le_succ k)
  exact (os_cons (os_if (ot_not (ot_val c (oe_isi c .tuple (oe_var 0) bb_tuple bb_isinstance T.z_isinstance T.z_tuple))) (os_cons (os_ret (oe_var 0))
    os_nil) os_nil)
    (os_cons (os_if (OW.ot (ow_and (ot_cmp (op_eqQ c) (OE.v (oe_call c h.f__law_leads hr T.m__law_leads T.F__law_leads.kp T.b__law_leads (oa_cons (oe_var 0) oa_nil) (hgl := (aCons_len aNil_len)))) (OE.v (oe_callTy c (bi_list c) bb_list T.z_list (oa_cons (oe_sl c (oe_var 0) (oo_part oe_int) oo_no) oa_nil)))) (ow_and (ot_cmp (op_eqQ c) (OE.v (oe_callB c (bi_len c) bb_len T.z_len (oa_cons (oe_var 0) oa_nil))) (OE.v oe_int)) (ow_and1 (ot_cmp (op_eqQ c) (OE.v (oe_callB c (bi_reprQ c T.sm) bb_repr T.z_repr (oa_cons (oe_ix c (OE.v (oe_var 0)) oe_int) oa_nil))) (OE.v oe_str)))))) (os_cons (os_ret (oe_tup (oa_cons oe_str (oa_cons (oe_mt c PySem.F.plainAttrs_dict PySem.F.slot_dict_get PySem.F.type_dict_get (mt_dget2D c) (oe_var 1) (oa_cons (oe_ix c (OE.v (oe_var 0)) oe_int) (oa_cons (oe_ix c (OE.v (oe_var 0)) oe_int) oa_nil))) oa_nil))))
    os_nil) os_nil)
    (os_cons (os_ret (oe_callTyL c (bil_tuple c) bb_tuple T.z_tuple (ol_comp c (blkOk_by (N := N__law_led) (sc := defScope s__law_led) (own := [("_law_part", 2)]) (by decide +kernel)) (oi_val c (oe_var 0)) (fun _ _ _ _ _ => (og_nm c.blk.nd)) (fun _ _ _ _ _ => ots_nil) (fun _ _ _ _ _ => (oe_call c.blk h.f__law_led hr T.m__law_led T.F__law_led.kp T.b__law_led (oa_cons (oe_var 2) (oa_cons (oe_var 1) oa_nil)) (hgl := (aCons_len (aCons_len aNil_len))))) (by decide))))
    os_nil)))
theorem sc__law_right : FnScope N__law_right ["_law_thing_here", "_law_names"] (defScope s__law_right) := ⟨rfl, rfl, rfl, by decide +kernel, rfl, by decide +kernel, by decide +kernel⟩
theorem ok__law_right (T : Txt g fi ci) (h : Fns g fi Φ k) : FG g (k + 2) (fi 11).a (fi 11).d ["_law_thing_here", "_law_names"] (spD g 2 (prog Φ i__law_right)) := by
  show FG g (k + 1 + 1) _ _ _ (spD g 2 (runB N__law_right.length (b__law_right Φ)))
  refine fg_of T.F__law_right sc__law_right rfl (by decide) fun cdv A fr s H E c hr1 => ?_
  have hr := hr1.mono (Nat.le_succ k)
  exact (os_cons (os_set c (oe_callB c (bi_reprQ c T.sm) bb_repr T.z_repr (oa_cons (oe_tup (oa_cons (oe_var 0) (oa_cons (oe_var 1) oa_nil))) oa_nil)))
    (os_cons (os_for c (oi_range1 c (oa_cons oe_int oa_nil) T.z_range) (og_nm c.nd) (os_cons (os_set c (oe_call c h.f_leads_in hr T.m_leads_in T.F_leads_in.kp T.b_leads_in (oa_cons (oe_var 0) oa_nil) (hgl := (aCons_len aNil_len))))
    (os_cons (os_if (ot_cmp (op_neQ c) (OE.v (oe_callB c (bi_reprQ c T.sm) bb_repr T.z_repr (oa_cons (oe_var 4) oa_nil))) (OE.v (oe_callB c (bi_reprQ c T.sm) bb_repr T.z_repr (oa_cons (oe_call c h.f__law_leads hr T.m__law_leads T.F__law_leads.kp T.b__law_leads (oa_cons (oe_var 0) oa_nil) (hgl := (aCons_len aNil_len))) oa_nil)))) (os_cons (os_ret oe_bl)
    os_nil) os_nil)
    (os_cons (os_expr (oe_mt c PySem.F.plainAttrs_list PySem.F.slot_list_append PySem.F.type_list_append mt_appendD (oe_var 4) (oa_cons oe_str oa_nil)))
    os_nil))))
    (os_cons (os_if (OW.ot (ow_or (ot_cmp (op_neQ c) (OE.v (oe_callB c (bi_reprQ c T.sm) bb_repr T.z_repr (oa_cons (oe_call c h.f_led_anew hr T.m_led_anew T.F_led_anew.kp T.b_led_anew (oa_cons (oe_var 0) (oa_cons (oe_var 1) oa_nil)) (hgl := (aCons_len (aCons_len aNil_len)))) oa_nil))) (OE.v (oe_callB c (bi_reprQ c T.sm) bb_repr T.z_repr (oa_cons (oe_call c h.f__law_led hr T.m__law_led T.F__law_led.kp T.b__law_led (oa_cons (oe_var 0) (oa_cons (oe_var 1) oa_nil)) (hgl := (aCons_len (aCons_len aNil_len)))) oa_nil)))) (ow_or1 (ot_cmp (op_neQ c) (OE.v (oe_callB c (bi_reprQ c T.sm) bb_repr T.z_repr (oa_cons (oe_call c h.f_led_anew hr T.m_led_anew T.F_led_anew.kp T.b_led_anew (oa_cons (oe_var 0) (oa_cons oe_dic0 oa_nil)) (hgl := (aCons_len (aCons_len aNil_len)))) oa_nil))) (OE.v (oe_callB c (bi_reprQ c T.sm) bb_repr T.z_repr (oa_cons (oe_var 0) oa_nil))))))) (os_cons (os_ret oe_bl)
    os_nil) os_nil)
    (os_cons (os_ret (oe_cmp (op_eqQ c) (OE.v (oe_callB c (bi_reprQ c T.sm) bb_repr T.z_repr (oa_cons (oe_tup (oa_cons (oe_var 0) (oa_cons (oe_var 1) oa_nil))) oa_nil))) (OE.v (oe_var 2))))
    os_nil))))
theorem sc__law_turn : FnScope N__law_turn ["_law_feed_here"] (defScope s__law_turn) := ⟨rfl, rfl, rfl, by decide +kernel, rfl, by decide +kernel, by decide +kernel⟩
theorem ok__law_turn (T : Txt g fi ci) (h : Fns g fi Φ k) : FG g (k + 2) (fi 12).a (fi 12).d ["_law_feed_here"] (spD g 1 (prog Φ i__law_turn)) := by
  show FG g (k + 1 + 1) _ _ _ (spD g 1 (runB N__law_turn.length (b__law_turn Φ)))
  refine fg_of T.F__law_turn sc__law_turn rfl (by decide) fun cdv A fr s H E c hr1 => ?_
  have hr := hr1.mono (Nat.le_succ k)
  exact (os_cons (os_set c (oe_call c h.f__law_take hr T.m__law_take T.F__law_take.kp T.b__law_take (oa_cons (oe_var 0) (oa_cons oe_int oa_nil)) (hgl := (aCons_len (aCons_len aNil_len)))))
    (os_cons (os_set c (oe_call c h.f__law_boxnames hr T.m__law_boxnames T.F__law_boxnames.kp T.b__law_boxnames (oa_cons (oe_var 0) oa_nil) (hgl := (aCons_len aNil_len))))
    (os_cons (os_for c (oi_range1 c (oa_cons (oe_ix c (OL.v (ol_disp (oa_cons oe_int (oa_cons oe_int (oa_cons oe_int (oa_cons oe_int (oa_cons oe_int (oa_cons oe_int (oa_cons oe_int (oa_cons oe_int oa_nil)))))))))) (oe_var 1)) oa_nil) T.z_range) (og_nm c.nd) (os_cons (os_set c (oe_call c h.f__law_leading hr T.m__law_leading T.F__law_leading.kp T.b__law_leading (oa_cons (oe_var 0) (oa_cons (oe_var 2) (oa_cons oe_int oa_nil))) (hgl := (aCons_len (aCons_len (aCons_len aNil_len))))))
    (os_cons (os_set c (oe_bin (op_addD c) (OE.v (oe_sl c (oe_var 2) (oo_part (oe_call c h.f__law_take hr T.m__law_take T.F__law_take.kp T.b__law_take (oa_cons (oe_var 0) (oa_cons oe_int oa_nil)) (hgl := (aCons_len (aCons_len aNil_len))))) oo_no)) (OL.v (ol_disp (oa_cons oe_str (oa_cons oe_str oa_nil))))))
    (os_cons (os_set c (oe_callTy c (bi_dict c) bb_dict T.z_dict (oa_cons (oe_listZip c (oa_cons (oe_var 2) (oa_cons (oe_var 5) oa_nil)) T.z_list bb_list T.z_zip) oa_nil)))
    (os_cons (os_if (OW.ot (ow_or (ot_not (ot_val c (oe_call c h.f__law_right hr T.m__law_right T.F__law_right.kp T.b__law_right (oa_cons (oe_var 4) (oa_cons (oe_var 6) oa_nil)) (hgl := (aCons_len (aCons_len aNil_len)))))) (ow_or1 (ot_not (ot_val c (oe_call c h.f__law_right hr T.m__law_right T.F__law_right.kp T.b__law_right (oa_cons (oe_var 4) (oa_cons (oe_disp _ (pps_cons pe_str oe_str pps_nil)) oa_nil)) (hgl := (aCons_len (aCons_len aNil_len))))))))) (os_cons (os_ret oe_bl)
    os_nil) os_nil)
    (os_cons (os_set c (oe_callTy c (bi_dict c) bb_dict T.z_dict (oa_cons (oe_listZip c (oa_cons (oe_var 2) (oa_cons (oe_bin (op_addD c) (OE.v (oe_sl c (oe_var 2) (oo_part oe_int) oo_no)) (OE.v (oe_sl c (oe_var 2) oo_no (oo_part oe_int)))) oa_nil)) T.z_list bb_list T.z_zip) oa_nil)))
    (os_cons (os_set c (oe_callTy c (bi_dict c) bb_dict T.z_dict (oa_cons (oe_listZip c (oa_cons (oe_bin (op_addD c) (OE.v (oe_sl c (oe_var 2) (oo_part oe_int) oo_no)) (OE.v (oe_sl c (oe_var 2) oo_no (oo_part oe_int)))) (oa_cons (oe_var 2) oa_nil)) T.z_list bb_list T.z_zip) oa_nil)))
    (os_cons (os_if (ot_cmp (op_neQ c) (OE.v (oe_callB c (bi_reprQ c T.sm) bb_repr T.z_repr (oa_cons (oe_call c h.f_led_anew hr T.m_led_anew T.F_led_anew.kp T.b_led_anew (oa_cons (oe_call c h.f_led_anew hr T.m_led_anew T.F_led_anew.kp T.b_led_anew (oa_cons (oe_var 4) (oa_cons (oe_var 7) oa_nil)) (hgl := (aCons_len (aCons_len aNil_len)))) (oa_cons (oe_var 8) oa_nil)) (hgl := (aCons_len (aCons_len aNil_len)))) oa_nil))) (OE.v (oe_callB c (bi_reprQ c T.sm) bb_repr T.z_repr (oa_cons (oe_var 4) oa_nil)))) (os_cons (os_ret oe_bl)
    os_nil) os_nil)
    os_nil))))))))
    (os_cons (os_ret oe_bl)
    os_nil))))
theorem sc_law : FnScope N_law ["_law_script"] (defScope s_law) := ⟨rfl, rfl, rfl, by decide +kernel, rfl, by decide +kernel, by decide +kernel⟩
theorem ok_law (T : Txt g fi ci) (h : Fns g fi Φ k) : FG g (k + 2) (fi 13).a (fi 13).d ["_law_script"] (spD g 1 (prog Φ i_law)) := by
  show FG g (k + 1 + 1) _ _ _ (spD g 1 (runB N_law.length (b_law Φ)))
  refine fg_of T.F_law sc_law rfl (by decide) fun cdv A fr s H E c hr1 => ?_
  have hr := hr1.mono (Nat.le_succ k)
  exact (os_cons (os_for c (oi_range1 c (oa_cons (oe_callB c (bi_min c) bb_min T.z_min (oa_cons oe_int (oa_cons (oe_callB c (bi_len c) bb_len T.z_len (oa_cons (oe_var 0) oa_nil)) oa_nil))) oa_nil) T.z_range) (og_nm c.nd) (os_cons (os_if (ot_not (ot_val c (oe_call c h.f__law_turn hr T.m__law_turn T.F__law_turn.kp T.b__law_turn (oa_cons (oe_call c h.f__law_feed hr T.m__law_feed T.F__law_feed.kp T.b__law_feed (oa_cons (oe_var 0) (oa_cons (oe_var 1) oa_nil)) (hgl := (aCons_len (aCons_len aNil_len)))) oa_nil) (hgl := (aCons_len aNil_len))))) (os_cons (os_ret oe_bl)
    os_nil) os_nil)
    os_nil))
    (os_cons (os_ret (oe_call c h.f__law_turn hr T.m__law_turn T.F__law_turn.kp T.b__law_turn (oa_cons (oe_lst (oa_cons oe_int (oa_cons oe_int (oa_cons oe_int oa_nil)))) oa_nil) (hgl := (aCons_len aNil_len))))
    os_nil))
theorem fns (T : Txt g fi ci) : ∀ n, Fns g fi (Phi prog n) (2 * n)
  | 0 => ⟨fg_none, fg_none, fg_none, fg_none, fg_none, fg_none, fg_none, fg_none, fg_none, fg_none, fg_none, fg_none, fg_none, fg_none⟩
  | n + 1 => ⟨ok_is_name T (fns T n), ok_is_lead T (fns T n), ok_leads_in T (fns T n), ok_led_anew T (fns T n), ok__law_feed T (fns T n), ok__law_take T (fns T n), ok__law_thing T (fns T n), ok__law_boxnames T (fns T n), ok__law_leading T (fns T n), ok__law_leads T (fns T n), ok__law_led T (fns T n), ok__law_right T (fns T n), ok__law_turn T (fns T n), ok_law T (fns T n)⟩
end Mi

namespace Mi
open PySem PySem.Spec PyProof.Rows L2

theorem all_mk (w : World) {K : PySem.W.Frag} {h : Heap} {mg : Str → Option Value} (X : K.In h) (G : h.Ns mainGlobals mg)
    {f0 : Addr} {od0 an0 : Option Addr} {sl0 : Array (Option Value)} {oc0 kV0 dc0 pm0 cd0 ct0 : Value}
    {f1 : Addr} {od1 an1 : Option Addr} {sl1 : Array (Option Value)} {oc1 kV1 dc1 pm1 cd1 ct1 : Value}
    {f2 : Addr} {od2 an2 : Option Addr} {sl2 : Array (Option Value)} {oc2 kV2 dc2 pm2 cd2 ct2 : Value}
    {f3 : Addr} {od3 an3 : Option Addr} {sl3 : Array (Option Value)} {oc3 kV3 dc3 pm3 cd3 ct3 : Value}
    {f4 : Addr} {od4 an4 : Option Addr} {sl4 : Array (Option Value)} {oc4 kV4 dc4 pm4 cd4 ct4 : Value}
    {f5 : Addr} {od5 an5 : Option Addr} {sl5 : Array (Option Value)} {oc5 kV5 dc5 pm5 cd5 ct5 : Value}
    {f6 : Addr} {od6 an6 : Option Addr} {sl6 : Array (Option Value)} {oc6 kV6 dc6 pm6 cd6 ct6 : Value}
    {f7 : Addr} {od7 an7 : Option Addr} {sl7 : Array (Option Value)} {oc7 kV7 dc7 pm7 cd7 ct7 : Value}
    {f8 : Addr} {od8 an8 : Option Addr} {sl8 : Array (Option Value)} {oc8 kV8 dc8 pm8 cd8 ct8 : Value}
    {f9 : Addr} {od9 an9 : Option Addr} {sl9 : Array (Option Value)} {oc9 kV9 dc9 pm9 cd9 ct9 : Value}
    {f10 : Addr} {od10 an10 : Option Addr} {sl10 : Array (Option Value)} {oc10 kV10 dc10 pm10 cd10 ct10 : Value}
    {f11 : Addr} {od11 an11 : Option Addr} {sl11 : Array (Option Value)} {oc11 kV11 dc11 pm11 cd11 ct11 : Value}
    {f12 : Addr} {od12 an12 : Option Addr} {sl12 : Array (Option Value)} {oc12 kV12 dc12 pm12 cd12 ct12 : Value}
    {f13 : Addr} {od13 an13 : Option Addr} {sl13 : Array (Option Value)} {oc13 kV13 dc13 pm13 cd13 ct13 : Value}
    (a__law_boxnames : PySem.W.nsIn K mainGlobals "_law_boxnames" = some (some (.ref f7)))
    (a__law_feed : PySem.W.nsIn K mainGlobals "_law_feed" = some (some (.ref f4)))
    (a__law_leading : PySem.W.nsIn K mainGlobals "_law_leading" = some (some (.ref f8)))
    (a__law_leads : PySem.W.nsIn K mainGlobals "_law_leads" = some (some (.ref f9)))
    (a__law_led : PySem.W.nsIn K mainGlobals "_law_led" = some (some (.ref f10)))
    (a__law_right : PySem.W.nsIn K mainGlobals "_law_right" = some (some (.ref f11)))
    (a__law_take : PySem.W.nsIn K mainGlobals "_law_take" = some (some (.ref f5)))
    (a__law_thing : PySem.W.nsIn K mainGlobals "_law_thing" = some (some (.ref f6)))
    (a__law_turn : PySem.W.nsIn K mainGlobals "_law_turn" = some (some (.ref f12)))
    (a_is_lead : PySem.W.nsIn K mainGlobals "is_lead" = some (some (.ref f1)))
    (a_is_name : PySem.W.nsIn K mainGlobals "is_name" = some (some (.ref f0)))
    (a_law : PySem.W.nsIn K mainGlobals "law" = some (some (.ref f13)))
    (a_leads_in : PySem.W.nsIn K mainGlobals "leads_in" = some (some (.ref f2)))
    (a_led_anew : PySem.W.nsIn K mainGlobals "led_anew" = some (some (.ref f3)))
    (l0 : K.lookup f0 = some ⟨oc0, od0, .func (PySem.W.fnOf "is_name" "is_name" (defArgs s_is_name) (defBody s_is_name) (defScope s_is_name) .none kV0 dc0 pm0 an0 cd0 ct0), sl0⟩)
    (c0 : PySem.W.codeIn K cd0 "is_name" = true)
    (k0 : PySem.W.keepIn K (.ref f0) = true)
    (l1 : K.lookup f1 = some ⟨oc1, od1, .func (PySem.W.fnOf "is_lead" "is_lead" (defArgs s_is_lead) (defBody s_is_lead) (defScope s_is_lead) .none kV1 dc1 pm1 an1 cd1 ct1), sl1⟩)
    (c1 : PySem.W.codeIn K cd1 "is_lead" = true)
    (k1 : PySem.W.keepIn K (.ref f1) = true)
    (l2 : K.lookup f2 = some ⟨oc2, od2, .func (PySem.W.fnOf "leads_in" "leads_in" (defArgs s_leads_in) (defBody s_leads_in) (defScope s_leads_in) .none kV2 dc2 pm2 an2 cd2 ct2), sl2⟩)
    (c2 : PySem.W.codeIn K cd2 "leads_in" = true)
    (k2 : PySem.W.keepIn K (.ref f2) = true)
    (l3 : K.lookup f3 = some ⟨oc3, od3, .func (PySem.W.fnOf "led_anew" "led_anew" (defArgs s_led_anew) (defBody s_led_anew) (defScope s_led_anew) .none kV3 dc3 pm3 an3 cd3 ct3), sl3⟩)
    (c3 : PySem.W.codeIn K cd3 "led_anew" = true)
    (k3 : PySem.W.keepIn K (.ref f3) = true)
    (l4 : K.lookup f4 = some ⟨oc4, od4, .func (PySem.W.fnOf "_law_feed" "_law_feed" (defArgs s__law_feed) (defBody s__law_feed) (defScope s__law_feed) .none kV4 dc4 pm4 an4 cd4 ct4), sl4⟩)
    (c4 : PySem.W.codeIn K cd4 "_law_feed" = true)
    (k4 : PySem.W.keepIn K (.ref f4) = true)
    (l5 : K.lookup f5 = some ⟨oc5, od5, .func (PySem.W.fnOf "_law_take" "_law_take" (defArgs s__law_take) (defBody s__law_take) (defScope s__law_take) .none kV5 dc5 pm5 an5 cd5 ct5), sl5⟩)
    (c5 : PySem.W.codeIn K cd5 "_law_take" = true)
    (k5 : PySem.W.keepIn K (.ref f5) = true)
    (l6 : K.lookup f6 = some ⟨oc6, od6, .func (PySem.W.fnOf "_law_thing" "_law_thing" (defArgs s__law_thing) (defBody s__law_thing) (defScope s__law_thing) .none kV6 dc6 pm6 an6 cd6 ct6), sl6⟩)
    (c6 : PySem.W.codeIn K cd6 "_law_thing" = true)
    (k6 : PySem.W.keepIn K (.ref f6) = true)
    (l7 : K.lookup f7 = some ⟨oc7, od7, .func (PySem.W.fnOf "_law_boxnames" "_law_boxnames" (defArgs s__law_boxnames) (defBody s__law_boxnames) (defScope s__law_boxnames) .none kV7 dc7 pm7 an7 cd7 ct7), sl7⟩)
    (c7 : PySem.W.codeIn K cd7 "_law_boxnames" = true)
    (k7 : PySem.W.keepIn K (.ref f7) = true)
    (l8 : K.lookup f8 = some ⟨oc8, od8, .func (PySem.W.fnOf "_law_leading" "_law_leading" (defArgs s__law_leading) (defBody s__law_leading) (defScope s__law_leading) .none kV8 dc8 pm8 an8 cd8 ct8), sl8⟩)
    (c8 : PySem.W.codeIn K cd8 "_law_leading" = true)
    (k8 : PySem.W.keepIn K (.ref f8) = true)
    (l9 : K.lookup f9 = some ⟨oc9, od9, .func (PySem.W.fnOf "_law_leads" "_law_leads" (defArgs s__law_leads) (defBody s__law_leads) (defScope s__law_leads) .none kV9 dc9 pm9 an9 cd9 ct9), sl9⟩)
    (c9 : PySem.W.codeIn K cd9 "_law_leads" = true)
    (k9 : PySem.W.keepIn K (.ref f9) = true)
    (l10 : K.lookup f10 = some ⟨oc10, od10, .func (PySem.W.fnOf "_law_led" "_law_led" (defArgs s__law_led) (defBody s__law_led) (defScope s__law_led) .none kV10 dc10 pm10 an10 cd10 ct10), sl10⟩)
    (c10 : PySem.W.codeIn K cd10 "_law_led" = true)
    (k10 : PySem.W.keepIn K (.ref f10) = true)
    (l11 : K.lookup f11 = some ⟨oc11, od11, .func (PySem.W.fnOf "_law_right" "_law_right" (defArgs s__law_right) (defBody s__law_right) (defScope s__law_right) .none kV11 dc11 pm11 an11 cd11 ct11), sl11⟩)
    (c11 : PySem.W.codeIn K cd11 "_law_right" = true)
    (k11 : PySem.W.keepIn K (.ref f11) = true)
    (l12 : K.lookup f12 = some ⟨oc12, od12, .func (PySem.W.fnOf "_law_turn" "_law_turn" (defArgs s__law_turn) (defBody s__law_turn) (defScope s__law_turn) .none kV12 dc12 pm12 an12 cd12 ct12), sl12⟩)
    (c12 : PySem.W.codeIn K cd12 "_law_turn" = true)
    (k12 : PySem.W.keepIn K (.ref f12) = true)
    (l13 : K.lookup f13 = some ⟨oc13, od13, .func (PySem.W.fnOf "law" "law" (defArgs s_law) (defBody s_law) (defScope s_law) .none kV13 dc13 pm13 an13 cd13 ct13), sl13⟩)
    (c13 : PySem.W.codeIn K cd13 "law" = true)
    (k13 : PySem.W.keepIn K (.ref f13) = true)
    (z_abs : PySem.W.nsIn K mainGlobals "abs" = some none)
    (z_all : PySem.W.nsIn K mainGlobals "all" = some none)
    (z_dict : PySem.W.nsIn K mainGlobals "dict" = some none)
    (z_isinstance : PySem.W.nsIn K mainGlobals "isinstance" = some none)
    (z_len : PySem.W.nsIn K mainGlobals "len" = some none)
    (z_list : PySem.W.nsIn K mainGlobals "list" = some none)
    (z_min : PySem.W.nsIn K mainGlobals "min" = some none)
    (z_range : PySem.W.nsIn K mainGlobals "range" = some none)
    (z_repr : PySem.W.nsIn K mainGlobals "repr" = some none)
    (z_str : PySem.W.nsIn K mainGlobals "str" = some none)
    (z_tuple : PySem.W.nsIn K mainGlobals "tuple" = some none)
    (z_zip : PySem.W.nsIn K mainGlobals "zip" = some none)
    {tk1 : Tok}
    {tk2 : Tok}
    {tk3 : Tok}
    (y_LETTERS : PySem.W.nsIn K mainGlobals "LETTERS" = some (some (.str "abcdefghijklmnopqrstuvwxyz" tk1)))
    (y_LONGEST : PySem.W.nsIn K mainGlobals "LONGEST" = some (some (.int (8) tk2)))
    (y_TO : PySem.W.nsIn K mainGlobals "TO" = some (some (.str "to" tk3)))
    : ∃ (fi : Nat → FI) (ci : Nat → Addr), mg "law" = some (.ref (fi 13).a) ∧ ∀ (P : Program) (base : Heap), (∃ o, base.get? sysModules = some o) → Txt ⟨P, w, K, mg, base, faF fi, caF ci⟩ fi ci := by
  have F0 := fun_mk (st := s_is_name) l0 c0 k0
  have b0 := F0.binds (ps := ["given"]) fun _ _ _ _ _ _ us hl => match us, hl with | [_], _ => rfl
  have F1 := fun_mk (st := s_is_lead) l1 c1 k1
  have b1 := F1.binds (ps := ["thing"]) fun _ _ _ _ _ _ us hl => match us, hl with | [_], _ => rfl
  have F2 := fun_mk (st := s_leads_in) l2 c2 k2
  have b2 := F2.binds (ps := ["thing"]) fun _ _ _ _ _ _ us hl => match us, hl with | [_], _ => rfl
  have F3 := fun_mk (st := s_led_anew) l3 c3 k3
  have b3 := F3.binds (ps := ["thing", "names"]) fun _ _ _ _ _ _ us hl => match us, hl with | [_, _], _ => rfl
  have F4 := fun_mk (st := s__law_feed) l4 c4 k4
  have b4 := F4.binds (ps := ["_law_script", "_law_k"]) fun _ _ _ _ _ _ us hl => match us, hl with | [_, _], _ => rfl
  have F5 := fun_mk (st := s__law_take) l5 c5 k5
  have b5 := F5.binds (ps := ["_law_feed_here", "_law_many"]) fun _ _ _ _ _ _ us hl => match us, hl with | [_, _], _ => rfl
  have F6 := fun_mk (st := s__law_thing) l6 c6 k6
  have b6 := F6.binds (ps := ["_law_feed_here", "_law_deep"]) fun _ _ _ _ _ _ us hl => match us, hl with | [_, _], _ => rfl
  have F7 := fun_mk (st := s__law_boxnames) l7 c7 k7
  have b7 := F7.binds (ps := ["_law_feed_here"]) fun _ _ _ _ _ _ us hl => match us, hl with | [_], _ => rfl
  have F8 := fun_mk (st := s__law_leading) l8 c8 k8
  have b8 := F8.binds (ps := ["_law_feed_here", "_law_names", "_law_deep"]) fun _ _ _ _ _ _ us hl => match us, hl with | [_, _, _], _ => rfl
  have F9 := fun_mk (st := s__law_leads) l9 c9 k9
  have b9 := F9.binds (ps := ["_law_thing_here"]) fun _ _ _ _ _ _ us hl => match us, hl with | [_], _ => rfl
  have F10 := fun_mk (st := s__law_led) l10 c10 k10
  have b10 := F10.binds (ps := ["_law_thing_here", "_law_names"]) fun _ _ _ _ _ _ us hl => match us, hl with | [_, _], _ => rfl
  have F11 := fun_mk (st := s__law_right) l11 c11 k11
  have b11 := F11.binds (ps := ["_law_thing_here", "_law_names"]) fun _ _ _ _ _ _ us hl => match us, hl with | [_, _], _ => rfl
  have F12 := fun_mk (st := s__law_turn) l12 c12 k12
  have b12 := F12.binds (ps := ["_law_feed_here"]) fun _ _ _ _ _ _ us hl => match us, hl with | [_], _ => rfl
  have F13 := fun_mk (st := s_law) l13 c13 k13
  have b13 := F13.binds (ps := ["_law_script"]) fun _ _ _ _ _ _ us hl => match us, hl with | [_], _ => rfl
  let fi : Nat → FI := fun i => match i with
    | 0 => ⟨f0, PySem.W.fnOf "is_name" "is_name" (defArgs s_is_name) (defBody s_is_name) (defScope s_is_name) .none kV0 dc0 pm0 an0 cd0 ct0⟩
    | 1 => ⟨f1, PySem.W.fnOf "is_lead" "is_lead" (defArgs s_is_lead) (defBody s_is_lead) (defScope s_is_lead) .none kV1 dc1 pm1 an1 cd1 ct1⟩
    | 2 => ⟨f2, PySem.W.fnOf "leads_in" "leads_in" (defArgs s_leads_in) (defBody s_leads_in) (defScope s_leads_in) .none kV2 dc2 pm2 an2 cd2 ct2⟩
    | 3 => ⟨f3, PySem.W.fnOf "led_anew" "led_anew" (defArgs s_led_anew) (defBody s_led_anew) (defScope s_led_anew) .none kV3 dc3 pm3 an3 cd3 ct3⟩
    | 4 => ⟨f4, PySem.W.fnOf "_law_feed" "_law_feed" (defArgs s__law_feed) (defBody s__law_feed) (defScope s__law_feed) .none kV4 dc4 pm4 an4 cd4 ct4⟩
    | 5 => ⟨f5, PySem.W.fnOf "_law_take" "_law_take" (defArgs s__law_take) (defBody s__law_take) (defScope s__law_take) .none kV5 dc5 pm5 an5 cd5 ct5⟩
    | 6 => ⟨f6, PySem.W.fnOf "_law_thing" "_law_thing" (defArgs s__law_thing) (defBody s__law_thing) (defScope s__law_thing) .none kV6 dc6 pm6 an6 cd6 ct6⟩
    | 7 => ⟨f7, PySem.W.fnOf "_law_boxnames" "_law_boxnames" (defArgs s__law_boxnames) (defBody s__law_boxnames) (defScope s__law_boxnames) .none kV7 dc7 pm7 an7 cd7 ct7⟩
    | 8 => ⟨f8, PySem.W.fnOf "_law_leading" "_law_leading" (defArgs s__law_leading) (defBody s__law_leading) (defScope s__law_leading) .none kV8 dc8 pm8 an8 cd8 ct8⟩
    | 9 => ⟨f9, PySem.W.fnOf "_law_leads" "_law_leads" (defArgs s__law_leads) (defBody s__law_leads) (defScope s__law_leads) .none kV9 dc9 pm9 an9 cd9 ct9⟩
    | 10 => ⟨f10, PySem.W.fnOf "_law_led" "_law_led" (defArgs s__law_led) (defBody s__law_led) (defScope s__law_led) .none kV10 dc10 pm10 an10 cd10 ct10⟩
    | 11 => ⟨f11, PySem.W.fnOf "_law_right" "_law_right" (defArgs s__law_right) (defBody s__law_right) (defScope s__law_right) .none kV11 dc11 pm11 an11 cd11 ct11⟩
    | 12 => ⟨f12, PySem.W.fnOf "_law_turn" "_law_turn" (defArgs s__law_turn) (defBody s__law_turn) (defScope s__law_turn) .none kV12 dc12 pm12 an12 cd12 ct12⟩
    | 13 => ⟨f13, PySem.W.fnOf "law" "law" (defArgs s_law) (defBody s_law) (defScope s_law) .none kV13 dc13 pm13 an13 cd13 ct13⟩
    | _ => ⟨f0, PySem.W.fnOf "is_name" "is_name" (defArgs s_is_name) (defBody s_is_name) (defScope s_is_name) .none kV0 dc0 pm0 an0 cd0 ct0⟩
  let ci : Nat → Addr := fun c => match c with
    | _ => 0
  refine ⟨fi, ci, PySem.W.mg_of X G a_law, fun P base sm => ?_⟩
  have kv_LETTERS : KVd ⟨P, w, K, mg, base, faF fi, caF ci⟩ (.str "abcdefghijklmnopqrstuvwxyz" tk1) (.str "abcdefghijklmnopqrstuvwxyz") := kvd_str
  have kv_LONGEST : KVd ⟨P, w, K, mg, base, faF fi, caF ci⟩ (.int (8) tk2) (.int (8)) := kvd_int
  have kv_TO : KVd ⟨P, w, K, mg, base, faF fi, caF ci⟩ (.str "to" tk3) (.str "to") := kvd_str
  exact ⟨sm, fun _ => rfl, fun _ => rfl, F0, b0, F1, b1, F2, b2, F3, b3, F4, b4, F5, b5, F6, b6, F7, b7, F8, b8, F9, b9, F10, b10, F11, b11, F12, b12, F13, b13, PySem.W.mg_of X G a__law_boxnames, PySem.W.mg_of X G a__law_feed, PySem.W.mg_of X G a__law_leading, PySem.W.mg_of X G a__law_leads, PySem.W.mg_of X G a__law_led, PySem.W.mg_of X G a__law_right, PySem.W.mg_of X G a__law_take, PySem.W.mg_of X G a__law_thing, PySem.W.mg_of X G a__law_turn, PySem.W.mg_of X G a_is_lead, PySem.W.mg_of X G a_is_name, PySem.W.mg_of X G a_law, PySem.W.mg_of X G a_leads_in, PySem.W.mg_of X G a_led_anew, PySem.W.mg_none_of X G z_abs, PySem.W.mg_none_of X G z_all, PySem.W.mg_none_of X G z_dict, PySem.W.mg_none_of X G z_isinstance, PySem.W.mg_none_of X G z_len, PySem.W.mg_none_of X G z_list, PySem.W.mg_none_of X G z_min, PySem.W.mg_none_of X G z_range, PySem.W.mg_none_of X G z_repr, PySem.W.mg_none_of X G z_str, PySem.W.mg_none_of X G z_tuple, PySem.W.mg_none_of X G z_zip, ⟨_, PySem.W.mg_of X G y_LETTERS, kv_LETTERS⟩, ⟨_, PySem.W.mg_of X G y_LONGEST, kv_LONGEST⟩, ⟨_, PySem.W.mg_of X G y_TO, kv_TO⟩⟩
theorem walk {l : PySem.W.OpenLaw} {q : Program} {loose : List Str} {XP : (Str → Option Value) → Heap → Prop} {YP : World → Heap → Prop} {d : DefRec} {K : Params → PySem.W.Frag} (hn : l.most = some 63) (hq : importsNone q = true) (hdf : d.params.defaults = []) (hnm : d.name = "law")
    (yes : ∀ ns : List Int, ns.length ≤ 63 → ∃ st, Phi prog 100 i_law [.kl (ns.map .int)] [] = .ok (.bl true) st) (hY : ∀ (w : World) (h : Heap), YP w h → (K w.params).In h)
    (F : ∀ (w : World) (mg : Str → Option Value) (h : Heap), (K w.params).In h → h.Ns mainGlobals mg → ∃ (fi : Nat → FI) (ci : Nat → Addr), mg "law" = some (.ref (fi 13).a) ∧ ∀ (P : Program) (base : Heap), (∃ o, base.get? sysModules = some o) → Txt ⟨P, w, K w.params, mg, base, faF fi, caF ci⟩ fi ci) :
    PySem.W.WalkO q loose XP YP l.row.toRowW d [] (fun f vs => PySem.call f vs) := by
  refine Att.attach_call hn hdf fun w s₀ s₁ mg mb fa o pm cd doc a vs ns G Y ho hd hcd hmg hobj hints hlen hg => ?_
  have kx := hY w _ Y
  obtain ⟨fi, ci, m1, T⟩ := F w mg _ kx G.T.g
  rw [hnm, m1] at hmg
  cases hmg
  have hs : ∃ o es ep, s₁.heap.get? sysModules = some o ∧ o.data = .dict es ep := by
    obtain ⟨mm, ⟨o, es, ep, e, d, _⟩, _⟩ := (G.T.seer hq).mods
    exact ⟨o, es, ep, e, d⟩
  exact law_end (g := ⟨l.prog, w, K w.params, mg, s₁.heap, faF fi, caF ci⟩) (k := 2 * 100) kx G.T.g G.T.b G.T.builtins G.T.nolimit hs hg hobj hints (Nat.le_trans hlen (by decide)) ⟨rfl, by decide, by decide⟩
    (fun b _ _ hb => (fns (T l.prog b hb) 100).f_law) (T l.prog s₁.heap (let ⟨o, _, _, e, _⟩ := hs; ⟨o, e⟩)).b_law (yes ns hlen)
end Mi

open PySem PySem.W PyProof.Rows in
set_option maxRecDepth 100000 in
set_option maxHeartbeats 0 in
theorem PySem.Challenge.cw_oneprotocol_k73_leads_told_holds : PySem.Challenge.rw_oneprotocol_k73_leads_told.Holds := by
  w_on; o_law; k_head; (case hw => w_witness2)
  k_fill
  refine Mi.walk (l := PySem.Challenge.rw_oneprotocol_k73_leads_told) rfl rfl rfl rfl Mi.yes (fun w h Y => PySem.W.kIn_of Y) ?F
  case F =>
    intro w mg h KX G
    refine' Mi.all_mk w KX G ?a__law_boxnames ?a__law_feed ?a__law_leading ?a__law_leads ?a__law_led ?a__law_right ?a__law_take ?a__law_thing ?a__law_turn ?a_is_lead ?a_is_name ?a_law ?a_leads_in ?a_led_anew ?l0 ?c0 ?k0 ?l1 ?c1 ?k1 ?l2 ?c2 ?k2 ?l3 ?c3 ?k3 ?l4 ?c4 ?k4 ?l5 ?c5 ?k5 ?l6 ?c6 ?k6 ?l7 ?c7 ?k7 ?l8 ?c8 ?k8 ?l9 ?c9 ?k9 ?l10 ?c10 ?k10 ?l11 ?c11 ?k11 ?l12 ?c12 ?k12 ?l13 ?c13 ?k13 ?z_abs ?z_all ?z_dict ?z_isinstance ?z_len ?z_list ?z_min ?z_range ?z_repr ?z_str ?z_tuple ?z_zip ?y_LETTERS ?y_LONGEST ?y_TO
    (case a__law_boxnames => k_is)
    (case a__law_feed => k_is)
    (case a__law_leading => k_is)
    (case a__law_leads => k_is)
    (case a__law_led => k_is)
    (case a__law_right => k_is)
    (case a__law_take => k_is)
    (case a__law_thing => k_is)
    (case a__law_turn => k_is)
    (case a_is_lead => k_is)
    (case a_is_name => k_is)
    (case a_law => k_is)
    (case a_leads_in => k_is)
    (case a_led_anew => k_is)
    (case l0 => k_is)
    (case c0 => k_is)
    (case k0 => k_is)
    (case l1 => k_is)
    (case c1 => k_is)
    (case k1 => k_is)
    (case l2 => k_is)
    (case c2 => k_is)
    (case k2 => k_is)
    (case l3 => k_is)
    (case c3 => k_is)
    (case k3 => k_is)
    (case l4 => k_is)
    (case c4 => k_is)
    (case k4 => k_is)
    (case l5 => k_is)
    (case c5 => k_is)
    (case k5 => k_is)
    (case l6 => k_is)
    (case c6 => k_is)
    (case k6 => k_is)
    (case l7 => k_is)
    (case c7 => k_is)
    (case k7 => k_is)
    (case l8 => k_is)
    (case c8 => k_is)
    (case k8 => k_is)
    (case l9 => k_is)
    (case c9 => k_is)
    (case k9 => k_is)
    (case l10 => k_is)
    (case c10 => k_is)
    (case k10 => k_is)
    (case l11 => k_is)
    (case c11 => k_is)
    (case k11 => k_is)
    (case l12 => k_is)
    (case c12 => k_is)
    (case k12 => k_is)
    (case l13 => k_is)
    (case c13 => k_is)
    (case k13 => k_is)
    (case z_abs => k_is)
    (case z_all => k_is)
    (case z_dict => k_is)
    (case z_isinstance => k_is)
    (case z_len => k_is)
    (case z_list => k_is)
    (case z_min => k_is)
    (case z_range => k_is)
    (case z_repr => k_is)
    (case z_str => k_is)
    (case z_tuple => k_is)
    (case z_zip => k_is)
    (case y_LETTERS => k_is)
    (case y_LONGEST => k_is)
    (case y_TO => k_is)
