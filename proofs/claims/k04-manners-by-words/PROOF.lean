import PyProof.Rows.All
import Wide.All
import OpenK.AllK
import Wide.FinOn
import HandS.ForMost
import HandS.ForExc
import HandS.IsInst
import HandS.Flow
import HandS.Wide
import HandS.TupAny
import HandS.TupMul
import HandS.Zip
import HandS.RaiseMore
import HandS.Style
import KE.LtSeq
import HandS.Defaults
import HandS.MakeKwOnly
import HandS.Replace
import HandS.More
import PySem.Challenge.RW_oneprotocol_k04_manners_by_words
set_option Elab.async false
set_option linter.all false
set_option maxRecDepth 100000
set_option maxHeartbeats 4000000
/-! Mi: a small language of data and its meaning; what the model's run has to do with it. -/
namespace Mi
open PySem L2

/-- data: a tuple is a tree, what changes stands in a store -/
inductive D where
  | non | bl (b : Bool) | int (i : Int) | str (x : Str) | tup (ds : List D) | obj (n : Nat) | fn (n : Nat) | ty (n : String) | kl (ds : List D) | ev (ds : List D)
  deriving Inhabited
inductive Ob where
  | lst (ds : List D) | frz (ds : List D) | dic (kvs : List (Key × D)) | ins (c : Nat) (fs : List (Str × D))
abbrev Sto := List Ob
inductive R (β : Type) where
  | ok (b : β) (st : Sto)
  | exc (c : Nat) (fs : List (Str × D)) (st : Sto)
  | stuck
namespace R
def bind {β γ : Type} (r : R β) (k : β → Sto → R γ) : R γ := match r with
  | .ok b st => k b st
  | .exc c fs st => .exc c fs st
  | .stuck => .stuck
@[simp] theorem bind_ok {β γ : Type} (b : β) (st : Sto) (k : β → Sto → R γ) : (R.ok b st).bind k = k b st := rfl
@[simp] theorem bind_stuck {β γ : Type} (k : β → Sto → R γ) : (R.stuck : R β).bind k = .stuck := rfl
@[simp] theorem bind_exc {β γ : Type} (c fs st) (k : β → Sto → R γ) : (R.exc c fs st : R β).bind k = .exc c fs st := rfl
end R

/-- the ground: the program's written part, where its defs and classes stand -/
structure Gd where
  P : Program
  w : World
  K : PySem.W.Frag
  mg : Str → Option Value
  base : Heap
  fa : Nat → Option Addr
  ca : Nat → Option Addr

/-- a list that never changes: locked, or of the program's written part -/
def KL (K : PySem.W.Frag) (H : Hp) (a : Addr) (vs : List V) : Prop := (∃ o, H a = some (.frz o (.lst vs))) ∨ SqL K (fun _ => none) a vs
theorem KL.sq {K : PySem.W.Frag} {H : Hp} {a : Addr} {vs : List V} (h : KL K H a vs) : SqL K H a vs := by
  rcases h with ⟨o, h⟩ | h | h
  · exact .inl (.inr ⟨o, h⟩)
  · rcases h with h | ⟨o, h⟩ <;> cases h
  · exact .inr h
mutual
def RD (g : Gd) (α : List Addr) (H : Hp) : D → V → Prop
  | .non, v => v = .non
  | .bl b, v => v = .bl b
  | .int i, v => v = .int i
  | .str x, v => v = .str x
  | .tup ds, v => ∃ a vs, v = .ref a ∧ SqT g.K H a vs ∧ RDs g α H ds vs
  | .obj n, v => ∃ a, v = .ref a ∧ α[n]? = some a
  | .fn n, v => ∃ a, v = .ref a ∧ g.fa n = some a
  | .ty n, v => v = .ty n
  | .kl ds, v => ∃ a vs, v = .ref a ∧ KL g.K H a vs ∧ RDs g α H ds vs
  | .ev _, _ => False
def RDs (g : Gd) (α : List Addr) (H : Hp) : List D → List V → Prop
  | [], vs => vs = []
  | d :: ds, vs => ∃ v r, vs = v :: r ∧ RD g α H d v ∧ RDs g α H ds r
end

structure Ext (α : List Addr) (H : Hp) (α' : List Addr) (H' : Hp) : Prop where
  pre : ∃ β, α' = α ++ β
  keep : ∀ b o, H b = some o → b ∉ α → H' b = some o
  new : ∀ b, b ∈ α' → b ∉ α → H b = none
  tup : ∀ b xs, H b = some (.tup xs) → H' b = some (.tup xs)
  frz : ∀ b o u, H b = some (.frz o u) → H' b = some (.frz o u)
theorem Ext.refl (α : List Addr) (H : Hp) : Ext α H α H :=
  ⟨⟨[], by simp⟩, fun _ _ h _ => h, fun _ h n => absurd h n, fun _ _ h => h, fun _ _ _ h => h⟩
theorem Ext.trans {α α1 α2 : List Addr} {H H1 H2 : Hp} (e : Ext α H α1 H1) (f : Ext α1 H1 α2 H2) : Ext α H α2 H2 := by
  obtain ⟨β, rfl⟩ := e.pre
  obtain ⟨γ, rfl⟩ := f.pre
  refine ⟨⟨β ++ γ, by simp⟩, fun b o h n => ?_, fun b h n => ?_, fun b xs h => f.tup _ _ (e.tup _ _ h), fun b o u h => f.frz _ _ _ (e.frz _ _ _ h)⟩
  · refine f.keep _ _ (e.keep _ _ h n) fun hb => ?_
    have := e.new b hb n
    rw [h] at this
    cases this
  · by_cases hb : b ∈ α ++ β
    · exact e.new b hb n
    · have q := f.new b h hb
      cases z : H b with
      | none => rfl
      | some o =>
        have := e.keep b o z n
        rw [q] at this
        cases this
theorem Ext.rdt {α α' : List Addr} {H H' : Hp} (e : Ext α H α' H') {a : Addr} {xs : List V} (h : Rd H a (.tup xs)) : Rd H' a (.tup xs) := by
  rcases h with h | ⟨o, h⟩
  · exact .inl (e.tup _ _ h)
  · exact .inr ⟨o, e.frz _ _ _ h⟩
theorem Ext.sqt {K : PySem.W.Frag} {α α' : List Addr} {H H' : Hp} (e : Ext α H α' H') {a : Addr} {xs : List V} (h : SqT K H a xs) : SqT K H' a xs := by
  rcases h with h | h
  · exact .inl (e.rdt h)
  · exact .inr h
theorem Ext.at {α α' : List Addr} {H H' : Hp} (e : Ext α H α' H') {n : Nat} {a : Addr} (h : α[n]? = some a) : α'[n]? = some a := by
  obtain ⟨β, rfl⟩ := e.pre
  have := (List.getElem?_eq_some_iff.mp h).1
  rw [List.getElem?_append_left this]
  exact h

section
variable {g : Gd} {α α' : List Addr} {H H' : Hp}
mutual
theorem RD.mono (e : Ext α H α' H') : ∀ {d : D} {v : V}, RD g α H d v → RD g α' H' d v
  | .non, v, h => by simpa [RD] using h
  | .bl b, v, h => by simpa [RD] using h
  | .int i, v, h => by simpa [RD] using h
  | .str x, v, h => by simpa [RD] using h
  | .tup ds, v, h => by
    rw [RD] at h ⊢
    obtain ⟨a, vs, rfl, h1, h2⟩ := h
    exact ⟨a, vs, rfl, e.sqt h1, RDs.mono e h2⟩
  | .obj n, v, h => by
    rw [RD] at h ⊢
    obtain ⟨a, rfl, h1⟩ := h
    exact ⟨a, rfl, e.at h1⟩
  | .fn n, v, h => by simpa [RD] using h
  | .ty n, v, h => by simpa [RD] using h
  | .kl ds, v, h => by
    rw [RD] at h ⊢
    obtain ⟨a, vs, rfl, h1, h2⟩ := h
    exact ⟨a, vs, rfl, h1.elim (fun ⟨o, q⟩ => .inl ⟨o, e.frz _ _ _ q⟩) .inr, RDs.mono e h2⟩
  | .ev ds, v, h => by rw [RD] at h; exact h.elim
theorem RDs.mono (e : Ext α H α' H') : ∀ {ds : List D} {vs : List V}, RDs g α H ds vs → RDs g α' H' ds vs
  | [], vs, h => by simpa [RDs] using h
  | d :: ds, vs, h => by
    rw [RDs] at h ⊢
    obtain ⟨v, r, rfl, h1, h2⟩ := h
    exact ⟨v, r, rfl, RD.mono e h1, RDs.mono e h2⟩
end
theorem RDs.length : ∀ {ds : List D} {vs : List V}, RDs g α H ds vs → ds.length = vs.length
  | [], vs, h => by rw [RDs] at h; subst h; rfl
  | d :: ds, vs, h => by
    rw [RDs] at h
    obtain ⟨v, r, rfl, _, h2⟩ := h
    simp [RDs.length h2]
theorem RDs.get : ∀ {ds : List D} {vs : List V} {i : Nat} {d : D}, RDs g α H ds vs → ds[i]? = some d → ∃ v, vs[i]? = some v ∧ RD g α H d v
  | [], vs, i, d, h, e => by simp at e
  | x :: ds, vs, i, d, h, e => by
    rw [RDs] at h
    obtain ⟨v, r, rfl, h1, h2⟩ := h
    cases i with
    | zero => simp at e; subst e; exact ⟨v, rfl, h1⟩
    | succ i => simpa using RDs.get h2 (by simpa using e)
theorem RDs.get' : ∀ {ds : List D} {vs : List V} {i : Nat} {v : V}, RDs g α H ds vs → vs[i]? = some v → ∃ d, ds[i]? = some d ∧ RD g α H d v
  | [], vs, i, d, h, e => by rw [RDs] at h; subst h; simp at e
  | x :: ds, vs, i, d, h, e => by
    rw [RDs] at h
    obtain ⟨v, r, rfl, h1, h2⟩ := h
    cases i with
    | zero => simp at e; subst e; exact ⟨x, rfl, h1⟩
    | succ i => simpa using RDs.get' h2 (by simpa using e)
theorem RDs.append : ∀ {ds es : List D} {vs ws : List V}, RDs g α H ds vs → RDs g α H es ws → RDs g α H (ds ++ es) (vs ++ ws)
  | [], es, vs, ws, h, k => by rw [RDs] at h; subst h; exact k
  | d :: ds, es, vs, ws, h, k => by
    rw [RDs] at h
    obtain ⟨v, r, rfl, h1, h2⟩ := h
    exact ⟨v, r ++ ws, rfl, h1, RDs.append h2 k⟩
theorem RDs.nil : RDs g α H [] [] := rfl
theorem RDs.cons {d : D} {v : V} {ds : List D} {vs : List V} (h : RD g α H d v) (k : RDs g α H ds vs) : RDs g α H (d :: ds) (v :: vs) := ⟨v, vs, rfl, h, k⟩
theorem RDs.take : ∀ {ds : List D} {vs : List V} (n : Nat), RDs g α H ds vs → RDs g α H (ds.take n) (vs.take n)
  | [], vs, n, h => by rw [RDs] at h; subst h; simp [RDs]
  | d :: ds, vs, n, h => by
    rw [RDs] at h
    obtain ⟨v, r, rfl, h1, h2⟩ := h
    cases n with
    | zero => simp [RDs]
    | succ n => simpa using RDs.cons h1 (RDs.take n h2)
theorem RDs.drop : ∀ {ds : List D} {vs : List V} (n : Nat), RDs g α H ds vs → RDs g α H (ds.drop n) (vs.drop n)
  | [], vs, n, h => by rw [RDs] at h; subst h; simp [RDs]
  | d :: ds, vs, n, h => by
    rw [RDs] at h
    obtain ⟨v, r, rfl, h1, h2⟩ := h
    cases n with
    | zero => exact RDs.cons h1 h2
    | succ n => simpa using RDs.drop n h2
theorem RDs.set : ∀ {ds : List D} {vs : List V} (n : Nat) {d : D} {v : V}, RDs g α H ds vs → RD g α H d v → RDs g α H (ds.set n d) (vs.set n v)
  | [], vs, n, d, v, h, k => by rw [RDs] at h; subst h; simp [RDs]
  | x :: ds, vs, n, d, v, h, k => by
    rw [RDs] at h
    obtain ⟨y, r, rfl, h1, h2⟩ := h
    cases n with
    | zero => exact RDs.cons k h2
    | succ n => simpa using RDs.cons h1 (RDs.set n h2 k)
end

/-- fields, pairs by one name -/
def RFs (g : Gd) (α : List Addr) (H : Hp) : List (Str × D) → List (Str × V) → Prop
  | [], fs => fs = []
  | p :: ps, fs => ∃ v r, fs = (p.1, v) :: r ∧ RD g α H p.2 v ∧ RFs g α H ps r
def RKs (g : Gd) (α : List Addr) (H : Hp) : List (Key × D) → List (Key × V) → Prop
  | [], fs => fs = []
  | p :: ps, fs => ∃ v r, fs = (p.1, v) :: r ∧ RD g α H p.2 v ∧ RKs g α H ps r
theorem RFs.mono {g : Gd} {α α' : List Addr} {H H' : Hp} (e : Ext α H α' H') : ∀ {ds : List (Str × D)} {vs : List (Str × V)}, RFs g α H ds vs → RFs g α' H' ds vs
  | [], vs, h => by simpa [RFs] using h
  | d :: ds, vs, h => by
    rw [RFs] at h ⊢
    obtain ⟨v, r, rfl, h1, h2⟩ := h
    exact ⟨v, r, rfl, RD.mono e h1, RFs.mono e h2⟩
theorem RKs.mono {g : Gd} {α α' : List Addr} {H H' : Hp} (e : Ext α H α' H') : ∀ {ds : List (Key × D)} {vs : List (Key × V)}, RKs g α H ds vs → RKs g α' H' ds vs
  | [], vs, h => by simpa [RKs] using h
  | d :: ds, vs, h => by
    rw [RKs] at h ⊢
    obtain ⟨v, r, rfl, h1, h2⟩ := h
    exact ⟨v, r, rfl, RD.mono e h1, RKs.mono e h2⟩

/-- an object of the store, as it stands in the heap -/
def OR (g : Gd) (α : List Addr) (H : Hp) (a : Addr) : Ob → Prop
  | .lst ds => ∃ vs, H a = some (.lst vs) ∧ RDs g α H ds vs
  | .frz ds => ∃ o vs, H a = some (.frz o (.lst vs)) ∧ RDs g α H ds vs
  | .dic kvs => ∃ vs, H a = some (.dK vs) ∧ RKs g α H kvs vs
  | .ins c fs => ∃ C dx vs, g.ca c = some C ∧ H a = some (.ins C dx vs) ∧ RFs g α H fs vs
structure StR (g : Gd) (α : List Addr) (st : Sto) (H : Hp) : Prop where
  len : α.length = st.length
  nd : α.Nodup
  ob : ∀ (n : Nat) (a : Addr) (o : Ob), α[n]? = some a → st[n]? = some o → OR g α H a o
/-- the names' values -/
abbrev Env := List (Option D)
structure EnvR (g : Gd) (α : List Addr) (H : Hp) (env : Env) (σ : L2.St) : Prop where
  len : env.length = σ.length
  val : ∀ (i : Nat) (d : D), env[i]? = some (some d) → ∃ v, σ[i]? = some (some v) ∧ RD g α H d v
theorem EnvR.mono {g : Gd} {α α' : List Addr} {H H' : Hp} {env : Env} {σ : L2.St} (e : Ext α H α' H') (h : EnvR g α H env σ) : EnvR g α' H' env σ :=
  ⟨h.len, fun i d q => let ⟨v, h1, h2⟩ := h.val i d q; ⟨v, h1, RD.mono e h2⟩⟩
theorem EnvR.set {g : Gd} {α : List Addr} {H : Hp} {env : Env} {σ : L2.St} (h : EnvR g α H env σ) (i : Nat) {d : D} {v : V} (r : RD g α H d v) : EnvR g α H (env.set i (some d)) (σ.set i (some v)) := by
  refine ⟨by simp [h.len], fun j x q => ?_⟩
  by_cases hj : i = j
  · subst hj
    have hl : i < env.length := by
      have := (List.getElem?_eq_some_iff.mp q).1
      simpa using this
    rw [List.getElem?_set_self hl] at q
    cases q
    exact ⟨v, List.getElem?_set_self (by rw [← h.len]; exact hl), r⟩
  · rw [List.getElem?_set_ne hj] at q
    obtain ⟨u, h1, h2⟩ := h.val j x q
    exact ⟨u, by rw [List.getElem?_set_ne hj]; exact h1, h2⟩

/-- an exception in the air -/
def XR (g : Gd) (α : List Addr) (H : Hp) (c : Nat) (fs : List (Str × D)) (cls : Value) (dx : Option Addr) : Prop :=
  ∃ C, g.ca c = some C ∧ cls = .ref C ∧ ((fs = [] ∧ dx = none) ∨ ∃ d vs, dx = some d ∧ H d = some (.xd vs) ∧ RFs g α H fs vs)

/-- what a result wants -/
def Post {β : Type} (g : Gd) (W : WX) (σ : L2.St) (α : List Addr) (H : Hp) (r : R β) (Q : β → Sto → List Addr → Hp → Prop) : Prop := match r with
  | .ok b st => ∀ α' H', Ext α H α' H' → StR g α' st H' → Q b st α' H'
  | .exc c fs st => ∀ α' H' cls dx, Ext α H α' H' → StR g α' st H' → XR g α' H' c fs cls dx → W cls dx σ H'
  | .stuck => False
section
variable {g : Gd} {W : WX} {σ : L2.St} {α α' : List Addr} {H H' : Hp}
theorem Post.imp {β : Type} {r : R β} {Q Q' : β → Sto → List Addr → Hp → Prop} (h : Post g W σ α H r Q) (k : ∀ b st α' H', Ext α H α' H' → StR g α' st H' → Q b st α' H' → Q' b st α' H') : Post g W σ α H r Q' := by
  cases r with
  | ok b st => exact fun α' H' e s => k b st α' H' e s (h α' H' e s)
  | exc c fs st => exact h
  | stuck => exact h
theorem Post.mono {β : Type} {r : R β} {Q : β → Sto → List Addr → Hp → Prop} (e : Ext α H α' H') (h : Post g W σ α H r Q) : Post g W σ α' H' r Q := by
  cases r with
  | ok b st => exact fun α2 H2 f s => h α2 H2 (e.trans f) s
  | exc c fs st => exact fun α2 H2 cls dx f s x => h α2 H2 cls dx (e.trans f) s x
  | stuck => exact h
theorem Post.bind {β γ : Type} {r : R β} {k : β → Sto → R γ} {Q : γ → Sto → List Addr → Hp → Prop} (h : Post g W σ α H (r.bind k) Q) :
    Post g W σ α H r (fun b st α' H' => Post g W σ α' H' (k b st) Q) := by
  cases r with
  | ok b st => exact fun α' H' e s => Post.mono e h
  | exc c fs st => exact h
  | stuck => exact h
theorem Post.ok {β : Type} {b : β} {st : Sto} {Q : β → Sto → List Addr → Hp → Prop} (h : Post g W σ α H (.ok b st) Q) (s : StR g α st H) : Q b st α H := h α H (Ext.refl α H) s
end

abbrev DE := Env → Sto → R D
abbrev DT := Env → Sto → R Bool
abbrev DA := Env → Sto → R (List D)
def tE (g : Gd) (W : WX) (F : DE) : TE := fun σ H Q => ∃ α env st, EnvR g α H env σ ∧ StR g α st H ∧ Post g W σ α H (F env st) fun d _ α' H' => ∀ v, RD g α' H' d v → Q v H'
def tT (g : Gd) (W : WX) (F : DT) : TT := fun σ H Q => ∃ α env st, EnvR g α H env σ ∧ StR g α st H ∧ Post g W σ α H (F env st) fun b _ _ H' => Q b H'
def tA (g : Gd) (W : WX) (F : DA) : TA := fun σ H Q => ∃ α env st, EnvR g α H env σ ∧ StR g α st H ∧ Post g W σ α H (F env st) fun ds _ α' H' => ∀ vs, RDs g α' H' ds vs → Q vs H'
/-- an expression, a test, an argument list mean F -/
def OE (g : Gd) (X : Cx) (W : WX) (e : Expr) (F : DE) : Prop := PE X e (tE g W F)
def OT (g : Gd) (X : Cx) (W : WX) (e : Expr) (F : DT) : Prop := PT X e (tT g W F)
def OA (g : Gd) (X : Cx) (W : WX) (es : List Expr) (F : DA) : Prop := PA X es (tA g W F)
theorem ofE {X : Cx} {e : Expr} {t t' : TE} (h : PE X e t) (w : ∀ σ H Q, t' σ H Q → t σ H Q) : PE X e t' := ⟨fun pins s σ H Q I q => h.run pins s σ H Q I (w σ H Q q)⟩
theorem ofT {X : Cx} {e : Expr} {t t' : TT} (h : PT X e t) (w : ∀ σ H Q, t' σ H Q → t σ H Q) : PT X e t' := ⟨fun pins s σ H Q I q => h.run pins s σ H Q I (w σ H Q q)⟩
theorem ofW {X : Cx} {e : Expr} {t t' : TT} (h : PW X e t) (w : ∀ σ H Q, t' σ H Q → t σ H Q) : PW X e t' := ⟨fun o pins s σ H Q I q => h.run o pins s σ H Q I (w σ H Q q)⟩
theorem ofA {X : Cx} {es : List Expr} {t t' : TA} (h : PA X es t) (w : ∀ σ H Q, t' σ H Q → t σ H Q) : PA X es t' := ⟨fun p pins s σ H Q I q => h.run p pins s σ H Q I (w σ H Q q)⟩
theorem ofSs {X : Cx} {e : List Stmt} {t t' : TS} (h : PSs X e t) (w : ∀ D σ H, t' D σ H → t D σ H) : PSs X e t' := ⟨fun pins s σ H D I q => h.run pins s σ H D I (w D σ H q)⟩
theorem ofS {X : Cx} {e : Stmt} {t t' : TS} (h : PS X e t) (w : ∀ D σ H, t' D σ H → t D σ H) : PS X e t' := ⟨fun pins s σ H D I q => h.run pins s σ H D I (w D σ H q)⟩
end Mi

namespace Mi
open PySem L2

/-! ### the store's steps -/
section
variable {g : Gd} {α α' : List Addr} {H H' : Hp} {st : Sto}
theorem OR.some {a : Addr} {o : Ob} (h : OR g α H a o) : ∃ u, H a = some u := by
  cases o with
  | lst ds => obtain ⟨vs, h, _⟩ := h; exact ⟨_, h⟩
  | frz ds => obtain ⟨_, vs, h, _⟩ := h; exact ⟨_, h⟩
  | dic ds => obtain ⟨vs, h, _⟩ := h; exact ⟨_, h⟩
  | ins c fs => obtain ⟨_, _, vs, _, h, _⟩ := h; exact ⟨_, h⟩
theorem StR.mem (s : StR g α st H) {a : Addr} (h : a ∈ α) : ∃ u, H a = some u := by
  obtain ⟨n, hn, e⟩ := List.getElem_of_mem h
  have h1 : α[n]? = some a := by rw [List.getElem?_eq_getElem hn, e]
  have h2 : n < st.length := by rw [← s.len]; exact hn
  exact (s.ob n a st[n] h1 (List.getElem?_eq_getElem h2)).some
theorem StR.notin (s : StR g α st H) {p : Addr} (h : H p = none) : p ∉ α := fun q => by
  obtain ⟨u, e⟩ := s.mem q
  rw [h] at e
  cases e
theorem ext_new (s : StR g α st H) {p : Addr} (h : H p = none) (o : HO) : Ext α H α (upd H p o) :=
  ⟨⟨[], by simp⟩, fun b u e _ => by rw [upd_ne (ne_of_none e h)]; exact e, fun b h n => absurd h n, fun b xs e => by rw [upd_ne (ne_of_none e h)]; exact e, fun b w u e => by rw [upd_ne (ne_of_none e h)]; exact e⟩
/-- an object's relation behind a change elsewhere -/
theorem OR.away {a : Addr} {o : Ob} (e : Ext α H α' H') (k : H' a = H a) (h : OR g α H a o) : OR g α' H' a o := by
  cases o with
  | lst ds => obtain ⟨vs, h, r⟩ := h; exact ⟨vs, k.trans h, r.mono e⟩
  | frz ds => obtain ⟨o, vs, h, r⟩ := h; exact ⟨o, vs, k.trans h, r.mono e⟩
  | dic ds => obtain ⟨vs, h, r⟩ := h; exact ⟨vs, k.trans h, r.mono e⟩
  | ins c fs => obtain ⟨C, dx, vs, h0, h, r⟩ := h; exact ⟨C, dx, vs, h0, k.trans h, r.mono e⟩
/-- an untracked new thing -/
theorem StR.temp (s : StR g α st H) {p : Addr} (h : H p = none) (o : HO) : StR g α st (upd H p o) := by
  refine ⟨s.len, s.nd, fun n a u h1 h2 => (s.ob n a u h1 h2).away (ext_new s h o) (upd_ne ?_)⟩
  rintro rfl
  exact s.notin h (List.mem_of_getElem? h1)
theorem ext_alloc (s : StR g α st H) {p : Addr} (h : H p = none) (o : HO) : Ext α H (α ++ [p]) (upd H p o) :=
  ⟨⟨[p], rfl⟩, fun b u e _ => by rw [upd_ne (ne_of_none e h)]; exact e, fun b hb n => by
    have : b = p := by simpa [n] using hb
    subst this; exact h, fun b xs e => by rw [upd_ne (ne_of_none e h)]; exact e, fun b w u e => by rw [upd_ne (ne_of_none e h)]; exact e⟩
theorem StR.alloc (s : StR g α st H) {p : Addr} (h : H p = none) {u : HO} {o : Ob} (new : OR g (α ++ [p]) (upd H p u) p o) : StR g (α ++ [p]) (st ++ [o]) (upd H p u) := by
  have hp := s.notin h
  refine ⟨by simp [s.len], by
    rw [List.nodup_append]
    refine ⟨s.nd, by simp, fun a ha b hb => ?_⟩
    rintro rfl
    have : a = p := by simpa using hb
    subst this
    exact hp ha, fun n a x h1 h2 => ?_⟩
  by_cases hn : n < α.length
  · rw [List.getElem?_append_left hn] at h1
    rw [List.getElem?_append_left (by rw [← s.len]; exact hn)] at h2
    refine (s.ob n a x h1 h2).away (ext_alloc s h u) (upd_ne ?_)
    rintro rfl
    exact hp (List.mem_of_getElem? h1)
  · have hn' : n = α.length := by
      have := (List.getElem?_eq_some_iff.mp h1).1
      simp at this
      omega
    subst hn'
    simp at h1
    rw [s.len] at h2
    simp at h2
    subst h1 h2
    exact new
theorem alloc_at (s : StR g α st H) (p : Addr) : (α ++ [p])[st.length]? = some p := by rw [← s.len]; simp
/-- an object that is changed -/
theorem ext_write (s : StR g α st H) {n : Nat} {a : Addr} (ha : α[n]? = some a) {u : HO} (old : ∃ x, H a = some x ∧ (∀ xs, x ≠ .tup xs) ∧ ∀ o y, x ≠ .frz o y) : Ext α H α (upd H a u) := by
  obtain ⟨x, hx, h1, h2⟩ := old
  have hm : a ∈ α := List.mem_of_getElem? ha
  refine ⟨⟨[], by simp⟩, fun b o e nb => ?_, fun b h n => absurd h n, fun b xs e => ?_, fun b o y e => ?_⟩
  · rw [upd_ne (fun q => nb (by rw [q]; exact hm))]; exact e
  · rw [upd_ne]; exact e
    rintro rfl
    rw [hx] at e
    exact h1 xs (Option.some.inj e)
  · rw [upd_ne]; exact e
    rintro rfl
    rw [hx] at e
    exact h2 o y (Option.some.inj e)
theorem StR.write (s : StR g α st H) {n : Nat} {a : Addr} (ha : α[n]? = some a) {u : HO} {o : Ob} (e : Ext α H α (upd H a u)) (new : OR g α (upd H a u) a o) : StR g α (st.set n o) (upd H a u) := by
  refine ⟨by simp [s.len], s.nd, fun m b x h1 h2 => ?_⟩
  by_cases hm : n = m
  · subst hm
    rw [ha] at h1
    cases h1
    have hl : n < st.length := by
      have := (List.getElem?_eq_some_iff.mp h2).1
      simpa using this
    rw [List.getElem?_set_self hl] at h2
    cases h2
    exact new
  · rw [List.getElem?_set_ne hm] at h2
    refine (s.ob m b x h1 h2).away e (upd_ne ?_)
    rintro rfl
    apply hm
    obtain ⟨q1, e1⟩ := List.getElem?_eq_some_iff.mp ha
    obtain ⟨q2, e2⟩ := List.getElem?_eq_some_iff.mp h1
    exact (List.getElem_inj s.nd).mp (e1.trans e2.symm)
theorem StR.at (s : StR g α st H) {n : Nat} {o : Ob} (h : st[n]? = some o) : ∃ a, α[n]? = some a ∧ OR g α H a o := by
  have hn : n < α.length := by rw [s.len]; exact (List.getElem?_eq_some_iff.mp h).1
  exact ⟨α[n], List.getElem?_eq_getElem hn, s.ob n _ o (List.getElem?_eq_getElem hn) h⟩
end

def new (o : Ob) (st : Sto) : R D := .ok (.obj st.length) (st ++ [o])

section
variable {g : Gd} {X : Cx} {W : WX} {σ : L2.St} {α : List Addr} {H : Hp} {env : Env} {st : Sto}
theorem tE.run {F : DE} {Q : VK} (hE : EnvR g α H env σ) (hS : StR g α st H) (p : Post g W σ α H (F env st) fun d _ α' H' => ∀ v, RD g α' H' d v → Q v H') : tE g W F σ H Q := ⟨α, env, st, hE, hS, p⟩
theorem tT.run {F : DT} {Q : Bool → Hp → Prop} (hE : EnvR g α H env σ) (hS : StR g α st H) (p : Post g W σ α H (F env st) fun b _ _ H' => Q b H') : tT g W F σ H Q := ⟨α, env, st, hE, hS, p⟩
theorem tA.run {F : DA} {Q : List V → Hp → Prop} (hE : EnvR g α H env σ) (hS : StR g α st H) (p : Post g W σ α H (F env st) fun d _ α' H' => ∀ v, RDs g α' H' d v → Q v H') : tA g W F σ H Q := ⟨α, env, st, hE, hS, p⟩
end

/-! ### names, constants -/
def eVar (i : Nat) : DE := fun env st => match env[i]? with | some (some d) => .ok d st | _ => .stuck
def eC (d : D) : DE := fun _ st => .ok d st
section
variable {g : Gd} {X : Cx} {W : WX}
theorem oe_var (i : Nat) {x : Str} {pos : Pos} (hN : X.N[i]? = some x := by rfl) (hv : Vis X.env.scope x := by first | exact Or.inl rfl | exact Or.inr (Or.inl rfl) | exact Or.inr (Or.inr rfl)) (hd : (x == ("__debug__" : Str)) = false := by decide)
    (hcd : (x == ("__classdict__" : Str)) = false := by decide) : OE g X W (.Name x pos) (eVar i) :=
  ofE (pe_var hN hv hd hcd) fun σ H Q ⟨α, env, st, hE, hS, p⟩ => by
    unfold eVar at p
    cases h : env[i]? with
    | none => rw [h] at p; exact p.elim
    | some o =>
      cases o with
      | none => rw [h] at p; exact p.elim
      | some d =>
        rw [h] at p
        obtain ⟨v, h1, h2⟩ := hE.val i d h
        exact ⟨v, h1, p.ok hS v h2⟩
theorem oe_c {e : Expr} {v : V} {d : D} (h : PE X e (tC v)) (r : ∀ α H, RD g α H d v) : OE g X W e (eC d) :=
  ofE h fun σ H Q ⟨α, env, st, hE, hS, p⟩ => p.ok hS v (r α H)
theorem oe_int {i j pos} : OE g X W (.Constant (.int i) j pos) (eC (.int i)) := oe_c pe_int fun _ _ => rfl
theorem oe_bl {b j pos} : OE g X W (.Constant (.bool b) j pos) (eC (.bl b)) := oe_c pe_bl fun _ _ => rfl
theorem oe_non {j pos} : OE g X W (.Constant .none j pos) (eC .non) := oe_c pe_non fun _ _ => rfl
theorem oe_str {x j pos} : OE g X W (.Constant (.str x) j pos) (eC (.str x)) := oe_c pe_str fun _ _ => rfl
end

/-! ### a new list that nothing else holds, as an operand -/
def RV (g : Gd) (α : List Addr) (H : Hp) (d : D) (v : V) : Prop := RD g α H d v ∨ ∃ ds a vs, d = .ev ds ∧ v = .ref a ∧ a ∉ α ∧ H a = some (.lst vs) ∧ RDs g α H ds vs
theorem RV.mono {g : Gd} {α α' : List Addr} {H H' : Hp} (e : Ext α H α' H') {d : D} {v : V} (h : RV g α H d v) : RV g α' H' d v := by
  rcases h with h | ⟨ds, a, vs, rfl, rfl, hn, ha, r⟩
  · exact .inl (h.mono e)
  · refine .inr ⟨ds, a, vs, rfl, rfl, fun hm => ?_, e.keep _ _ ha hn, r.mono e⟩
    have := e.new a hm hn
    rw [ha] at this
    cases this
theorem RV.rd {g : Gd} {α : List Addr} {H : Hp} {d : D} {v : V} (h : RV g α H d v) (n : ∀ ds, d ≠ .ev ds) : RD g α H d v := by
  rcases h with h | ⟨ds, a, vs, rfl, _⟩
  · exact h
  · exact absurd rfl (n ds)
theorem RV.ev {g : Gd} {α : List Addr} {H : Hp} {ds : List D} {v : V} (h : RV g α H (.ev ds) v) : ∃ a vs, v = .ref a ∧ a ∉ α ∧ H a = some (.lst vs) ∧ RDs g α H ds vs := by
  rcases h with h | ⟨ds, a, vs, e, h⟩
  · exact h.elim
  · cases e
    exact ⟨a, vs, h⟩
def tV (g : Gd) (W : WX) (F : DE) : TE := fun σ H Q => ∃ α env st, EnvR g α H env σ ∧ StR g α st H ∧ Post g W σ α H (F env st) fun d _ α' H' => ∀ v, RV g α' H' d v → Q v H'
def OV (g : Gd) (X : Cx) (W : WX) (e : Expr) (F : DE) : Prop := PE X e (tV g W F)
theorem OE.v {g : Gd} {X : Cx} {W : WX} {e : Expr} {F : DE} (h : OE g X W e F) : OV g X W e F := ofE h fun σ H Q ⟨α, env, st, hE, hS, p⟩ => ⟨α, env, st, hE, hS, p.imp fun d st1 α1 H1 x1 s1 q v r => q v (.inl r)⟩
theorem tV.run {g : Gd} {W : WX} {σ : L2.St} {α : List Addr} {H : Hp} {env : Env} {st : Sto} {F : DE} {Q : VK} (hE : EnvR g α H env σ) (hS : StR g α st H) (p : Post g W σ α H (F env st) fun d _ α' H' => ∀ v, RV g α' H' d v → Q v H') : tV g W F σ H Q := ⟨α, env, st, hE, hS, p⟩

/-! ### operators -/
def e2 (o : D → D → Sto → R D) (Fa Fb : DE) : DE := fun env st => (Fa env st).bind fun a st1 => (Fb env st1).bind fun b st2 => o a b st2
def e1 (o : D → Sto → R D) (Fa : DE) : DE := fun env st => (Fa env st).bind fun a st1 => o a st1
def PD (g : Gd) (W : WX) (σ : L2.St) (α : List Addr) (H : Hp) (r : R D) (Q : VK) : Prop := Post g W σ α H r fun d _ α' H' => ∀ v, RD g α' H' d v → Q v H'
def Op2 (g : Gd) (X : Cx) (W : WX) (f : Value → Value → Sem Value) (o : D → D → Sto → R D) : Prop :=
  ∀ (σ : L2.St) (α : List Addr) (H : Hp) (st : Sto) (a b : D) (x y : V) (Q : VK), StR g α st H → RV g α H a x → RV g α H b y → PD g W σ α H (o a b st) Q → ∃ r, OpR X f r ∧ r x y H Q
def Op1 (g : Gd) (X : Cx) (W : WX) (f : Value → Sem Value) (o : D → Sto → R D) : Prop :=
  ∀ (σ : L2.St) (α : List Addr) (H : Hp) (st : Sto) (a : D) (x : V) (Q : VK), StR g α st H → RD g α H a x → PD g W σ α H (o a st) Q → ∃ r, UnR X f r ∧ r x H Q
/-- an operator that takes no such list -/
theorem op2_of {g : Gd} {X : Cx} {W : WX} {f : Value → Value → Sem Value} {o : D → D → Sto → R D} (h1 : ∀ ds b st, o (.ev ds) b st = .stuck) (h2 : ∀ a ds st, o a (.ev ds) st = .stuck)
    (h : ∀ (σ : L2.St) (α : List Addr) (H : Hp) (st : Sto) (a b : D) (x y : V) (Q : VK), StR g α st H → RD g α H a x → RD g α H b y → PD g W σ α H (o a b st) Q → ∃ r, OpR X f r ∧ r x y H Q) : Op2 g X W f o := by
  intro σ α H st a b x y Q s ra rb p
  refine h σ α H st a b x y Q s (ra.rd fun ds e => ?_) (rb.rd fun ds e => ?_) p
  · subst e; rw [h1] at p; exact p.elim
  · subst e; rw [h2] at p; exact p.elim
theorem any2 {X : Cx} {f : Value → Value → Sem Value} : OpR X f (fun x y H Q => ∃ r, OpR X f r ∧ r x y H Q) :=
  fun pins s σ H x y v u Q I rx ry ⟨_, h, q⟩ => h pins s σ H x y v u Q I rx ry q
theorem any1 {X : Cx} {f : Value → Sem Value} : UnR X f (fun x H Q => ∃ r, UnR X f r ∧ r x H Q) :=
  fun pins s σ H x v Q I rx ⟨_, h, q⟩ => h pins s σ H x v Q I rx q
section
variable {g : Gd} {X : Cx} {W : WX} {a b : Expr} {Fa Fb : DE} {pos : Pos}
theorem two {f : Value → Value → Sem Value} {o : D → D → Sto → R D} (h : Op2 g X W f o) : ∀ σ H Q, tE g W (e2 o Fa Fb) σ H Q → tOp (fun x y H Q => ∃ r, OpR X f r ∧ r x y H Q) (tV g W Fa) (tV g W Fb) σ H Q :=
  fun σ H Q ⟨α, env, st, hE, hS, p⟩ => by
    refine tV.run hE hS (p.bind.imp fun d1 st1 α1 H1 x1 s1 q v1 r1 => ?_)
    refine tV.run (hE.mono x1) s1 (q.bind.imp fun d2 st2 α2 H2 x2 s2 q2 v2 r2 => ?_)
    exact h σ α2 H2 st2 d1 d2 v1 v2 Q s2 (r1.mono x2) r2 q2
theorem oe_bin {op : Operator} {o : D → D → Sto → R D} (h : Op2 g X W (binaryOp op) o) (ha : OV g X W a Fa) (hb : OV g X W b Fb) : OE g X W (.BinOp a op b pos) (e2 o Fa Fb) :=
  ofE (pe_op any2 ha hb) (two h)
theorem oe_cmp {op : CmpOp} {o : D → D → Sto → R D} (h : Op2 g X W (compareOp op) o) (ha : OV g X W a Fa) (hb : OV g X W b Fb) (hm : behindInMarks op b = false := by rfl) : OE g X W (.Compare a [op] [b] pos) (e2 o Fa Fb) :=
  ofE (pe_cmpR any2 ha hb hm) (two h)
theorem oe_un {op : UnaryOp} {o : D → Sto → R D} (h : Op1 g X W (unaryOp op) o) (ha : OE g X W a Fa) : OE g X W (.UnaryOp op a pos) (e1 o Fa) :=
  ofE (pe_un any1 ha) fun σ H Q ⟨α, env, st, hE, hS, p⟩ => by
    refine tE.run hE hS (p.bind.imp fun d1 st1 α1 H1 x1 s1 q v1 r1 => ?_)
    exact h σ α1 H1 st1 d1 v1 Q s1 r1 q
end
end Mi

namespace Mi
open PySem L2

/-- where one stands -/
structure Ck (g : Gd) (X : Cx) (W : WX) : Prop where
  hK : X.K = g.K
  hmg : X.mg = g.mg
  hP : X.prog = g.P
  hw : X.w = g.w
  hb : X.base = g.base
  calm : X.calm = true
  nd : X.N.Nodup
  tk : Takes X W
  gd : X.A.guards = some []
  hu : X.A.units + 200 < cLine
  pw : PassesOwn (model X.prog X.w) X.A X.env X.xe

/-! ### arithmetic -/
def addD : D → D → Sto → R D
  | .int i, .int j, st => .ok (.int (i + j)) st
  | .str x, .str y, st => if x.length + y.length ≤ sizeLine then .ok (.str (x ++ y)) st else .stuck
  | .tup xs, .tup ys, st => if xs.length + ys.length ≤ sizeLine then .ok (.tup (xs ++ ys)) st else .stuck
  | .obj m, .obj n, st => match st[m]?, st[n]? with
    | some (.lst xs), some (.lst ys) => if xs.length + ys.length ≤ sizeLine then new (.lst (xs ++ ys)) st else .stuck
    | _, _ => .stuck
  | .obj m, .ev ys, st => match st[m]? with
    | some (.lst xs) => if xs.length + ys.length ≤ sizeLine then new (.lst (xs ++ ys)) st else .stuck
    | _ => .stuck
  | .ev xs, .obj m, st => match st[m]? with
    | some (.lst ys) => if xs.length + ys.length ≤ sizeLine then new (.lst (xs ++ ys)) st else .stuck
    | _ => .stuck
  | .ev xs, .ev ys, st => if xs.length + ys.length ≤ sizeLine then new (.lst (xs ++ ys)) st else .stuck
  | _, _, _ => .stuck
def subD : D → D → Sto → R D
  | .int i, .int j, st => .ok (.int (i - j)) st
  | _, _, _ => .stuck
def mulD : D → D → Sto → R D
  | .int i, .int j, st => if i.natAbs.log2 + j.natAbs.log2 < 1000000 then .ok (.int (i * j)) st else .stuck
  | .obj m, .int k, st => match st[m]? with
    | some (.lst xs) => if -(2 ^ 63) ≤ k ∧ k < 2 ^ 63 ∧ xs.length * k.toNat ≤ sizeLine then new (.lst (List.replicate k.toNat xs).flatten) st else .stuck
    | _ => .stuck
  | .ev xs, .int k, st => if -(2 ^ 63) ≤ k ∧ k < 2 ^ 63 ∧ xs.length * k.toNat ≤ sizeLine then new (.lst (List.replicate k.toNat xs).flatten) st else .stuck
  | .tup xs, .int k, st => if xs ≠ [] ∧ 2 ≤ k ∧ k ≤ 1000 ∧ xs.length ≤ 1000 then .ok (.tup (List.replicate k.toNat xs).flatten) st else .stuck
  | _, _, _ => .stuck
def modD : D → D → Sto → R D
  | .int i, .int j, st => if 0 < j then .ok (.int (i % j)) st else .stuck
  | _, _, _ => .stuck
def fdivD : D → D → Sto → R D
  | .int i, .int j, st => if 0 < j ∧ j.natAbs.log2 < 9000 then .ok (.int (i / j)) st else .stuck
  | _, _, _ => .stuck
def powD : D → D → Sto → R D
  | .int i, .int j, st => if 0 ≤ j ∧ j ≤ 1000000 ∧ i.natAbs < 2 ^ 64 then .ok (.int (i ^ j.toNat)) st else .stuck
  | _, _, _ => .stuck
def negD : D → Sto → R D
  | .int i, st => .ok (.int (-i)) st
  | _, _ => .stuck

section
variable {g : Gd} {X : Cx} {W : WX} {σ : L2.St} {α : List Addr} {H : Hp} {st : Sto}
theorem PD.ok {d : D} {Q : VK} {v : V} (p : PD g W σ α H (.ok d st) Q) (s : StR g α st H) (r : RD g α H d v) : Q v H := Post.ok p s v r
/-- a new tuple -/
theorem PD.tup {ds : List D} {vs : List V} {Q : VK} (p : PD g W σ α H (.ok (.tup ds) st) Q) (s : StR g α st H) (r : RDs g α H ds vs) : ∀ q, H q = none → Q (.ref q) (upd H q (.tup vs)) := fun q hq =>
  p α _ (ext_new s hq _) (s.temp hq _) _ ⟨q, vs, rfl, .inl (.inl upd_same), r.mono (ext_new s hq _)⟩
/-- a new list -/
theorem PD.lst {ds : List D} {vs : List V} {Q : VK} (p : PD g W σ α H (new (.lst ds) st) Q) (s : StR g α st H) (r : RDs g α H ds vs) : ∀ q, H q = none → Q (.ref q) (upd H q (.lst vs)) := fun q hq =>
  p (α ++ [q]) _ (ext_alloc s hq _) (s.alloc hq ⟨vs, upd_same, r.mono (ext_alloc s hq _)⟩) _ ⟨q, rfl, alloc_at s q⟩
theorem RD.int' {i : Int} {v : V} (h : RD g α H (.int i) v) : v = .int i := h
theorem RD.str' {i : Str} {v : V} (h : RD g α H (.str i) v) : v = .str i := h
theorem RD.bl' {i : Bool} {v : V} (h : RD g α H (.bl i) v) : v = .bl i := h
theorem RD.tup' {ds : List D} {v : V} (h : RD g α H (.tup ds) v) : ∃ a vs, v = .ref a ∧ SqT g.K H a vs ∧ RDs g α H ds vs := h
theorem RD.obj' {n : Nat} {v : V} (h : RD g α H (.obj n) v) : ∃ a, v = .ref a ∧ α[n]? = some a := h
/-- a list of the store, by its value -/
theorem StR.lst (s : StR g α st H) {n : Nat} {v : V} {ds : List D} (h : RD g α H (.obj n) v) (e : st[n]? = some (.lst ds)) : ∃ a vs, v = .ref a ∧ α[n]? = some a ∧ H a = some (.lst vs) ∧ RDs g α H ds vs := by
  obtain ⟨a, rfl, ha⟩ := h
  obtain ⟨vs, h1, h2⟩ := s.ob n a _ ha e
  exact ⟨a, vs, rfl, ha, h1, h2⟩
def seqOf (st : Sto) (n : Nat) : Option (List D) := match st[n]? with
  | some (.lst ds) => some ds
  | some (.frz ds) => some ds
  | _ => none
theorem StR.seq (s : StR g α st H) {n : Nat} {v : V} {ds : List D} (h : RD g α H (.obj n) v) (e : seqOf st n = some ds) : ∃ a vs, v = .ref a ∧ α[n]? = some a ∧ SqL g.K H a vs ∧ RDs g α H ds vs := by
  obtain ⟨a, rfl, ha⟩ := h
  unfold seqOf at e
  split at e
  · rename_i xs e'
    cases e
    obtain ⟨vs, h1, h2⟩ := s.ob n a _ ha e'
    exact ⟨a, vs, rfl, ha, .inl (.inl h1), h2⟩
  · rename_i xs e'
    cases e
    obtain ⟨o, vs, h1, h2⟩ := s.ob n a _ ha e'
    exact ⟨a, vs, rfl, ha, .inl (.inr ⟨o, h1⟩), h2⟩
  · cases e

theorem op_addD (c : Ck g X W) : Op2 g X W (binaryOp .Add) addD := by
  intro σ α H st a b x y Q s ra rb p
  have lst : ∀ {d : D} {v : V} {n : Nat} {xs : List D}, RV g α H (.obj n) v → st[n]? = some (.lst xs) → ∃ l vs, v = .ref l ∧ H l = some (.lst vs) ∧ RDs g α H xs vs := fun {d v n xs} r e => by
    obtain ⟨l, vs, h1, _, h2, h3⟩ := s.lst (r.rd (fun _ z => nomatch z)) e
    exact ⟨l, vs, h1, h2, h3⟩
  have cat : ∀ {l1 l2 : Addr} {xs ys : List D} {vs ws : List V}, x = .ref l1 → y = .ref l2 → H l1 = some (.lst vs) → H l2 = some (.lst ws) → RDs g α H xs vs → RDs g α H ys ws → xs.length + ys.length ≤ sizeLine → PD g W σ α H (new (.lst (xs ++ ys)) st) Q → ∃ r, OpR X (binaryOp .Add) r ∧ r x y H Q := fun {l1 l2 xs ys vs ws} e1 e2 h1 h2 r1 r2 hl p => by
    rw [r1.length, r2.length] at hl
    exact ⟨_, op_cat, l1, l2, vs, ws, e1, e2, h1, h2, hl, p.lst s (r1.append r2)⟩
  cases a <;> cases b <;> first | exact p.elim | skip
  · cases ra.rd (fun _ z => nomatch z); cases rb.rd (fun _ z => nomatch z)
    exact ⟨_, op_add, _, _, rfl, rfl, p.ok s rfl⟩
  · cases ra.rd (fun _ z => nomatch z); cases rb.rd (fun _ z => nomatch z)
    dsimp only [addD] at p
    split at p
    · exact ⟨_, op_add_str, _, _, rfl, rfl, by assumption, p.ok s rfl⟩
    · exact p.elim
  · obtain ⟨a1, vs, rfl, h1, r1⟩ := ra.rd (fun _ z => nomatch z)
    obtain ⟨a2, ws, rfl, h2, r2⟩ := rb.rd (fun _ z => nomatch z)
    dsimp only [addD] at p
    split at p
    · rename_i hl
      rw [r1.length, r2.length] at hl
      refine ⟨_, op_catA, a1, a2, vs, ws, rfl, rfl, by rw [c.hK]; exact h1, by rw [c.hK]; exact h2, hl, fun e => ?_, fun _ e => ?_, fun _ _ => p.tup s (r1.append r2)⟩
      · subst e
        have e0 := r1.length
        rw [List.length_nil, List.length_eq_zero_iff] at e0
        subst e0
        exact p.ok s ⟨a2, ws, rfl, h2, r2⟩
      · subst e
        have e0 := r2.length
        rw [List.length_nil, List.length_eq_zero_iff] at e0
        subst e0
        rw [List.append_nil] at p
        exact p.ok s ⟨a1, vs, rfl, h1, r1⟩
    · exact p.elim
  · dsimp only [addD] at p
    split at p
    · rename_i e1 e2
      split at p
      · rename_i hl
        obtain ⟨l1, vs, q1, h1, r1⟩ := lst (d := .non) ra e1
        obtain ⟨l2, ws, q2, h2, r2⟩ := lst (d := .non) rb e2
        exact cat q1 q2 h1 h2 r1 r2 hl p
      · exact p.elim
    · exact p.elim
  · dsimp only [addD] at p
    split at p
    · rename_i e1
      split at p
      · rename_i hl
        obtain ⟨l1, vs, q1, h1, r1⟩ := lst (d := .non) ra e1
        obtain ⟨l2, ws, q2, _, h2, r2⟩ := rb.ev
        exact cat q1 q2 h1 h2 r1 r2 hl p
      · exact p.elim
    · exact p.elim
  · dsimp only [addD] at p
    split at p
    · rename_i e1
      split at p
      · rename_i hl
        obtain ⟨l1, vs, q1, _, h1, r1⟩ := ra.ev
        obtain ⟨l2, ws, q2, h2, r2⟩ := lst (d := .non) rb e1
        exact cat q1 q2 h1 h2 r1 r2 hl p
      · exact p.elim
    · exact p.elim
  · dsimp only [addD] at p
    split at p
    · rename_i hl
      obtain ⟨l1, vs, q1, _, h1, r1⟩ := ra.ev
      obtain ⟨l2, ws, q2, _, h2, r2⟩ := rb.ev
      exact cat q1 q2 h1 h2 r1 r2 hl p
    · exact p.elim
theorem op_subD : Op2 g X W (binaryOp .Sub) subD := by
  refine op2_of (fun _ _ _ => rfl) (fun a _ _ => by cases a <;> rfl) ?_
  intro σ α H st a b x y Q s ra rb p
  cases a <;> cases b <;> first | exact p.elim | skip
  cases ra; cases rb
  exact ⟨_, op_sub, _, _, rfl, rfl, p.ok s rfl⟩
theorem RDs.rep : ∀ (k : Nat) {ds : List D} {vs : List V}, RDs g α H ds vs → RDs g α H (List.replicate k ds).flatten (List.replicate k vs).flatten
  | 0, _, _, _ => by simp [RDs]
  | k + 1, ds, vs, h => by
    rw [List.replicate_succ, List.replicate_succ, List.flatten_cons, List.flatten_cons]
    exact h.append (RDs.rep k h)
theorem op_mulD (c : Ck g X W) : Op2 g X W (binaryOp .Mult) mulD := by
  intro σ α H st a b x y Q s ra rb p
  cases a <;> cases b <;> first | exact p.elim | skip
  · cases ra.rd (fun _ z => nomatch z); cases rb.rd (fun _ z => nomatch z)
    dsimp only [mulD] at p
    split at p
    · exact ⟨_, op_mulW, _, _, rfl, rfl, by assumption, p.ok s rfl⟩
    · exact p.elim
  · cases rb.rd (fun _ z => nomatch z)
    dsimp only [mulD] at p
    split at p
    · rename_i h
      obtain ⟨h0, h1, h2, h3⟩ := h
      obtain ⟨a1, vs, rfl, q1, r1⟩ := ra.rd (fun _ z => nomatch z)
      refine ⟨_, op_repT, a1, _, vs, rfl, rfl, by rw [c.hK]; exact q1, fun e => ?_, h1, h2, by rw [← r1.length]; exact h3, p.tup s (r1.rep _)⟩
      subst e
      exact h0 (List.length_eq_zero_iff.mp r1.length)
    · exact p.elim
  · cases rb.rd (fun _ z => nomatch z)
    dsimp only [mulD] at p
    split at p
    · rename_i e1
      split at p
      · rename_i h
        obtain ⟨h1, h2, h3⟩ := h
        obtain ⟨a1, vs, rfl, _, q1, r1⟩ := s.lst (ra.rd (fun _ z => nomatch z)) e1
        exact ⟨_, op_rep, a1, _, vs, rfl, rfl, q1, h1, h2, by rw [← r1.length]; exact h3, p.lst s (r1.rep _)⟩
      · exact p.elim
    · exact p.elim
  · cases rb.rd (fun _ z => nomatch z)
    dsimp only [mulD] at p
    split at p
    · rename_i h
      obtain ⟨h1, h2, h3⟩ := h
      obtain ⟨a1, vs, rfl, _, q1, r1⟩ := ra.ev
      exact ⟨_, op_rep, a1, _, vs, rfl, rfl, q1, h1, h2, by rw [← r1.length]; exact h3, p.lst s (r1.rep _)⟩
    · exact p.elim
theorem op_modD : Op2 g X W (binaryOp .Mod) modD := by
  refine op2_of (fun _ _ _ => rfl) (fun a _ _ => by cases a <;> rfl) ?_
  intro σ α H st a b x y Q s ra rb p
  cases a <;> cases b <;> first | exact p.elim | skip
  cases ra; cases rb
  dsimp only [modD] at p
  split at p
  · exact ⟨_, op_mod, _, _, rfl, rfl, by assumption, p.ok s rfl⟩
  · exact p.elim
theorem op_fdivD : Op2 g X W (binaryOp .FloorDiv) fdivD := by
  refine op2_of (fun _ _ _ => rfl) (fun a _ _ => by cases a <;> rfl) ?_
  intro σ α H st a b x y Q s ra rb p
  cases a <;> cases b <;> first | exact p.elim | skip
  cases ra; cases rb
  dsimp only [fdivD] at p
  split at p
  · exact ⟨_, op_fdivW, _, _, rfl, rfl, by assumption, p.ok s rfl⟩
  · exact p.elim
theorem op_powD : Op2 g X W (binaryOp .Pow) powD := by
  refine op2_of (fun _ _ _ => rfl) (fun a _ _ => by cases a <;> rfl) ?_
  intro σ α H st a b x y Q s ra rb p
  cases a <;> cases b <;> first | exact p.elim | skip
  cases ra; cases rb
  dsimp only [powD] at p
  split at p
  · exact ⟨_, op_pow, _, _, rfl, rfl, by assumption, p.ok s rfl⟩
  · exact p.elim
theorem op_negD : Op1 g X W (unaryOp .USub) negD := by
  intro σ α H st a x Q s ra p
  cases a <;> first | exact p.elim | skip
  cases ra
  exact ⟨_, un_neg, _, rfl, p.ok s rfl⟩
end

/-! ### comparisons -/
def strLt (x y : Str) : Bool := decide (x.cps.toList < y.cps.toList)
def cmpD (fi : Int → Int → Bool) (fs : Str → Str → Bool) : D → D → Sto → R D
  | .int i, .int j, st => .ok (.bl (fi i j)) st
  | .str x, .str y, st => .ok (.bl (fs x y)) st
  | .bl p, .bl q, st => .ok (.bl (fi (if p then 1 else 0) (if q then 1 else 0))) st
  | _, _, _ => .stuck
def ltD : D → D → Sto → R D := cmpD (fun i j => decide (i < j)) strLt
def leD : D → D → Sto → R D := cmpD (fun i j => decide (i ≤ j)) fun x y => !strLt y x
def gtD : D → D → Sto → R D := cmpD (fun i j => decide (j < i)) fun x y => strLt y x
def geD : D → D → Sto → R D := cmpD (fun i j => decide (j ≤ i)) fun x y => !strLt x y
def isD : D → D → Sto → R D
  | .ev _, _, _ => .stuck
  | .non, .non, st => .ok (.bl true) st
  | _, .non, st => .ok (.bl false) st
  | _, _, _ => .stuck
def isNotD : D → D → Sto → R D
  | .ev _, _, _ => .stuck
  | .non, .non, st => .ok (.bl false) st
  | _, .non, st => .ok (.bl true) st
  | _, _, _ => .stuck
section
variable {g : Gd} {X : Cx} {W : WX}
abbrev rBB (fi : Int → Int → Bool) : V → V → Hp → VK → Prop := fun x y H Q => ∃ p q : Bool, x = .bl p ∧ y = .bl q ∧ Q (.bl (fi (if p then 1 else 0) (if q then 1 else 0))) H
theorem op_bb {op : CmpOp} {fi : Int → Int → Bool} (h : ∀ {p q : Bool} {s : Shared} {Q : Value → Shared → Prop}, Q (.bool (fi (if p then 1 else 0) (if q then 1 else 0))) s → wpAny (model X.prog X.w) X.A (compareOp op (.bool p) (.bool q)) Q X.xe s) : OpR X (compareOp op) (rBB fi) := by
  intro pins s σ H x y v u Q I rx ry k
  obtain ⟨p, q, rfl, rfl, z⟩ := k
  cases rx
  cases ry
  exact h (fin_bl I z rfl)
theorem op_cmpD {op : CmpOp} {fi : Int → Int → Bool} {fs : Str → Str → Bool} (h1 : OpR X (compareOp op) (rI0 fun i j => .bl (fi i j)))
    (h2 : OpR X (compareOp op) (fun x y H Q => ∃ i j, x = .str i ∧ y = .str j ∧ Q (.bl (fs i j)) H)) (h3 : OpR X (compareOp op) (rBB fi)) : Op2 g X W (compareOp op) (cmpD fi fs) := by
  refine op2_of (fun _ _ _ => rfl) (fun a _ _ => by cases a <;> rfl) ?_
  intro σ α H st a b x y Q s ra rb p
  cases a <;> cases b <;> first | exact p.elim | skip
  · cases ra; cases rb
    exact ⟨_, h3, _, _, rfl, rfl, p.ok s rfl⟩
  · cases ra; cases rb
    exact ⟨_, h1, _, _, rfl, rfl, p.ok s rfl⟩
  · cases ra; cases rb
    exact ⟨_, h2, _, _, rfl, rfl, p.ok s rfl⟩
theorem op_ltD : Op2 g X W (compareOp .Lt) ltD := op_cmpD op_lt op_lt_str (op_bb fun k => PyProof.Rows.lt_bool k)
theorem op_leD : Op2 g X W (compareOp .LtE) leD := op_cmpD op_le op_le_str (op_bb fun k => PyProof.Rows.le_bool k)
theorem op_gtD : Op2 g X W (compareOp .Gt) gtD := op_cmpD op_gt op_gt_str (op_bb fun k => PyProof.Rows.gt_bool k)
theorem op_geD : Op2 g X W (compareOp .GtE) geD := op_cmpD op_ge op_ge_str (op_bb fun k => PyProof.Rows.ge_bool k)
theorem notnon {α : List Addr} {H : Hp} {d : D} {v : V} (h : RD g α H d v) (n : d ≠ .non) : v ≠ .non := by
  rintro rfl
  cases d <;> simp [RD] at h n
theorem op_isD : Op2 g X W (compareOp .Is) isD := by
  refine op2_of (fun _ _ _ => rfl) (fun a _ _ => by cases a <;> rfl) ?_
  intro σ α H st a b x y Q s ra rb p
  cases b <;> first | (cases a <;> exact p.elim) | skip
  cases rb
  refine ⟨_, op_isN, rfl, ?_⟩
  cases a <;> first
    | (exact ra.elim)
    | (cases ra; exact p.ok s rfl)
    | (have n := notnon ra (by intro q; cases q); rw [decide_eq_false n]; exact p.ok s rfl)
theorem op_isNotD : Op2 g X W (compareOp .IsNot) isNotD := by
  refine op2_of (fun _ _ _ => rfl) (fun a _ _ => by cases a <;> rfl) ?_
  intro σ α H st a b x y Q s ra rb p
  cases b <;> first | (cases a <;> exact p.elim) | skip
  cases rb
  refine ⟨_, op_notN, rfl, ?_⟩
  cases a <;> first
    | (exact ra.elim)
    | (cases ra; exact p.ok s rfl)
    | (have n := notnon ra (by intro q; cases q); rw [decide_eq_false n]; exact p.ok s rfl)
end
end Mi

namespace Mi
open PySem L2

/-! ### data as a whole -/
def allO {β γ : Type} (f : β → Option γ) : List β → Option (List γ)
  | [] => some []
  | a :: r => match f a, allO f r with
    | some b, some bs => some (b :: bs)
    | _, _ => none
def toP (st : Sto) : Nat → D → Option PyData
  | _, .non => some .none
  | _, .bl b => some (.bool b)
  | _, .int i => some (.int i)
  | _, .str x => some (.str x)
  | n + 1, .tup ds => match allO (toP st n) ds with | some ps => some (.tuple ps) | none => none
  | n + 1, .obj k => match seqOf st k with
    | some ds => (match allO (toP st n) ds with | some ps => some (.list ps) | none => none)
    | none => none
  | n + 1, .kl ds => match allO (toP st n) ds with | some ps => some (.list ps) | none => none
  | n + 1, .ev ds => match allO (toP st n) ds with | some ps => some (.list ps) | none => none
  | _, _ => none
section
variable {g : Gd} {X : Cx} {W : WX} {σ : L2.St} {α : List Addr} {H : Hp} {st : Sto}
theorem dps {f : D → Option PyData} (hf : ∀ d v p, f d = some p → RD g α H d v → Dp g.K H v p) : ∀ {ds : List D} {vs : List V} {ps : List PyData}, allO f ds = some ps → RDs g α H ds vs → DpAll g.K H vs ps
  | [], vs, ps, e, h => by
    cases e
    cases h
    exact .nil
  | d :: ds, vs, ps, e, h => by
    obtain ⟨v, r, rfl, h1, h2⟩ := h
    rw [allO] at e
    split at e
    · rename_i b bs e1 e2
      cases e
      exact .cons (hf d v _ e1 h1) (dps hf e2 h2)
    · cases e
theorem dp (s : StR g α st H) : ∀ (n : Nat) (d : D) (v : V) (p : PyData), toP st n d = some p → RD g α H d v → Dp g.K H v p := by
  intro n
  induction n with
  | zero =>
    intro d v p e h
    cases d <;> simp only [toP] at e <;> first
      | (cases e; cases h; constructor)
      | cases e
  | succ n ih =>
    intro d v p e h
    cases d with
    | non => cases e; cases h; constructor
    | bl => cases e; cases h; constructor
    | int => cases e; cases h; constructor
    | str => cases e; cases h; constructor
    | tup ds =>
      obtain ⟨a, vs, rfl, h1, h2⟩ := h
      rw [toP] at e
      split at e
      · rename_i ps e'
        cases e
        exact .tup h1 (dps ih e' h2)
      · cases e
    | obj k =>
      rw [toP] at e
      split at e
      · rename_i ds e'
        split at e
        · rename_i ps e2
          cases e
          obtain ⟨a, vs, rfl, _, h1, h2⟩ := s.seq h e'
          exact .lst h1 (dps ih e2 h2)
        · cases e
      · cases e
    | fn => cases e
    | ty => cases e
    | kl ds =>
      obtain ⟨a, vs, rfl, h1, h2⟩ := h
      rw [toP] at e
      split at e
      · rename_i ps e'
        cases e
        exact .lst h1.sq (dps ih e' h2)
      · cases e
    | ev ds => exact h.elim
theorem dpV (s : StR g α st H) (n : Nat) (d : D) (v : V) (p : PyData) (e : toP st n d = some p) (h : RV g α H d v) : Dp g.K H v p := by
  rcases h with h | ⟨ds, a, vs, rfl, rfl, _, ha, r⟩
  · exact dp s n d v p e h
  · cases n with
    | zero => cases e
    | succ n =>
      rw [toP] at e
      split at e
      · rename_i ps e'
        cases e
        exact .lst (.inl (.inl ha)) (dps (fun d v p => dp s n d v p) e' r)
      · cases e
end
def eqG (a b : D) (st : Sto) : Option Bool := match toP st 66 a, toP st 66 b with
  | some p, some q => if (SeqAt.shaped p && SeqAt.shaped q) = true then some (PyData.eqv p q) else none
  | _, _ => none
def eqO : D → D → Sto → Option Bool
  | .int i, .int j, _ => some (decide (i = j))
  | .str x, .str y, _ => some (decide (x = y))
  | a, b, st => eqG a b st
def eqD (a b : D) (st : Sto) : R D := match eqO a b st with | some c => .ok (.bl c) st | none => .stuck
def neD (a b : D) (st : Sto) : R D := match eqO a b st with | some c => .ok (.bl (!c)) st | none => .stuck
section
variable {g : Gd} {X : Cx} {W : WX}
theorem eqO_ok (c : Ck g X W) {α : List Addr} {H : Hp} {st : Sto} {a b : D} {x y : V} {k : Bool} (s : StR g α st H) (ra : RV g α H a x) (rb : RV g α H b y) (h : eqO a b st = some k) :
    (∀ Q : VK, Q (.bl k) H → ∃ r, OpR X (compareOp .Eq) r ∧ r x y H Q) ∧ ∀ Q : VK, Q (.bl (!k)) H → ∃ r, OpR X (compareOp .NotEq) r ∧ r x y H Q := by
  have gen : eqG a b st = some k → (∀ Q : VK, Q (.bl k) H → ∃ r, OpR X (compareOp .Eq) r ∧ r x y H Q) ∧ ∀ Q : VK, Q (.bl (!k)) H → ∃ r, OpR X (compareOp .NotEq) r ∧ r x y H Q := fun h => by
    unfold eqG at h
    split at h
    · rename_i p q e1 e2
      split at h
      · rename_i hs
        cases h
        rw [Bool.and_eq_true] at hs
        have hu : X.A.units + 64 < cLine := by have := c.hu; omega
        have d1 := dpV s _ _ _ _ e1 ra
        have d2 := dpV s _ _ _ _ e2 rb
        rw [← c.hK] at d1 d2
        exact ⟨fun Q q0 => ⟨_, op_eqD hu, p, q, d1, d2, hs.1, hs.2, q0⟩, fun Q q0 => ⟨_, op_neD hu, p, q, d1, d2, hs.1, hs.2, q0⟩⟩
      · cases h
    · cases h
  cases a <;> cases b <;> first
    | exact gen h
    | (cases ra.rd (fun _ z => nomatch z); cases rb.rd (fun _ z => nomatch z); cases h
       refine ⟨fun Q q => ⟨_, op_eq, rfl, ?_⟩, fun Q q => ⟨_, op_ne, rfl, ?_⟩⟩ <;> simpa using q)
theorem op_eqQ (c : Ck g X W) : Op2 g X W (compareOp .Eq) eqD := by
  intro σ α H st a b x y Q s ra rb p
  unfold eqD at p
  split at p
  · rename_i k e
    exact (eqO_ok c s ra rb e).1 Q (p.ok s rfl)
  · exact p.elim
theorem op_neQ (c : Ck g X W) : Op2 g X W (compareOp .NotEq) neD := by
  intro σ α H st a b x y Q s ra rb p
  unfold neD at p
  split at p
  · rename_i k e
    exact (eqO_ok c s ra rb e).2 Q (p.ok s rfl)
  · exact p.elim
end

/-! ### in -/
def toV : D → Option V
  | .non => some .non
  | .bl b => some (.bl b)
  | .int i => some (.int i)
  | .str x => some (.str x)
  | _ => none
def inO : D → D → Sto → Option Bool
  | .str c, .str z, _ => if c.cps.size = 1 then some (decide (c.cps.getD 0 0 ∈ z.cps.toList)) else some (!(Builtin.Str.occurrences z c 0 z.length 1).isEmpty)
  | a, .tup ds, _ => match toV a, allO toV ds with | some x, some xs => some (inV x xs) | _, _ => none
  | a, .obj n, st => match seqOf st n with
    | some ds => (match toV a, allO toV ds with | some x, some xs => some (inV x xs) | _, _ => none)
    | none => none
  | a, .ev ds, _ => match toV a, allO toV ds with | some x, some xs => some (inV x xs) | _, _ => none
  | _, _, _ => none
def inD (a b : D) (st : Sto) : R D := match inO a b st with | some c => .ok (.bl c) st | none => .stuck
def notInD (a b : D) (st : Sto) : R D := match inO a b st with | some c => .ok (.bl (!c)) st | none => .stuck
section
variable {g : Gd} {X : Cx} {W : WX} {α : List Addr} {H : Hp} {st : Sto}
theorem toV_ok {d : D} {v x : V} (h : RD g α H d v) (e : toV d = some x) : v = x ∧ flatV x = true := by
  cases d <;> first | (cases e; cases h; exact ⟨rfl, rfl⟩) | cases e
theorem toVs_ok : ∀ {ds : List D} {vs xs : List V}, RDs g α H ds vs → allO toV ds = some xs → vs = xs ∧ xs.all flatV = true
  | [], vs, xs, h, e => by cases e; cases h; exact ⟨rfl, rfl⟩
  | d :: ds, vs, xs, h, e => by
    obtain ⟨v, r, rfl, h1, h2⟩ := h
    rw [allO] at e
    split at e
    · rename_i b bs e1 e2
      cases e
      obtain ⟨rfl, f1⟩ := toV_ok h1 e1
      obtain ⟨rfl, f2⟩ := toVs_ok h2 e2
      exact ⟨rfl, by rw [List.all_cons, f1, f2]; rfl⟩
    · cases e
theorem one_sign {c : Str} (h : c.cps.size = 1) : c = ⟨#[c.cps.getD 0 0]⟩ := by
  obtain ⟨⟨l⟩⟩ := c
  simp at h
  match l, h with
  | [x], _ => rfl
theorem inO_ok (c : Ck g X W) {a b : D} {x y : V} {k : Bool} (s : StR g α st H) (ra : RV g α H a x) (rb : RV g α H b y) (h : inO a b st = some k) :
    (∀ Q : VK, Q (.bl k) H → ∃ r, OpR X (compareOp .In) r ∧ r x y H Q) ∧ ∀ Q : VK, Q (.bl (!k)) H → ∃ r, OpR X (compareOp .NotIn) r ∧ r x y H Q := by
  have sq : ∀ {p : Addr} {ds : List D} {vs : List V}, (SqL X.K H p vs ∨ SqT X.K H p vs) → RDs g α H ds vs → (match toV a, allO toV ds with | some x, some xs => some (inV x xs) | _, _ => none) = some k → y = .ref p →
      (∀ Q : VK, Q (.bl k) H → ∃ r, OpR X (compareOp .In) r ∧ r x y H Q) ∧ ∀ Q : VK, Q (.bl (!k)) H → ∃ r, OpR X (compareOp .NotIn) r ∧ r x y H Q := fun {p ds vs} hq rd e ey => by
    split at e
    · rename_i z xs e1 e2
      cases e
      obtain ⟨rfl, f1⟩ := toV_ok (ra.rd fun ds z => by subst z; cases e1) e1
      obtain ⟨rfl, f2⟩ := toVs_ok rd e2
      subst ey
      exact ⟨fun Q q => ⟨_, op_in_seq, p, _, rfl, hq, f1, f2, q⟩, fun Q q => ⟨_, op_notIn_seq, p, _, rfl, hq, f1, f2, q⟩⟩
    · cases e
  cases b with
  | str z =>
    cases a <;> first | cases h | skip
    rename_i cc
    cases ra.rd (fun _ z => nomatch z); cases rb.rd (fun _ z => nomatch z)
    dsimp only [inO] at h
    split at h
    · rename_i h1
      cases h
      have e := one_sign h1
      exact ⟨fun Q q => ⟨_, op_in_sign, cc.cps.getD 0 0, z, congrArg V.str e, rfl, q⟩, fun Q q => ⟨_, op_notIn_sign, cc.cps.getD 0 0, z, congrArg V.str e, rfl, q⟩⟩
    · cases h
      exact ⟨fun Q q => ⟨_, op_in_str, _, _, rfl, rfl, q⟩, fun Q q => ⟨_, op_notIn_str, _, _, rfl, rfl, q⟩⟩
  | tup ds =>
    obtain ⟨p, vs, rfl, h1, h2⟩ := rb.rd (fun _ z => nomatch z)
    have h' : (match toV a, allO toV ds with | some x, some xs => some (inV x xs) | _, _ => none) = some k := by cases a <;> exact h
    exact sq (p := p) (.inr (by rw [c.hK]; exact h1)) h2 h' rfl
  | obj n =>
    have h' : (match seqOf st n with | some ds => (match toV a, allO toV ds with | some x, some xs => some (inV x xs) | _, _ => none) | none => none) = some k := by cases a <;> exact h
    split at h'
    · rename_i ds e'
      obtain ⟨p, vs, rfl, _, h1, h2⟩ := s.seq (rb.rd (fun _ z => nomatch z)) e'
      exact sq (p := p) (.inl (by rw [c.hK]; exact h1)) h2 h' rfl
    · cases h'
  | ev ds =>
    obtain ⟨p, vs, rfl, _, h1, h2⟩ := rb.ev
    have h' : (match toV a, allO toV ds with | some x, some xs => some (inV x xs) | _, _ => none) = some k := by cases a <;> exact h
    exact sq (p := p) (.inl (.inl (.inl h1))) h2 h' rfl
  | _ => cases a <;> cases h
theorem op_inQ (c : Ck g X W) : Op2 g X W (compareOp .In) inD := by
  intro σ α H st a b x y Q s ra rb p
  unfold inD at p
  split at p
  · rename_i k e
    exact (inO_ok c s ra rb e).1 Q (p.ok s rfl)
  · exact p.elim
theorem op_notInQ (c : Ck g X W) : Op2 g X W (compareOp .NotIn) notInD := by
  intro σ α H st a b x y Q s ra rb p
  unfold notInD at p
  split at p
  · rename_i k e
    exact (inO_ok c s ra rb e).2 Q (p.ok s rfl)
  · exact p.elim
end

/-! ### subscripts, slices -/
def ofO (o : Option D) (st : Sto) : R D := match o with | some d => .ok d st | none => .stuck
def ixD : D → D → Sto → R D
  | .tup ds, .int i, st => ofO (atI ds i) st
  | .str z, .int i, st => if z.length ≤ sizeLine then ofO ((atI z.cps.toList i).map fun c => .str ⟨#[c]⟩) st else .stuck
  | .obj n, .int i, st => match seqOf st n with | some ds => ofO (atI ds i) st | none => .stuck
  | .kl ds, .int i, st => ofO (atI ds i) st
  | .ev ds, .int i, st => ofO (atI ds i) st
  | _, _, _ => .stuck
def cutG {β : Type} (xs : List β) (lo hi : Option Int) : List β := (xs.drop (HT.sIx xs.length 0 lo)).take (HT.sIx xs.length xs.length hi - HT.sIx xs.length 0 lo)
def slD (d : D) (lo hi : Option Int) (st : Sto) : R D := match d with
  | .tup ds => .ok (.tup (cutG ds lo hi)) st
  | .str z => if z.length ≤ sizeLine then .ok (.str (cutS z lo hi)) st else .stuck
  | .obj n => (match seqOf st n with | some ds => new (.lst (cutG ds lo hi)) st | none => .stuck)
  | .kl ds => new (.lst (cutG ds lo hi)) st
  | _ => .stuck
abbrev DO := Env → Sto → R (Option Int)
def eNo : DO := fun _ st => .ok none st
def ePart (F : DE) : DO := fun env st => (F env st).bind fun d st1 => match d with | .int i => .ok (some i) st1 | _ => .stuck
def eSl (Fa : DE) (Fl Fh : DO) : DE := fun env st => (Fa env st).bind fun a st1 => (Fl env st1).bind fun lo st2 => (Fh env st2).bind fun hi st3 => slD a lo hi st3
def tO (g : Gd) (W : WX) (F : DO) : TO := fun σ H Q => ∃ α env st, EnvR g α H env σ ∧ StR g α st H ∧ Post g W σ α H (F env st) fun o _ _ H' => Q o H'
def OO (g : Gd) (X : Cx) (W : WX) (e : Option Expr) (F : DO) : Prop := PO X e (tO g W F)
theorem anyIx {X : Cx} : IxR X (fun x y H Q => ∃ r, IxR X r ∧ r x y H Q) := fun value slice pins s σ H x y v u Q I rx ry ⟨_, h, q⟩ hs => h value slice pins s σ H x y v u Q I rx ry q hs
theorem anySl {X : Cx} : SlR X (fun x lo hi H Q => ∃ r, SlR X r ∧ r x lo hi H Q) := fun pins s σ H x v vl vu lo hi sl Q I rx hs pl pu ⟨_, h, q⟩ => h pins s σ H x v vl vu lo hi sl Q I rx hs pl pu q
section
variable {g : Gd} {X : Cx} {W : WX} {α : List Addr} {H : Hp} {st : Sto}
theorem RDs.atI {ds : List D} {vs : List V} {i : Int} {d : D} (h : RDs g α H ds vs) (e : L2.atI ds i = some d) : ∃ v, L2.atI vs i = some v ∧ RD g α H d v := by
  unfold L2.atI at e ⊢
  rw [← h.length]
  cases q : ixN ds.length i with
  | none => rw [q] at e; cases e
  | some j =>
    rw [q] at e
    exact h.get e
theorem RDs.cut {ds : List D} {vs : List V} (lo hi : Option Int) (h : RDs g α H ds vs) : RDs g α H (cutG ds lo hi) (cutV vs lo hi) := by
  unfold cutG cutV
  rw [h.length]
  exact (h.drop _).take _
theorem ixD_ok (c : Ck g X W) {σ : L2.St} {a b : D} {x y : V} {Q : VK} (s : StR g α st H) (ra : RV g α H a x) (rb : RD g α H b y) (p : PD g W σ α H (ixD a b st) Q) : ∃ r, IxR X r ∧ r x y H Q := by
  cases b <;> first | (cases a <;> exact p.elim) | skip
  cases rb
  cases a <;> first | exact p.elim | skip
  · cases ra.rd (fun _ z => nomatch z)
    dsimp only [ixD] at p
    split at p
    · rename_i i z h
      cases e : L2.atI z.cps.toList i with
      | none => rw [e] at p; exact p.elim
      | some cc =>
        rw [e] at p
        exact ⟨_, ix_str, z, i, cc, rfl, rfl, h, e, PD.ok p s rfl⟩
    · exact p.elim
  · obtain ⟨a1, vs, rfl, h1, r1⟩ := ra.rd (fun _ z => nomatch z)
    dsimp only [ixD] at p
    rename_i i ds
    cases e : L2.atI ds i with
    | none => rw [e] at p; exact p.elim
    | some d =>
      rw [e] at p
      obtain ⟨v, e2, r2⟩ := r1.atI e
      exact ⟨_, ix_tup, a1, vs, i, v, rfl, rfl, by rw [c.hK]; exact h1, e2, PD.ok p s r2⟩
  · dsimp only [ixD] at p
    rename_i i n
    cases e' : seqOf st n with
    | none => rw [e'] at p; exact p.elim
    | some ds =>
      rw [e'] at p
      obtain ⟨a1, vs, rfl, _, h1, r1⟩ := s.seq (ra.rd (fun _ z => nomatch z)) e'
      dsimp only at p
      cases e : L2.atI ds i with
      | none => rw [e] at p; exact p.elim
      | some d =>
        rw [e] at p
        obtain ⟨v, e2, r2⟩ := r1.atI e
        exact ⟨_, ix_list, a1, vs, i, v, rfl, rfl, by rw [c.hK]; exact h1, e2, PD.ok p s r2⟩
  · obtain ⟨a1, vs, rfl, h1, r1⟩ := ra.rd (fun _ z => nomatch z)
    dsimp only [ixD] at p
    rename_i i ds
    cases e : L2.atI ds i with
    | none => rw [e] at p; exact p.elim
    | some d =>
      rw [e] at p
      obtain ⟨v, e2, r2⟩ := r1.atI e
      exact ⟨_, ix_list, a1, vs, i, v, rfl, rfl, by rw [c.hK]; exact h1.sq, e2, PD.ok p s r2⟩
  · obtain ⟨a1, vs, rfl, hna, h1, r1⟩ := ra.ev
    dsimp only [ixD] at p
    rename_i i ds
    cases e : L2.atI ds i with
    | none => rw [e] at p; exact p.elim
    | some d =>
      rw [e] at p
      obtain ⟨v, e2, r2⟩ := r1.atI e
      exact ⟨_, ix_list, a1, vs, i, v, rfl, rfl, .inl (.inl h1), e2, PD.ok p s r2⟩
theorem oe_ix (c : Ck g X W) {a b : Expr} {Fa Fb : DE} {pos : Pos} (ha : OV g X W a Fa) (hb : OE g X W b Fb) (hs : PlainIx b := by exact fun _ _ => rfl) : OE g X W (.Subscript a b pos) (e2 ixD Fa Fb) :=
  ofE (pe_ix anyIx ha hb hs) fun σ H Q ⟨α, env, st, hE, hS, p⟩ => by
    refine tV.run hE hS (p.bind.imp fun d1 st1 α1 H1 x1 s1 q v1 r1 => ?_)
    refine tE.run (hE.mono x1) s1 (q.bind.imp fun d2 st2 α2 H2 x2 s2 q2 v2 r2 => ?_)
    exact ixD_ok c s2 (r1.mono x2) r2 q2
theorem oo_no : OO g X W none eNo := ⟨fun pins s σ H Q I ⟨α, env, st, hE, hS, p⟩ => po_none.run pins s σ H Q I (p.ok hS)⟩
theorem oo_part {e : Expr} {F : DE} (h : OE g X W e F) : OO g X W (some e) (ePart F) := ⟨fun pins s σ H Q I ⟨α, env, st, hE, hS, p⟩ => (po_some h).run pins s σ H Q I (by
    refine tE.run hE hS (p.bind.imp fun d1 st1 α1 H1 x1 s1 q v1 r1 => ?_)
    cases d1 <;> first | exact q.elim | skip
    cases r1
    exact ⟨_, rfl, q.ok s1⟩)⟩
theorem slD_ok (c : Ck g X W) {σ : L2.St} {a : D} {lo hi : Option Int} {x : V} {Q : VK} (s : StR g α st H) (ra : RD g α H a x) (p : PD g W σ α H (slD a lo hi st) Q) : ∃ r, SlR X r ∧ r x lo hi H Q := by
  cases a <;> first | exact p.elim | skip
  · cases ra
    dsimp only [slD] at p
    split at p
    · rename_i h
      exact ⟨_, sl_str, _, rfl, h, PD.ok p s rfl⟩
    · exact p.elim
  · obtain ⟨a1, vs, rfl, h1, r1⟩ := ra
    refine ⟨_, sl_tupA, a1, vs, rfl, by rw [c.hK]; exact h1, fun e => ?_, fun _ => PD.tup p s (r1.cut lo hi)⟩
    refine PD.ok p s ⟨a1, vs, rfl, h1, ?_⟩
    have := r1.cut lo hi
    have q : cutV vs lo hi = vs := by
      unfold cutV
      rw [e.1, e.2]
      simp
    rw [q] at this
    exact this
  · dsimp only [slD] at p
    rename_i n
    cases e' : seqOf st n with
    | none => rw [e'] at p; exact p.elim
    | some ds =>
      rw [e'] at p
      obtain ⟨a1, vs, rfl, _, h1, r1⟩ := s.seq ra e'
      exact ⟨_, sl_list, a1, vs, rfl, by rw [c.hK]; exact h1, PD.lst p s (r1.cut lo hi)⟩
  · obtain ⟨a1, vs, rfl, h1, r1⟩ := ra
    exact ⟨_, sl_list, a1, vs, rfl, by rw [c.hK]; exact h1.sq, PD.lst p s (r1.cut lo hi)⟩
theorem oe_sl (c : Ck g X W) {a : Expr} {lo hi : Option Expr} {Fa : DE} {Fl Fh : DO} {p2 pos : Pos} (ha : OE g X W a Fa) (hl : OO g X W lo Fl) (hh : OO g X W hi Fh) : OE g X W (.Subscript a (.Slice lo hi none p2) pos) (eSl Fa Fl Fh) :=
  ofE (pe_slice anySl ha hl hh) fun σ H Q ⟨α, env, st, hE, hS, p⟩ => by
    refine tE.run hE hS (p.bind.imp fun d1 st1 α1 H1 x1 s1 q v1 r1 => ?_)
    refine ⟨α1, env, st1, hE.mono x1, s1, q.bind.imp fun lo st2 α2 H2 x2 s2 q2 => ?_⟩
    refine ⟨α2, env, st2, (hE.mono x1).mono x2, s2, q2.bind.imp fun hi st3 α3 H3 x3 s3 q3 => ?_⟩
    exact slD_ok c s3 ((r1.mono x2).mono x3) q3
end

/-! ### argument lists, displays -/
def aNil : DA := fun _ st => .ok [] st
def aCons (F : DE) (G : DA) : DA := fun env st => (F env st).bind fun d st1 => (G env st1).bind fun ds st2 => .ok (d :: ds) st2
def eTup (G : DA) : DE := fun env st => (G env st).bind fun ds st1 => if ds.length ≤ sizeLine then .ok (.tup ds) st1 else .stuck
def eLst (G : DA) : DE := fun env st => (G env st).bind fun ds st1 => if ds.length ≤ sizeLine then new (.lst ds) st1 else .stuck
section
variable {g : Gd} {X : Cx} {W : WX}
theorem oa_nil : OA g X W [] aNil := ofA pa_nil fun σ H Q ⟨α, env, st, hE, hS, p⟩ => p.ok hS [] RDs.nil
theorem oa_cons {e : Expr} {es : List Expr} {F : DE} {G : DA} (h : OE g X W e F) (k : OA g X W es G) (hs : starEach (e :: es) X.env = (false, eval e X.env) :: starEach es X.env := by rfl) : OA g X W (e :: es) (aCons F G) :=
  ofA (pa_cons h k hs) fun σ H Q ⟨α, env, st, hE, hS, p⟩ => by
    refine tE.run hE hS (p.bind.imp fun d1 st1 α1 H1 x1 s1 q v1 r1 => ?_)
    refine tA.run (hE.mono x1) s1 (q.bind.imp fun d2 st2 α2 H2 x2 s2 q2 v2 r2 => ?_)
    exact q2.ok s2 _ (.cons (r1.mono x2) r2)
theorem oe_tup {es : List Expr} {G : DA} {k : Nat} {pos : Pos} (h : OA g X W es G) : OE g X W (.Tuple es k pos) (eTup G) :=
  ofE (pe_tup h) fun σ H Q ⟨α, env, st, hE, hS, p⟩ => by
    refine tA.run hE hS (p.bind.imp fun ds st1 α1 H1 x1 s1 q vs r => ?_)
    split at q
    · rename_i hl
      exact ⟨by rw [← r.length]; exact hl, PD.tup q s1 r⟩
    · exact q.elim
theorem oe_lst {es : List Expr} {G : DA} {pos : Pos} (h : OA g X W es G) : OE g X W (.List es pos) (eLst G) :=
  ofE (pe_lst h) fun σ H Q ⟨α, env, st, hE, hS, p⟩ => by
    refine tA.run hE hS (p.bind.imp fun ds st1 α1 H1 x1 s1 q vs r => ?_)
    split at q
    · rename_i hl
      exact ⟨by rw [← r.length]; exact hl, PD.lst q s1 r⟩
    · exact q.elim
end

/-! ### truth -/
def truD : D → Sto → Option Bool
  | .non, _ => some false
  | .bl b, _ => some b
  | .int i, _ => some (i != 0)
  | .str x, _ => if x.length ≤ sizeLine then some ((x.length : Int) != 0) else none
  | .tup ds, _ => some (!ds.isEmpty)
  | .obj n, st => match seqOf st n with
    | some ds => some (!ds.isEmpty)
    | none => (match st[n]? with | some (.dic kvs) => some (!kvs.isEmpty) | _ => none)
  | .kl ds, _ => some (!ds.isEmpty)
  | _, _ => none
def eAnd (Fa Fb : DE) : DE := fun env st => (Fa env st).bind fun a st1 => match truD a st1 with | some true => Fb env st1 | some false => .ok a st1 | none => .stuck
def eOr (Fa Fb : DE) : DE := fun env st => (Fa env st).bind fun a st1 => match truD a st1 with | some true => .ok a st1 | some false => Fb env st1 | none => .stuck
def eNot (Fa : DE) : DE := fun env st => (Fa env st).bind fun a st1 => match truD a st1 with | some b => .ok (.bl (!b)) st1 | none => .stuck
def tst (Fa : DE) : DT := fun env st => (Fa env st).bind fun a st1 => match truD a st1 with | some b => .ok b st1 | none => .stuck
def tstB (Fa : DE) : DT := fun env st => (Fa env st).bind fun a st1 => match a with | .bl b => .ok b st1 | _ => .stuck
def bAnd (Fa Fb : DT) : DT := fun env st => (Fa env st).bind fun a st1 => if a = true then Fb env st1 else .ok false st1
def bOr (Fa Fb : DT) : DT := fun env st => (Fa env st).bind fun a st1 => if a = true then .ok true st1 else Fb env st1
def bNot (Fa : DT) : DT := fun env st => (Fa env st).bind fun a st1 => .ok (!a) st1
def eIf (Fc : DT) (Fa Fb : DE) : DE := fun env st => (Fc env st).bind fun c st1 => if c = true then Fa env st1 else Fb env st1
def eChain (o o' : D → D → Sto → R D) (Fa Fb Fc : DE) : DE := fun env st => (Fa env st).bind fun a st1 => (Fb env st1).bind fun b st2 => (o a b st2).bind fun k st3 => match k with
  | .bl true => (Fc env st3).bind fun c st4 => o' b c st4
  | .bl false => .ok (.bl false) st3
  | _ => .stuck
section
variable {g : Gd} {X : Cx} {W : WX} {α : List Addr} {H : Hp} {st : Sto}
theorem RKs.empty : ∀ {ds : List (Key × D)} {vs : List (Key × V)}, RKs g α H ds vs → ds.isEmpty = vs.isEmpty
  | [], vs, h => by cases h; rfl
  | d :: ds, vs, h => by obtain ⟨v, r, rfl, _⟩ := h; rfl
theorem RDs.empty : ∀ {ds : List D} {vs : List V}, RDs g α H ds vs → ds.isEmpty = vs.isEmpty
  | [], vs, h => by cases h; rfl
  | d :: ds, vs, h => by obtain ⟨v, r, rfl, _⟩ := h; rfl
theorem tru_v (s : StR g α st H) {d : D} {v : V} {b : Bool} (h : RD g α H d v) (e : truD d st = some b) : TruV g.K v H b := by
  cases d with
  | non => cases e; cases h; rfl
  | bl => cases e; cases h; rfl
  | int => cases e; cases h; rfl
  | str x =>
    cases h
    dsimp only [truD] at e
    split at e
    · rename_i hl
      cases e
      exact ⟨hl, rfl⟩
    · cases e
  | tup ds =>
    cases e
    obtain ⟨a, vs, rfl, h1, h2⟩ := h
    exact .inr (.inl ⟨vs, h1, by rw [h2.empty]⟩)
  | obj n =>
    dsimp only [truD] at e
    split at e
    · rename_i ds e'
      cases e
      obtain ⟨a, vs, rfl, _, h1, h2⟩ := s.seq h e'
      exact .inl ⟨vs, h1, by rw [h2.empty]⟩
    · split at e
      · rename_i kvs e'
        cases e
        obtain ⟨a, rfl, ha⟩ := h
        obtain ⟨vs, h1, h2⟩ := s.ob n a _ ha e'
        exact .inr (.inr ⟨vs, h1, by rw [h2.empty]⟩)
      · cases e
  | fn => cases e
  | ty => cases e
  | kl ds =>
    cases e
    obtain ⟨a, vs, rfl, h1, h2⟩ := h
    exact .inl ⟨vs, h1.sq, by rw [h2.empty]⟩
  | ev ds => exact h.elim
variable {a b c0 : Expr} {rest : List Expr} {Fa Fb Fc : DE} {pos : Pos}
theorem oe_and (c : Ck g X W) (ha : OE g X W a Fa) (hb : OE g X W (.BoolOp .And (b :: rest) pos) Fb) : OE g X W (.BoolOp .And (a :: b :: rest) pos) (eAnd Fa Fb) :=
  ofE (pe_andT ha hb) fun σ H Q ⟨α, env, st, hE, hS, p⟩ => by
    refine tE.run hE hS (p.bind.imp fun d1 st1 α1 H1 x1 s1 q v1 r1 => ?_)
    split at q
    · rename_i e
      exact ⟨true, by rw [c.hK]; exact tru_v s1 r1 e, by rw [if_pos rfl]; exact tE.run (hE.mono x1) s1 q⟩
    · rename_i e
      exact ⟨false, by rw [c.hK]; exact tru_v s1 r1 e, by rw [if_neg Bool.false_ne_true]; exact q.ok s1 _ r1⟩
    · exact q.elim
theorem oe_or (c : Ck g X W) (ha : OE g X W a Fa) (hb : OE g X W (.BoolOp .Or (b :: rest) pos) Fb) : OE g X W (.BoolOp .Or (a :: b :: rest) pos) (eOr Fa Fb) :=
  ofE (pe_orT ha hb) fun σ H Q ⟨α, env, st, hE, hS, p⟩ => by
    refine tE.run hE hS (p.bind.imp fun d1 st1 α1 H1 x1 s1 q v1 r1 => ?_)
    split at q
    · rename_i e
      exact ⟨true, by rw [c.hK]; exact tru_v s1 r1 e, by rw [if_pos rfl]; exact q.ok s1 _ r1⟩
    · rename_i e
      exact ⟨false, by rw [c.hK]; exact tru_v s1 r1 e, by rw [if_neg Bool.false_ne_true]; exact tE.run (hE.mono x1) s1 q⟩
    · exact q.elim
theorem oe_one {op : BoolOp} (ha : OE g X W a Fa) : OE g X W (.BoolOp op [a] pos) Fa := pe_one ha
theorem oe_not (c : Ck g X W) (ha : OE g X W a Fa) : OE g X W (.UnaryOp .Not a pos) (eNot Fa) :=
  ofE (pe_notT ha) fun σ H Q ⟨α, env, st, hE, hS, p⟩ => by
    refine tE.run hE hS (p.bind.imp fun d1 st1 α1 H1 x1 s1 q v1 r1 => ?_)
    split at q
    · rename_i k e
      exact ⟨k, by rw [c.hK]; exact tru_v s1 r1 e, q.ok s1 _ rfl⟩
    · exact q.elim
theorem oe_chain {op op' : CmpOp} {o o' : D → D → Sto → R D} (h : Op2 g X W (compareOp op) o) (h' : Op2 g X W (compareOp op') o') (ha : OV g X W a Fa) (hb : OV g X W b Fb) (hc : OV g X W c0 Fc)
    (hm : lastMarks [op, op'] [b, c0] = false := by with_unfolding_all rfl) : OE g X W (.Compare a [op, op'] [b, c0] pos) (eChain o o' Fa Fb Fc) :=
  ofE (pe_chain any2 any2 ha hb hc hm) fun σ H Q ⟨α, env, st, hE, hS, p⟩ => by
    refine tV.run hE hS (p.bind.imp fun d1 st1 α1 H1 x1 s1 q v1 r1 => ?_)
    refine tV.run (hE.mono x1) s1 (q.bind.imp fun d2 st2 α2 H2 x2 s2 q2 v2 r2 => ?_)
    refine h σ α2 H2 st2 d1 d2 v1 v2 _ s2 (r1.mono x2) r2 (q2.bind.imp fun k st3 α3 H3 x3 s3 q3 v3 r3 => ?_)
    split at q3
    · cases r3
      refine ⟨true, rfl, ?_⟩
      rw [if_pos rfl]
      refine tV.run (((hE.mono x1).mono x2).mono x3) s3 (q3.bind.imp fun d4 st4 α4 H4 x4 s4 q4 v4 r4 => ?_)
      exact h' σ α4 H4 st4 d2 d4 v2 v4 Q s4 ((r2.mono x3).mono x4) r4 q4
    · cases r3
      refine ⟨false, rfl, ?_⟩
      rw [if_neg Bool.false_ne_true]
      exact q3.ok s3 _ rfl
    · exact q3.elim
/-! tests -/
theorem ot_val (c : Ck g X W) (ha : OE g X W a Fa) (he : ∀ whole, isTrue a X.env whole = (do let v ← whole; standAt a.pos; holding [v] (truthy v)) := by intro _; rfl) : OT g X W a (tst Fa) :=
  ofT (pt_truth ha he) fun σ H Q ⟨α, env, st, hE, hS, p⟩ => by
    refine tE.run hE hS (p.bind.imp fun d1 st1 α1 H1 x1 s1 q v1 r1 => ?_)
    split at q
    · rename_i k e
      exact ⟨k, by rw [c.hK]; exact tru_v s1 r1 e, q.ok s1⟩
    · exact q.elim
theorem ot_cmp {op : CmpOp} {o : D → D → Sto → R D} (h : Op2 g X W (compareOp op) o) (ha : OV g X W a Fa) (hb : OV g X W b Fb) (hm : behindInMarks op b = false := by rfl) : OT g X W (.Compare a [op] [b] pos) (tstB (e2 o Fa Fb)) :=
  ofT (pt_cmpR any2 ha hb hm) fun σ H Q ⟨α, env, st, hE, hS, p⟩ => two h σ H _ (tE.run hE hS (p.bind.imp fun d1 st1 α1 H1 x1 s1 q v1 r1 => by
    cases d1 <;> first | exact q.elim | skip
    cases r1
    exact ⟨_, rfl, q.ok s1⟩))
theorem ot_chain {op op' : CmpOp} {o o' : D → D → Sto → R D} (h : Op2 g X W (compareOp op) o) (h' : Op2 g X W (compareOp op') o') (ha : OV g X W a Fa) (hb : OV g X W b Fb) (hc : OV g X W c0 Fc)
    (hm : lastMarks [op, op'] [b, c0] = false := by with_unfolding_all rfl) : OT g X W (.Compare a [op, op'] [b, c0] pos) (tstB (eChain o o' Fa Fb Fc)) :=
  ofT (pt_chain any2 any2 ha hb hc hm) fun σ H Q ⟨α, env, st, hE, hS, p⟩ => by
    have p1 : tE g W (eChain o o' Fa Fb Fc) σ H fun v H' => ∃ k, v = .bl k ∧ Q k H' := tE.run hE hS (p.bind.imp fun d1 st1 α1 H1 x1 s1 q v1 r1 => by
      cases d1 <;> first | exact q.elim | skip
      cases r1
      exact ⟨_, rfl, q.ok s1⟩)
    obtain ⟨α, env, st, hE, hS, p⟩ := p1
    refine tV.run hE hS (p.bind.imp fun d1 st1 α1 H1 x1 s1 q v1 r1 => ?_)
    refine tV.run (hE.mono x1) s1 (q.bind.imp fun d2 st2 α2 H2 x2 s2 q2 v2 r2 => ?_)
    refine h σ α2 H2 st2 d1 d2 v1 v2 _ s2 (r1.mono x2) r2 (q2.bind.imp fun k st3 α3 H3 x3 s3 q3 v3 r3 => ?_)
    split at q3
    · cases r3
      refine ⟨true, rfl, ?_⟩
      rw [if_pos rfl]
      refine tV.run (((hE.mono x1).mono x2).mono x3) s3 (q3.bind.imp fun d4 st4 α4 H4 x4 s4 q4 v4 r4 => ?_)
      exact h' σ α4 H4 st4 d2 d4 v2 v4 _ s4 ((r2.mono x3).mono x4) r4 q4
    · cases r3
      refine ⟨false, rfl, ?_⟩
      rw [if_neg Bool.false_ne_true]
      exact q3.ok s3 _ rfl
    · exact q3.elim
def OW (g : Gd) (X : Cx) (W : WX) (e : Expr) (F : DT) : Prop := PW X e (tT g W F)
variable {Ga Gb : DT}
theorem OW.ot (h : OW g X W a Ga) : OT g X W a Ga := PW.pt h
theorem ow_and1 (ha : OT g X W a Ga) : OW g X W (.BoolOp .And [a] pos) Ga := pw_and1 ha
theorem ow_or1 (ha : OT g X W a Ga) : OW g X W (.BoolOp .Or [a] pos) Ga := pw_or1 ha
theorem ow_and (ha : OT g X W a Ga) (hb : OW g X W (.BoolOp .And (b :: rest) pos) Gb) : OW g X W (.BoolOp .And (a :: b :: rest) pos) (bAnd Ga Gb) :=
  ofW (pw_and ha hb) fun σ H Q ⟨α, env, st, hE, hS, p⟩ => by
    refine tT.run hE hS (p.bind.imp fun k st1 α1 H1 x1 s1 q => ?_)
    split at q
    · rename_i e
      rw [if_pos e]
      exact tT.run (hE.mono x1) s1 q
    · rename_i e
      rw [if_neg e]
      exact q.ok s1
theorem ow_or (ha : OT g X W a Ga) (hb : OW g X W (.BoolOp .Or (b :: rest) pos) Gb) : OW g X W (.BoolOp .Or (a :: b :: rest) pos) (bOr Ga Gb) :=
  ofW (pw_or ha hb) fun σ H Q ⟨α, env, st, hE, hS, p⟩ => by
    refine tT.run hE hS (p.bind.imp fun k st1 α1 H1 x1 s1 q => ?_)
    split at q
    · rename_i e
      rw [if_pos e]
      exact q.ok s1
    · rename_i e
      rw [if_neg e]
      exact tT.run (hE.mono x1) s1 q
theorem ot_not (ha : OT g X W a Ga) : OT g X W (.UnaryOp .Not a pos) (bNot Ga) :=
  ofT (pt_not ha) fun σ H Q ⟨α, env, st, hE, hS, p⟩ => tT.run hE hS (p.bind.imp fun k st1 α1 H1 x1 s1 q => q.ok s1)
theorem oe_if {c1 : Expr} (hc : OT g X W c1 Ga) (ha : OE g X W a Fa) (hb : OE g X W b Fb) : OE g X W (.IfExp c1 a b pos) (eIf Ga Fa Fb) :=
  ofE (pe_ifExp hc ha hb) fun σ H Q ⟨α, env, st, hE, hS, p⟩ => by
    refine tT.run hE hS (p.bind.imp fun k st1 α1 H1 x1 s1 q => ?_)
    split at q
    · rename_i e
      rw [if_pos e]
      exact tE.run (hE.mono x1) s1 q
    · rename_i e
      rw [if_neg e]
      exact tE.run (hE.mono x1) s1 q
end
end Mi

namespace Mi
open PySem L2

/-! ### likeness of data, as written -/
mutual
def beqD : D → D → Bool
  | .non, .non => true
  | .bl a, .bl b => a == b
  | .int a, .int b => decide (a = b)
  | .str a, .str b => decide (a = b)
  | .tup a, .tup b => beqDs a b
  | .obj a, .obj b => decide (a = b)
  | .fn a, .fn b => decide (a = b)
  | .ty a, .ty b => decide (a = b)
  | .kl a, .kl b => beqDs a b
  | .ev a, .ev b => beqDs a b
  | _, _ => false
def beqDs : List D → List D → Bool
  | [], [] => true
  | a :: as, b :: bs => beqD a b && beqDs as bs
  | _, _ => false
end
mutual
theorem beqD_eq : ∀ {a b : D}, beqD a b = true → a = b
  | .non, b, h => by cases b <;> simp [beqD] at h; rfl
  | .bl x, b, h => by cases b <;> simp [beqD] at h; subst h; rfl
  | .int x, b, h => by cases b <;> simp [beqD] at h; subst h; rfl
  | .str x, b, h => by cases b <;> simp [beqD] at h; subst h; rfl
  | .tup x, b, h => by cases b <;> simp [beqD] at h; rw [beqDs_eq h]
  | .obj x, b, h => by cases b <;> simp [beqD] at h; subst h; rfl
  | .fn x, b, h => by cases b <;> simp [beqD] at h; subst h; rfl
  | .ty x, b, h => by cases b <;> simp [beqD] at h; subst h; rfl
  | .kl x, b, h => by cases b <;> simp [beqD] at h; rw [beqDs_eq h]
  | .ev x, b, h => by cases b <;> simp [beqD] at h; rw [beqDs_eq h]
theorem beqDs_eq : ∀ {a b : List D}, beqDs a b = true → a = b
  | [], b, h => by cases b <;> simp [beqDs] at h; rfl
  | x :: xs, b, h => by
    cases b with
    | nil => simp [beqDs] at h
    | cons y ys =>
      simp [beqDs] at h
      rw [beqD_eq h.1, beqDs_eq h.2]
end
mutual
theorem beqD_refl : ∀ a : D, beqD a a = true
  | .non => rfl
  | .bl x => by simp [beqD]
  | .int x => by simp [beqD]
  | .str x => by simp [beqD]
  | .tup x => by simp [beqD, beqDs_refl x]
  | .obj x => by simp [beqD]
  | .fn x => by simp [beqD]
  | .ty x => by simp [beqD]
  | .kl x => by simp [beqD, beqDs_refl x]
  | .ev x => by simp [beqD, beqDs_refl x]
theorem beqDs_refl : ∀ a : List D, beqDs a a = true
  | [] => rfl
  | x :: xs => by simp [beqDs, beqD_refl x, beqDs_refl xs]
end
/-- lists that must stay while they are walked -/
abbrev Wat := List (Nat × List D)
def okW : Wat → Sto → Bool
  | [], _ => true
  | (n, ds) :: r, st => (match seqOf st n with | some es => beqDs ds es | none => false) && okW r st
theorem okW_one {n : Nat} {ds : List D} {r : Wat} {st : Sto} (h : okW ((n, ds) :: r) st = true) : seqOf st n = some ds ∧ okW r st = true := by
  rw [okW, Bool.and_eq_true] at h
  refine ⟨?_, h.2⟩
  have h1 := h.1
  split at h1
  · rename_i es e
    rw [e, beqDs_eq h1]
  · cases h1
theorem okW_nil (st : Sto) : okW [] st = true := rfl
theorem okW_of {n : Nat} {ds : List D} {st : Sto} (h : seqOf st n = some ds) : okW [(n, ds)] st = true := by
  rw [okW, h]
  simp [beqDs_refl, okW]

/-! ### statements -/
inductive RS where
  | nx (env : Env) (st : Sto)
  | rt (d : D) (st : Sto)
  | bk (env : Env) (st : Sto)
  | ct (env : Env) (st : Sto)
  | exc (c : Nat) (fs : List (Str × D)) (env : Env) (st : Sto)
  | stuck
def PostS (g : Gd) (W : WX) (α : List Addr) (H : Hp) (r : RS) (E : Ends) : Prop := match r with
  | .nx env st => ∀ α' H' σ', Ext α H α' H' → StR g α' st H' → EnvR g α' H' env σ' → E.nx σ' H'
  | .rt d st => ∀ α' H' v, Ext α H α' H' → StR g α' st H' → RD g α' H' d v → E.rt v H'
  | .bk env st => ∀ α' H' σ', Ext α H α' H' → StR g α' st H' → EnvR g α' H' env σ' → E.bk σ' H'
  | .ct env st => ∀ α' H' σ', Ext α H α' H' → StR g α' st H' → EnvR g α' H' env σ' → E.ct σ' H'
  | .exc c fs env st => ∀ α' H' cls dx σ', Ext α H α' H' → StR g α' st H' → EnvR g α' H' env σ' → XR g α' H' c fs cls dx → W cls dx σ' H'
  | .stuck => False
abbrev DS := Env → Sto → RS
def tS (g : Gd) (W : WX) (F : DS) : TS := fun E σ H => ∃ α env st, EnvR g α H env σ ∧ StR g α st H ∧ PostS g W α H (F env st) E
def OS (g : Gd) (X : Cx) (W : WX) (s : Stmt) (F : DS) : Prop := PS X s (tS g W F)
def OSs (g : Gd) (X : Cx) (W : WX) (s : List Stmt) (F : DS) : Prop := PSs X s (tS g W F)
def bindS {β : Type} (r : R β) (env : Env) (k : β → Sto → RS) : RS := match r with
  | .ok b st => k b st
  | .exc c fs st => .exc c fs env st
  | .stuck => .stuck
@[simp] theorem bindS_ok {β : Type} (b : β) (st : Sto) (env : Env) (k : β → Sto → RS) : bindS (R.ok b st) env k = k b st := rfl
@[simp] theorem bindS_stuck {β : Type} (env : Env) (k : β → Sto → RS) : bindS (R.stuck : R β) env k = .stuck := rfl
@[simp] theorem bindS_exc {β : Type} (c fs st) (env : Env) (k : β → Sto → RS) : bindS (R.exc c fs st : R β) env k = .exc c fs env st := rfl
section
variable {g : Gd} {W : WX} {α α' : List Addr} {H H' : Hp} {E E' : Ends} {r : RS} {env : Env} {σ : L2.St}
theorem PostS.mono (e : Ext α H α' H') (h : PostS g W α H r E) : PostS g W α' H' r E := by
  cases r with
  | nx env st => exact fun α2 H2 σ2 f => h α2 H2 σ2 (e.trans f)
  | rt d st => exact fun α2 H2 σ2 f => h α2 H2 σ2 (e.trans f)
  | bk env st => exact fun α2 H2 σ2 f => h α2 H2 σ2 (e.trans f)
  | ct env st => exact fun α2 H2 σ2 f => h α2 H2 σ2 (e.trans f)
  | exc c fs env st => exact fun α2 H2 cls dx σ2 f => h α2 H2 cls dx σ2 (e.trans f)
  | stuck => exact h
theorem PostS.bind {β : Type} {q : R β} {k : β → Sto → RS} (hE : EnvR g α H env σ) (h : PostS g W α H (bindS q env k) E) :
    Post g W σ α H q (fun b st α' H' => PostS g W α' H' (k b st) E) := by
  cases q with
  | ok b st => exact fun α' H' e s => PostS.mono e h
  | exc c fs st => exact fun α' H' cls dx e s x => h α' H' cls dx σ e s (hE.mono e) x
  | stuck => exact h
end
def sNil : DS := fun env st => .nx env st
def sSeq (F G : DS) : DS := fun env st => match F env st with
  | .nx env1 st1 => G env1 st1
  | r => r
def sRet (F : DE) : DS := fun env st => bindS (F env st) env fun d st1 => .rt d st1
def sRetN : DS := fun env st => .rt .non st
def sIf (c : DT) (F G : DS) : DS := fun env st => bindS (c env st) env fun b st1 => if b = true then F env st1 else G env st1
def sExpr (F : DE) : DS := fun env st => bindS (F env st) env fun _ st1 => .nx env st1
def sBreak : DS := fun env st => .bk env st
def sCont : DS := fun env st => .ct env st
section
variable {g : Gd} {X : Cx} {W : WX} {s : Stmt} {ss : List Stmt} {F G : DS} {pos : Pos}
theorem os_nil : OSs g X W [] sNil := ofSs pss_nil fun E σ H ⟨α, env, st, hE, hS, p⟩ => p α H σ (Ext.refl α H) hS hE
theorem os_cons (h : OS g X W s F) (k : OSs g X W ss G) : OSs g X W (s :: ss) (sSeq F G) :=
  ofSs (pss_cons h k) fun E σ H ⟨α, env, st, hE, hS, p⟩ => by
    refine ⟨α, env, st, hE, hS, ?_⟩
    unfold sSeq at p
    cases q : F env st with
    | nx env1 st1 =>
      rw [q] at p
      exact fun α' H' σ' e s r => ⟨α', env1, st1, r, s, PostS.mono e p⟩
    | rt d st1 => rw [q] at p; exact p
    | bk env1 st1 => rw [q] at p; exact p
    | ct env1 st1 => rw [q] at p; exact p
    | exc c fs env1 st1 => rw [q] at p; exact p
    | stuck => rw [q] at p; exact p
theorem os_pass : OS g X W (.Pass pos) sNil := ofS ps_pass fun E σ H ⟨α, env, st, hE, hS, p⟩ => p α H σ (Ext.refl α H) hS hE
theorem os_break : OS g X W (.Break pos) sBreak := ofS ps_break fun E σ H ⟨α, env, st, hE, hS, p⟩ => p α H σ (Ext.refl α H) hS hE
theorem os_cont : OS g X W (.Continue pos) sCont := ofS ps_continue fun E σ H ⟨α, env, st, hE, hS, p⟩ => p α H σ (Ext.refl α H) hS hE
theorem os_ret {e : Expr} {F : DE} (h : OE g X W e F) : OS g X W (.Return (some e) pos) (sRet F) :=
  ofS (ps_ret h) fun E σ H ⟨α, env, st, hE, hS, p⟩ => tE.run hE hS ((p.bind hE).imp fun d st1 α1 H1 x1 s1 q v r => q α1 H1 v (Ext.refl _ _) s1 r)
theorem os_retN : OS g X W (.Return none pos) sRetN := ofS ps_retN fun E σ H ⟨α, env, st, hE, hS, p⟩ => p α H .non (Ext.refl _ _) hS rfl
theorem os_if {c : Expr} {C : DT} {a b : List Stmt} (hc : OT g X W c C) (ha : OSs g X W a F) (hb : OSs g X W b G) : OS g X W (.If c a b pos) (sIf C F G) :=
  ofS (ps_if hc ha hb) fun E σ H ⟨α, env, st, hE, hS, p⟩ => tT.run hE hS ((p.bind hE).imp fun k st1 α1 H1 x1 s1 q => by
    split at q
    · rename_i e
      rw [if_pos e]
      exact ⟨α1, env, st1, hE.mono x1, s1, q⟩
    · rename_i e
      rw [if_neg e]
      exact ⟨α1, env, st1, hE.mono x1, s1, q⟩)
theorem os_expr {e : Expr} {F : DE} (h : OE g X W e F) (hs : swapsWith e none pos.line X.env = pure false := by rfl) : OS g X W (.Expr e pos) (sExpr F) :=
  ofS (ps_expr h hs) fun E σ H ⟨α, env, st, hE, hS, p⟩ => tE.run hE hS ((p.bind hE).imp fun d st1 α1 H1 x1 s1 q v r => q α1 H1 σ (Ext.refl _ _) s1 (hE.mono x1))
end

/-! ### targets: a name, some names -/
inductive Tg where
  | nm (i : Nat)
  | tp (is : List Nat)
def setAll {β : Type} (env : List (Option β)) : List Nat → List β → List (Option β)
  | i :: is, d :: ds => setAll (env.set i (some d)) is ds
  | _, _ => env
def bindT : Tg → D → Env → Option Env
  | .nm i, d, env => some (env.set i (some d))
  | .tp is, .tup ds, env => if ds.length = is.length then some (setAll env is ds) else none
  | _, _, _ => none
def gNames : List Nat → TGs
  | [] => gNil
  | i :: is => gCons (gName i) (gNames is)
def tgV (K : PySem.W.Frag) : Tg → TG
  | .nm i => gName i
  | .tp is => gTup K is.length (gNames is)
def Tg.slots : Tg → List Nat
  | .nm i => [i]
  | .tp is => is
theorem wipe_get (σ : L2.St) (j : Nat) : ∀ vs : List Nat, (wipe σ vs)[j]? = if j ∈ vs ∧ j < σ.length then some none else σ[j]?
  | [] => by simp [wipe]
  | v :: vs => by
    have ih := wipe_get σ j vs
    unfold wipe
    by_cases h : v = j
    · subst h
      by_cases hl : v < σ.length
      · rw [List.getElem?_set_self (by rw [wipe_length]; exact hl)]
        simp [hl]
      · rw [List.getElem?_eq_none (by rw [List.length_set, wipe_length]; omega)]
        simp [hl]
    · rw [List.getElem?_set_ne h, ih]
      have : (j ∈ v :: vs) ↔ j ∈ vs := by simp [Ne.symm h]
      simp only [this]
theorem wipe_set {σ : L2.St} {i : Nat} {x : Option V} {vs : List Nat} (h : i ∈ vs) : wipe (σ.set i x) vs = wipe σ vs := by
  apply List.ext_getElem?
  intro j
  rw [wipe_get, wipe_get, List.length_set]
  by_cases hj : i = j
  · subst hj
    by_cases hl : i < σ.length
    · simp [h, hl]
    · simp [hl]
  · rw [List.getElem?_set_ne hj]
theorem wipe_setAll : ∀ (is : List Nat) (xs : List V) {σ : L2.St} {vs : List Nat}, (∀ i ∈ is, i ∈ vs) → wipe (setAll σ is xs) vs = wipe σ vs
  | [], _, _, _, _ => by simp [setAll]
  | i :: is, [], _, _, _ => by simp [setAll]
  | i :: is, x :: xs, σ, vs, h => by
    rw [setAll, wipe_setAll is xs fun j hj => h j (List.mem_cons_of_mem _ hj), wipe_set (h i List.mem_cons_self)]
section
variable {g : Gd} {α : List Addr} {H : Hp} {env : Env} {σ : L2.St}
theorem setAll_r : ∀ (is : List Nat) {ds : List D} {vs : List V} {env : Env} {σ : L2.St}, EnvR g α H env σ → RDs g α H ds vs → ds.length = is.length → EnvR g α H (setAll env is ds) (setAll σ is vs) ∧ ∀ Q, Q (setAll σ is vs) H → gNames is vs σ H Q
  | [], ds, vs, env, σ, hE, h, hl => by
    have : ds = [] := List.length_eq_zero_iff.mp hl
    subst this
    cases h
    exact ⟨hE, fun Q q => ⟨rfl, q⟩⟩
  | i :: is, ds, vs, env, σ, hE, h, hl => by
    cases ds with
    | nil => cases hl
    | cons d ds =>
      obtain ⟨v, r, rfl, h1, h2⟩ := h
      obtain ⟨k1, k2⟩ := setAll_r is (hE.set i h1) h2 (by simpa using hl)
      exact ⟨k1, fun Q q => ⟨v, r, rfl, k2 Q q⟩⟩
theorem bindT_ok {K : PySem.W.Frag} (hK : K = g.K) {t : Tg} {d : D} {v : V} {env1 : Env} (hE : EnvR g α H env σ) (h : RD g α H d v) (e : bindT t d env = some env1) :
    ∃ σ1, EnvR g α H env1 σ1 ∧ (∀ Q, Q σ1 H → tgV K t v σ H Q) ∧ ∀ vs : List Nat, (∀ i ∈ t.slots, i ∈ vs) → wipe σ1 vs = wipe σ vs := by
  cases t with
  | nm i =>
    cases e
    exact ⟨_, hE.set i h, fun Q q => q, fun vs hv => wipe_set (hv i (by simp [Tg.slots]))⟩
  | tp is =>
    cases d <;> simp only [bindT] at e <;> try cases e
    rename_i ds
    split at e
    · rename_i hl
      cases e
      obtain ⟨a, vs, rfl, h1, h2⟩ := h
      obtain ⟨k1, k2⟩ := setAll_r is hE h2 hl
      exact ⟨_, k1, fun Q q => ⟨a, vs, rfl, by rw [hK]; exact h1, by rw [← h2.length]; exact hl, k2 Q q⟩, fun vs' hv => wipe_setAll is vs hv⟩
    · cases e
end
def OG (X : Cx) (e : Expr) (t : Tg) : Prop := PG X e (tgV X.K t)
def OGs (X : Cx) (es : List Expr) (is : List Nat) : Prop := PGs X es (gNames is)
section
variable {X : Cx} {pos : Pos}
theorem og_nm {i : Nat} {x : Str} (hN : X.N.Nodup) (hi : X.N[i]? = some x := by rfl) (hx : Loc X.env.scope x := by first | exact Or.inl rfl | exact Or.inr rfl) (hf : X.fn x = true ∨ X.env.scope.names.lookup x = some .local := by first | exact .inl rfl | exact .inr rfl) : OG X (.Name x pos) (.nm i) := pg_name hN hi hx hf
theorem ogs_nil : OGs X [] [] := pgs_nil
theorem ogs_cons {i : Nat} {x : Str} {es : List Expr} {is : List Nat} (hN : X.N.Nodup) (h : OGs X es is) (hi : X.N[i]? = some x := by rfl) (hx : Loc X.env.scope x := by first | exact Or.inl rfl | exact Or.inr rfl)
    (hf : X.fn x = true ∨ X.env.scope.names.lookup x = some .local := by first | exact .inl rfl | exact .inr rfl) (hs : (assignEach (.Name x pos :: es) X.env).map (·.2) = assign (.Name x pos) X.env :: (assignEach es X.env).map (·.2) := by rfl) : OGs X (.Name x pos :: es) (i :: is) :=
  pgs_cons (pg_name hN hi hx hf) h hs
theorem og_tp {es : List Expr} {is : List Nat} {k : Nat} (hc : X.calm = true) (h : OGs X es is) (hn : (assignEach es X.env).length = is.length := by rfl) (hst : (assignEach es X.env).findIdx? (·.1) = none := by rfl) : OG X (.Tuple es k pos) (.tp is) :=
  pg_tup hc h hn hst
end
def sAsg (t : Tg) (F : DE) : DS := fun env st => bindS (F env st) env fun d st1 => match bindT t d env with | some env1 => .nx env1 st1 | none => .stuck
section
variable {g : Gd} {X : Cx} {W : WX} {pos : Pos}
theorem asg_step (c : Ck g X W) {t : Tg} {F : DE} : ∀ E σ H, tS g W (sAsg t F) E σ H → tAsg (tE g W F) (tgV X.K t) E σ H := fun E σ H ⟨α, env, st, hE, hS, p⟩ => by
  refine tE.run hE hS ((p.bind hE).imp fun d st1 α1 H1 x1 s1 q v r => ?_)
  split at q
  · rename_i env1 e
    obtain ⟨σ1, k1, k2, _⟩ := bindT_ok c.hK (hE.mono x1) r e
    exact k2 _ (q α1 H1 σ1 (Ext.refl _ _) s1 k1)
  · exact q.elim
theorem os_set (c : Ck g X W) {i : Nat} {x : Str} {e : Expr} {F : DE} {pos' : Pos} (h : OE g X W e F) (hi : X.N[i]? = some x := by rfl) (hx : Loc X.env.scope x := by first | exact Or.inl rfl | exact Or.inr rfl)
    (hs : swapsWith e (some (.Name x pos')) pos.line X.env = pure false := by rfl) (hf : X.fn x = true ∨ X.env.scope.names.lookup x = some .local := by first | exact .inl rfl | exact .inr rfl) : OS g X W (.Assign [.Name x pos'] e pos) (sAsg (.nm i) F) :=
  ofS (ps_set c.nd hi hx h hs hf) (asg_step c)
theorem os_asg (c : Ck g X W) {tg e : Expr} {t : Tg} {F : DE} (h : OE g X W e F) (k : OG X tg t) (hs : swapsWithSole [tg] e pos.line X.env = pure false := by rfl) (hw : swappedStores [tg] e X.env = pure none := by rfl)
    (h1 : (assignEach [tg] X.env).map (·.2) = [assign tg X.env] := by rfl) : OS g X W (.Assign [tg] e pos) (sAsg t F) :=
  ofS (ps_asg h k hs hw h1) (asg_step c)
end
end Mi

namespace Mi
open PySem L2

/-! ### what is walked -/
structure ItR (g : Gd) (J : It) (ds : List D) (w : Wat) (α0 : List Addr) (H0 : Hp) : Prop where
  go : ∀ i α H st, Ext α0 H0 α H → StR g α st H → okW w st = true → i < ds.length → J.go i H
  yl : ∀ i α H st x H', Ext α0 H0 α H → StR g α st H → okW w st = true → J.yld i H x H' → ∀ d, ds[i]? = some d → Ext α H α H' ∧ StR g α st H' ∧ RD g α H' d x
  stop : ∀ i α H st, Ext α0 H0 α H → StR g α st H → okW w st = true → ds.length ≤ i → J.stop i H
abbrev DIt := Env → Sto → R (List D × Wat)
def tI (g : Gd) (W : WX) (F : DIt) : TI := fun σ H S => ∃ α env st, EnvR g α H env σ ∧ StR g α st H ∧ Post g W σ α H (F env st) fun p _ α' H' => ∀ J, ItR g J p.1 p.2 α' H' → S J H'
def OI (g : Gd) (X : Cx) (W : WX) (tg e : Expr) (F : DIt) : Prop := PI X tg e (tI g W F)
def signs (x : Str) : List D := x.cps.toList.map fun c => .str ⟨#[c]⟩
def iterD : D → Sto → Option (List D × Wat)
  | .tup ds, _ => some (ds, [])
  | .str x, _ => some (signs x, [])
  | .obj n, st => match seqOf st n with | some ds => some (ds, [(n, ds)]) | none => none
  | .kl ds, _ => some (ds, [])
  | _, _ => none
def iVal (F : DE) : DIt := fun env st => (F env st).bind fun d st1 => match iterD d st1 with | some p => .ok p st1 | none => .stuck
/-- an expression that makes a new list of items; one that tells a list or a tuple of items -/
def tL (g : Gd) (W : WX) (F : DA) : TE := fun σ H Q => ∃ α env st, EnvR g α H env σ ∧ StR g α st H ∧ Post g W σ α H (F env st) fun ds _ α' H' => ∀ a vs, H a = none → a ∉ α' → H' a = some (.lst vs) → RDs g α' H' ds vs → Q (.ref a) H'
def OL (g : Gd) (X : Cx) (W : WX) (e : Expr) (F : DA) : Prop := PE X e (tL g W F)
def eEv (F : DA) : DE := fun env st => (F env st).bind fun ds st1 => .ok (.ev ds) st1
theorem OL.v {g : Gd} {X : Cx} {W : WX} {e : Expr} {F : DA} (h : OL g X W e F) : OV g X W e (eEv F) := ofE h fun σ H Q ⟨α, env, st, hE, hS, p⟩ =>
  ⟨α, env, st, hE, hS, p.bind.imp fun ds st1 α1 H1 x1 s1 q a vs _ hn ha r => q.ok s1 _ (.inr ⟨ds, a, vs, rfl, rfl, hn, ha, r⟩)⟩
def iEph (F : DA) : DIt := fun env st => (F env st).bind fun ds st1 => .ok (ds, []) st1
section
variable {g : Gd} {X : Cx} {W : WX} {tg e : Expr} {F : DE} {α0 : List Addr} {H0 : Hp}
theorem it_tup {a : Addr} {vs : List V} {ds : List D} (h : SqT g.K H0 a vs) (r : RDs g α0 H0 ds vs) : ItR g (Itt g.K a) ds [] α0 H0 where
  go := fun i α H st x s _ hi => ⟨vs, vs[i]'(by rw [← r.length]; exact hi), x.sqt h, List.getElem?_eq_getElem _⟩
  yl := fun i α H st v H' x s _ ⟨e, y⟩ d hd => by
    subst e
    obtain ⟨u, h1, h2⟩ := r.get hd
    have := y vs (x.sqt h)
    rw [h1] at this
    cases this
    exact ⟨Ext.refl _ _, s, h2.mono x⟩
  stop := fun i α H st x s _ hi => ⟨vs, x.sqt h, by rw [← r.length]; exact hi⟩
theorem it_str (x : Str) : ItR g (Its x) (signs x) [] α0 H0 where
  go := fun i α H st _ s _ hi => by
    simp [signs] at hi
    exact hi
  yl := fun i α H st v H' _ s _ ⟨e, cc, h1, h2⟩ d hd => by
    subst e h2
    refine ⟨Ext.refl _ _, s, ?_⟩
    have : (signs x)[i]? = some (.str ⟨#[cc]⟩) := by
      unfold signs
      rw [List.getElem?_map, Array.getElem?_toList, h1]
      rfl
    rw [this] at hd
    cases hd
    rfl
  stop := fun i α H st _ s _ hi => by
    simp [signs] at hi
    exact hi
theorem it_obj {n : Nat} {a : Addr} {ds : List D} (ha : α0[n]? = some a) : ItR g (Itl g.K a) ds [(n, ds)] α0 H0 where
  go := fun i α H st x s ok hi => by
    obtain ⟨b, vs, e1, _, h1, r⟩ := s.seq (v := .ref a) ⟨a, rfl, x.at ha⟩ (okW_one ok).1
    cases e1
    exact ⟨vs, vs[i]'(by rw [← r.length]; exact hi), h1, List.getElem?_eq_getElem _⟩
  yl := fun i α H st v H' x s ok ⟨e, y⟩ d hd => by
    subst e
    obtain ⟨b, vs, e1, _, h1, r⟩ := s.seq (v := .ref a) ⟨a, rfl, x.at ha⟩ (okW_one ok).1
    cases e1
    obtain ⟨u, h2, h3⟩ := r.get hd
    have := y vs h1
    rw [h2] at this
    cases this
    exact ⟨Ext.refl _ _, s, h3⟩
  stop := fun i α H st x s ok hi => by
    obtain ⟨b, vs, e1, _, h1, r⟩ := s.seq (v := .ref a) ⟨a, rfl, x.at ha⟩ (okW_one ok).1
    cases e1
    exact ⟨vs, h1, by rw [← r.length]; exact hi⟩
theorem it_eph {a : Addr} {vs : List V} {ds : List D} (ha : H0 a = some (.lst vs)) (hn : a ∉ α0) (r : RDs g α0 H0 ds vs) : ItR g (Itl g.K a) ds [] α0 H0 where
  go := fun i α H st x s ok hi => ⟨vs, vs[i]'(by rw [← r.length]; exact hi), .inl (.inl (x.keep _ _ ha hn)), List.getElem?_eq_getElem _⟩
  yl := fun i α H st v H' x s ok ⟨e, y⟩ d hd => by
    subst e
    obtain ⟨u, h2, h3⟩ := r.get hd
    have := y vs (.inl (.inl (x.keep _ _ ha hn)))
    rw [h2] at this
    cases this
    exact ⟨Ext.refl _ _, s, h3.mono x⟩
  stop := fun i α H st x s ok hi => ⟨vs, .inl (.inl (x.keep _ _ ha hn)), by rw [← r.length]; exact hi⟩
theorem it_kl {a : Addr} {vs : List V} {ds : List D} (h : KL g.K H0 a vs) (r : RDs g α0 H0 ds vs) : ItR g (Itl g.K a) ds [] α0 H0 := by
  have k : ∀ {α : List Addr} {H : Hp}, Ext α0 H0 α H → SqL g.K H a vs := fun {α H} x => by
    rcases h with ⟨o, q⟩ | q
    · exact .inl (.inr ⟨o, x.frz _ _ _ q⟩)
    · exact KL.sq (.inr q)
  exact ⟨fun i α H st x s ok hi => ⟨vs, vs[i]'(by rw [← r.length]; exact hi), k x, List.getElem?_eq_getElem _⟩, fun i α H st v H' x s ok ⟨e, y⟩ d hd => by
    subst e
    obtain ⟨u, h2, h3⟩ := r.get hd
    have := y vs (k x)
    rw [h2] at this
    cases this
    exact ⟨Ext.refl _ _, s, h3.mono x⟩, fun i α H st x s ok hi => ⟨vs, k x, by rw [← r.length]; exact hi⟩⟩
theorem oi_val (c : Ck g X W) (h : OE g X W e F) : OI g X W tg e (iVal F) := by
  refine ⟨fun pins s σ H S I ⟨α, env, st, hE, hS, p⟩ => ?_⟩
  unfold iVal at p
  cases hF : F env st with
  | stuck => rw [hF] at p; exact p.elim
  | exc cc fs st1 =>
    rw [hF] at p
    exact (pi_list h).run pins s σ H S I ⟨α, env, st, hE, hS, by rw [hF]; exact p⟩
  | ok d st1 =>
    rw [hF] at p
    cases d with
    | tup ds =>
      refine (pi_tup h).run pins s σ H S I ⟨α, env, st, hE, hS, ?_⟩
      rw [hF]
      rintro α1 H1 x1 s1 v ⟨a, vs, rfl, h1, r⟩
      rw [c.hK]
      exact ⟨a, rfl, ⟨vs, h1⟩, p α1 H1 x1 s1 _ (it_tup h1 r)⟩
    | str x =>
      refine (pi_str h).run pins s σ H S I ⟨α, env, st, hE, hS, ?_⟩
      rw [hF]
      rintro α1 H1 x1 s1 v r
      cases r
      exact ⟨x, rfl, p α1 H1 x1 s1 _ (it_str x)⟩
    | obj n =>
      simp only [R.bind_ok, iterD] at p
      cases e' : seqOf st1 n with
      | none => rw [e'] at p; exact p.elim
      | some ds =>
        rw [e'] at p
        refine (pi_list h).run pins s σ H S I ⟨α, env, st, hE, hS, ?_⟩
        rw [hF]
        intro α1 H1 x1 s1 v r
        obtain ⟨a, vs, rfl, ha, h1, r1⟩ := s1.seq r e'
        rw [c.hK]
        exact ⟨a, rfl, ⟨vs, h1⟩, p α1 H1 x1 s1 _ (it_obj ha)⟩
    | non => exact p.elim
    | bl => exact p.elim
    | int => exact p.elim
    | fn => exact p.elim
    | ty => exact p.elim
    | kl ds =>
      refine (pi_list h).run pins s σ H S I ⟨α, env, st, hE, hS, ?_⟩
      rw [hF]
      rintro α1 H1 x1 s1 v ⟨a, vs, rfl, h1, r⟩
      rw [c.hK]
      exact ⟨a, rfl, ⟨vs, h1.sq⟩, p α1 H1 x1 s1 _ (it_kl h1 r)⟩
    | ev => exact p.elim
theorem oi_eph (c : Ck g X W) {F : DA} (h : OL g X W e F) : OI g X W tg e (iEph F) := by
  refine ⟨fun pins s σ H S I ⟨α, env, st, hE, hS, p⟩ => ?_⟩
  refine (pi_list h).run pins s σ H S I ⟨α, env, st, hE, hS, p.bind.imp fun ds st1 α1 H1 x1 s1 q a vs h0 hn ha r => ?_⟩
  rw [c.hK]
  exact ⟨a, rfl, ⟨vs, .inl (.inl ha)⟩, q α1 H1 (Ext.refl _ _) s1 _ (it_eph ha hn r)⟩
end
/-- range -/
def upI (lo : Int) (n : Nat) : List D := (List.range n).map fun (i : Nat) => .int (lo + (i : Int))
def iRange1 (G : DA) : DIt := fun env st => (G env st).bind fun ds st1 => match ds with
  | [.int j] => if -(2 ^ 62) ≤ j ∧ j < 2 ^ 62 then .ok (upI 0 j.toNat, []) st1 else .stuck
  | _ => .stuck
def iRange2 (G : DA) : DIt := fun env st => (G env st).bind fun ds st1 => match ds with
  | [.int i, .int j] => if -(2 ^ 62) ≤ i ∧ i < 2 ^ 62 ∧ -(2 ^ 62) ≤ j ∧ j < 2 ^ 62 then .ok (upI i (j - i).toNat, []) st1 else .stuck
  | _ => .stuck
/-- downwards by ones -/
def dnI (lo : Int) (n : Nat) : List D := (List.range n).map fun (i : Nat) => .int (lo + (i : Int) * (-1))
def iRange3 (G : DA) : DIt := fun env st => (G env st).bind fun ds st1 => match ds with
  | [.int i, .int j, .int c] => if c = -1 ∧ -(2 ^ 62) ≤ i ∧ i < 2 ^ 62 ∧ -(2 ^ 62) ≤ j ∧ j < 2 ^ 62 then .ok (dnI i (i - j).toNat, []) st1 else .stuck
  | _ => .stuck
/-- enumerate of a list -/
def numb (ds : List D) : List D := ds.zipIdx.map fun p => .tup [.int (p.2 : Nat), p.1]
def iEnum' (F : DE) : DIt := fun env st => (F env st).bind fun d st1 => match d with
  | .obj n => (match seqOf st1 n with | some ds => .ok (numb ds, [(n, ds)]) st1 | none => .stuck)
  | _ => .stuck
/-- zip of two lists, of two tuples -/
def pairs (xs ys : List D) : List D := (xs.zip ys).map fun p => .tup [p.1, p.2]
def zipD (a b : D) (st : Sto) : Option (List D × Wat) := match a, b with
  | .tup xs, .tup ys => some (pairs xs ys, [])
  | .obj m, .obj n => (match seqOf st m, seqOf st n with | some xs, some ys => some (pairs xs ys, [(m, xs), (n, ys)]) | _, _ => none)
  | _, _ => none
def iZip' (G : DA) : DIt := fun env st => (G env st).bind fun ds st1 => match ds with
  | [a, b] => (match zipD a b st1 with | some p => .ok p st1 | none => .stuck)
  | _ => .stuck
section
variable {g : Gd} {X : Cx} {W : WX} {tg e e0 e3 : Expr} {F : DE} {G : DA} {α0 : List Addr} {H0 : Hp} {p pos : Pos}
theorem it_upI (lo : Int) (n : Nat) : ItR g (Itr lo n) (upI lo n) [] α0 H0 where
  go := fun i α H st _ s _ hi => by
    simp [upI] at hi
    exact hi
  yl := fun i α H st v H' _ s _ ⟨e, h2⟩ d hd => by
    subst e h2
    refine ⟨Ext.refl _ _, s, ?_⟩
    unfold upI at hd
    rw [List.getElem?_map] at hd
    cases q : (List.range n)[i]? with
    | none => rw [q] at hd; cases hd
    | some j =>
      rw [q] at hd
      obtain ⟨_, rfl⟩ := List.getElem?_eq_some_iff.mp q
      cases hd
      simp [RD]
  stop := fun i α H st _ s _ hi => by
    simp [upI] at hi
    exact hi
theorem it_dnI (lo : Int) (n : Nat) : ItR g (Itc lo (-1) n) (dnI lo n) [] α0 H0 where
  go := fun i α H st _ s _ hi => by
    simp [dnI] at hi
    exact hi
  yl := fun i α H st v H' _ s _ ⟨e, h2⟩ d hd => by
    subst e h2
    refine ⟨Ext.refl _ _, s, ?_⟩
    unfold dnI at hd
    rw [List.getElem?_map] at hd
    cases q : (List.range n)[i]? with
    | none => rw [q] at hd; cases hd
    | some j =>
      rw [q] at hd
      obtain ⟨_, rfl⟩ := List.getElem?_eq_some_iff.mp q
      cases hd
      simp [RD]
  stop := fun i α H st _ s _ hi => by
    simp [dnI] at hi
    exact hi
theorem ints3 {vs : List V} {α : List Addr} {H : Hp} {i j k : Int} (h : RDs g α H [.int i, .int j, .int k] vs) : vs = [.int i, .int j, .int k] := by
  obtain ⟨_, _, rfl, h1, _, _, rfl, h2, _, _, rfl, h3, rfl⟩ := h
  cases h1; cases h2; cases h3; rfl
theorem ints2 {vs : List V} {α : List Addr} {H : Hp} {i j : Int} (h : RDs g α H [.int i, .int j] vs) : vs = [.int i, .int j] := by
  obtain ⟨_, _, rfl, h1, _, _, rfl, h2, rfl⟩ := h
  cases h1; cases h2; rfl
theorem ints1 {vs : List V} {α : List Addr} {H : Hp} {i : Int} (h : RDs g α H [.int i] vs) : vs = [.int i] := by
  obtain ⟨_, _, rfl, h1, rfl⟩ := h
  cases h1; rfl
theorem oi_range1 (c : Ck g X W) (h : OA g X W [e] G) (hm : g.mg "range" = none) (hg : L2.Gl X "range" := by rfl) (hs : starEach [e] X.env = [(false, eval e X.env)] := by rfl) : OI g X W tg (.Call (.Name "range" p) [e] [] pos) (iRange1 G) := by
  refine ⟨fun pins s σ H S I ⟨α, env, st, hE, hS, p⟩ => ?_⟩
  refine (pi_range1 hg (by rw [c.hmg]; exact hm) h hs).run pins s σ H S I (tA.run hE hS (p.bind.imp fun ds st1 α1 H1 x1 s1 q vs r => ?_))
  split at q
  · rename_i j
    split at q
    · rename_i hh
      exact ⟨j, ints1 r, hh.1, hh.2, q α1 H1 (Ext.refl _ _) s1 _ (it_upI 0 _)⟩
    · exact q.elim
  · exact q.elim
theorem oi_range2 (c : Ck g X W) (h : OA g X W [e, e0] G) (hm : g.mg "range" = none) (hg : L2.Gl X "range" := by rfl) (hs : starEach [e, e0] X.env = [(false, eval e X.env), (false, eval e0 X.env)] := by rfl) (hs2 : starEach [e0] X.env = [(false, eval e0 X.env)] := by rfl) :
    OI g X W tg (.Call (.Name "range" p) [e, e0] [] pos) (iRange2 G) := by
  refine ⟨fun pins s σ H S I ⟨α, env, st, hE, hS, p⟩ => ?_⟩
  refine (pi_range2 hg (by rw [c.hmg]; exact hm) h hs hs2).run pins s σ H S I (tA.run hE hS (p.bind.imp fun ds st1 α1 H1 x1 s1 q vs r => ?_))
  split at q
  · rename_i i j
    split at q
    · rename_i hh
      exact ⟨i, j, ints2 r, hh, q α1 H1 (Ext.refl _ _) s1 _ (it_upI i _)⟩
    · exact q.elim
  · exact q.elim
theorem oi_range3 (c : Ck g X W) (h : OA g X W [e, e0, e3] G) (hm : g.mg "range" = none) (hg : L2.Gl X "range" := by rfl) (hs : starEach [e, e0, e3] X.env = (false, eval e X.env) :: starEach [e0, e3] X.env := by rfl) (hpl : (backTo pos (starEach [e0, e3] X.env)).any (·.1) = false := by rfl) :
    OI g X W tg (.Call (.Name "range" p) [e, e0, e3] [] pos) (iRange3 G) := by
  refine ⟨fun pins s σ H S I ⟨α, env, st, hE, hS, p⟩ => ?_⟩
  refine (pi_range3 hg (by rw [c.hmg]; exact hm) h hs hpl).run pins s σ H S I (tA.run hE hS (p.bind.imp fun ds st1 α1 H1 x1 s1 q vs r => ?_))
  split at q
  · rename_i i j k
    split at q
    · rename_i hh
      obtain ⟨rfl, h1, h2, h3, h4⟩ := hh
      exact ⟨i, j, -1, _, ints3 r, RgC.neg h1 h2 h3 h4, q α1 H1 (Ext.refl _ _) s1 _ (it_dnI i _)⟩
    · exact q.elim
  · exact q.elim
theorem numb_get {ds : List D} {i : Nat} {d : D} (h : (numb ds)[i]? = some d) : ∃ x, ds[i]? = some x ∧ d = .tup [.int (i : Nat), x] := by
  unfold numb at h
  rw [List.getElem?_map, List.getElem?_zipIdx] at h
  cases q : ds[i]? with
  | none => rw [q] at h; cases h
  | some x =>
    rw [q] at h
    cases h
    exact ⟨x, rfl, by simp⟩
/-- a new tuple handed out -/
theorem out_tup {α : List Addr} {H : Hp} {st : Sto} {T : Addr} {ds : List D} {vs : List V} (s : StR g α st H) (hT : H T = none) (r : RDs g α H ds vs) : Ext α H α (upd H T (.tup vs)) ∧ StR g α st (upd H T (.tup vs)) ∧ RD g α (upd H T (.tup vs)) (.tup ds) (.ref T) :=
  ⟨ext_new s hT _, s.temp hT _, T, vs, rfl, .inl (.inl upd_same), r.mono (ext_new s hT _)⟩
theorem it_enum {n : Nat} {a : Addr} {ds : List D} (ha : α0[n]? = some a) : ItR g (Ite g.K a) (numb ds) [(n, ds)] α0 H0 where
  go := fun i α H st x s ok hi => by
    obtain ⟨b, vs, e1, _, h1, r⟩ := s.seq (v := .ref a) ⟨a, rfl, x.at ha⟩ (okW_one ok).1
    cases e1
    have hl : i < vs.length := by rw [← r.length]; simpa [numb] using hi
    exact ⟨vs, vs[i], h1, List.getElem?_eq_getElem _⟩
  yl := fun i α H st v H' x s ok ⟨T, y, e1, hT, e2, hy⟩ d hd => by
    subst e1 e2
    obtain ⟨b, vs, e1, _, h1, r⟩ := s.seq (v := .ref a) ⟨a, rfl, x.at ha⟩ (okW_one ok).1
    cases e1
    obtain ⟨z, hz, rfl⟩ := numb_get hd
    obtain ⟨u, h2, h3⟩ := r.get hz
    have := hy vs h1
    rw [h2] at this
    cases this
    exact out_tup s hT (.cons rfl (.cons h3 .nil))
  stop := fun i α H st x s ok hi => by
    obtain ⟨b, vs, e1, _, h1, r⟩ := s.seq (v := .ref a) ⟨a, rfl, x.at ha⟩ (okW_one ok).1
    cases e1
    exact ⟨vs, h1, by rw [← r.length]; simpa [numb] using hi⟩
theorem oi_enum (c : Ck g X W) {elts : List Expr} {kk : Nat} {tpos : Pos} (h : OE g X W e F) (hm : g.mg "enumerate" = none) (hg : L2.Gl X "enumerate" := by rfl) (hs : starEach [e] X.env = [(false, eval e X.env)] := by rfl) :
    OI g X W (.Tuple elts kk tpos) (.Call (.Name "enumerate" p) [e] [] pos) (iEnum' F) := by
  refine ⟨fun pins s σ H S I ⟨α, env, st, hE, hS, p⟩ => ?_⟩
  refine (pi_enum hg (by rw [c.hmg]; exact hm) (pa_cons h pa_nil (by rw [hs]; rfl)) hs).run pins s σ H S I (tE.run hE hS (p.bind.imp fun d st1 α1 H1 x1 s1 q v r => ?_))
  split at q
  · rename_i n
    split at q
    · rename_i ds e'
      obtain ⟨a, vs, rfl, ha, h1, r1⟩ := s1.seq r e'
      rw [c.hK]
      exact ⟨a, vs, rfl, h1, q α1 H1 (Ext.refl _ _) s1 _ (it_enum ha)⟩
    · exact q.elim
  · exact q.elim
theorem pairs_get {xs ys : List D} {i : Nat} {d : D} (h : (pairs xs ys)[i]? = some d) : ∃ x y, xs[i]? = some x ∧ ys[i]? = some y ∧ d = .tup [x, y] := by
  unfold pairs at h
  rw [List.getElem?_map] at h
  cases q : (xs.zip ys)[i]? with
  | none => rw [q] at h; cases h
  | some pr =>
    rw [q] at h
    cases h
    rw [List.getElem?_zip_eq_some] at q
    exact ⟨_, _, q.1, q.2, rfl⟩
theorem pairs_len (xs ys : List D) : (pairs xs ys).length = min xs.length ys.length := by simp [pairs]
theorem it_zip {m n : Nat} {a b : Addr} {xs ys : List D} (ha : α0[m]? = some a) (hb : α0[n]? = some b) : ItR g (Itz g.K a b) (pairs xs ys) [(m, xs), (n, ys)] α0 H0 where
  go := fun i α H st x s ok hi => by
    obtain ⟨o1, o2⟩ := okW_one ok
    obtain ⟨_, vs, e1, _, h1, r⟩ := s.seq (v := .ref a) ⟨a, rfl, x.at ha⟩ o1
    cases e1
    obtain ⟨_, ws, e1, _, h2, r2⟩ := s.seq (v := .ref b) ⟨b, rfl, x.at hb⟩ (okW_one o2).1
    cases e1
    rw [pairs_len, r.length, r2.length] at hi
    exact ⟨vs, ws, vs[i]'(by omega), ws[i]'(by omega), h1, h2, List.getElem?_eq_getElem _, List.getElem?_eq_getElem _⟩
  yl := fun i α H st v H' x s ok ⟨T, y, y2, e1, hT, e2, hy, hy2⟩ d hd => by
    subst e1 e2
    obtain ⟨o1, o2⟩ := okW_one ok
    obtain ⟨_, vs, e1, _, h1, r⟩ := s.seq (v := .ref a) ⟨a, rfl, x.at ha⟩ o1
    cases e1
    obtain ⟨_, ws, e1, _, h2, r2⟩ := s.seq (v := .ref b) ⟨b, rfl, x.at hb⟩ (okW_one o2).1
    cases e1
    obtain ⟨z, z2, hz, hz2, rfl⟩ := pairs_get hd
    obtain ⟨u, q1, h3⟩ := r.get hz
    obtain ⟨u2, q2, h4⟩ := r2.get hz2
    have k1 := hy vs h1
    have k2 := hy2 ws h2
    rw [q1] at k1
    rw [q2] at k2
    cases k1; cases k2
    exact out_tup s hT (.cons h3 (.cons h4 .nil))
  stop := fun i α H st x s ok hi => by
    obtain ⟨o1, o2⟩ := okW_one ok
    obtain ⟨_, vs, e1, _, h1, r⟩ := s.seq (v := .ref a) ⟨a, rfl, x.at ha⟩ o1
    cases e1
    obtain ⟨_, ws, e1, _, h2, r2⟩ := s.seq (v := .ref b) ⟨b, rfl, x.at hb⟩ (okW_one o2).1
    cases e1
    rw [pairs_len, r.length, r2.length] at hi
    exact ⟨vs, ws, h1, h2, by omega⟩
theorem it_zipT {a b : Addr} {vs ws : List V} {xs ys : List D} (h1 : SqT g.K H0 a vs) (h2 : SqT g.K H0 b ws) (r : RDs g α0 H0 xs vs) (r2 : RDs g α0 H0 ys ws) : ItR g (RZ.ItzT g.K a b) (pairs xs ys) [] α0 H0 where
  go := fun i α H st x s ok hi => by
    rw [pairs_len, r.length, r2.length] at hi
    exact ⟨vs, ws, vs[i]'(by omega), ws[i]'(by omega), x.sqt h1, x.sqt h2, List.getElem?_eq_getElem _, List.getElem?_eq_getElem _⟩
  yl := fun i α H st v H' x s ok ⟨T, y, y2, e1, hT, e2, hy, hy2⟩ d hd => by
    subst e1 e2
    obtain ⟨z, z2, hz, hz2, rfl⟩ := pairs_get hd
    obtain ⟨u, q1, h3⟩ := r.get hz
    obtain ⟨u2, q2, h4⟩ := r2.get hz2
    have k1 := hy vs (x.sqt h1)
    have k2 := hy2 ws (x.sqt h2)
    rw [q1] at k1
    rw [q2] at k2
    cases k1; cases k2
    exact out_tup s hT (.cons (h3.mono x) (.cons (h4.mono x) .nil))
  stop := fun i α H st x s ok hi => by
    rw [pairs_len, r.length, r2.length] at hi
    exact ⟨vs, ws, x.sqt h1, x.sqt h2, by omega⟩
theorem oi_zip (c : Ck g X W) {elts : List Expr} {kk : Nat} {tpos : Pos} (h : OA g X W [e, e0] G) (hm : g.mg "zip" = none) (hg : L2.Gl X "zip" := by rfl)
    (hs : starEach [e, e0] X.env = (false, eval e X.env) :: starEach [e0] X.env := by rfl) (hpl : (backTo pos (starEach [e0] X.env)).any (·.1) = false := by rfl) :
    OI g X W (.Tuple elts kk tpos) (.Call (.Name "zip" p) [e, e0] [] pos) (iZip' G) := by
  refine ⟨fun pins s σ H S I ⟨α, env, st, hE, hS, p⟩ => ?_⟩
  refine (RZ.pi_zipA hg (by rw [c.hmg]; exact hm) h hs hpl).run pins s σ H S I (tA.run hE hS (p.bind.imp fun ds st1 α1 H1 x1 s1 q vs r => ?_))
  split at q
  · rename_i d1 d2
    obtain ⟨v1, _, rfl, r1, v2, _, rfl, r2, rfl⟩ := r
    cases d1 <;> cases d2 <;> first | exact q.elim | skip
    · obtain ⟨a, us, rfl, h1, k1⟩ := r1
      obtain ⟨b, ws, rfl, h2, k2⟩ := r2
      rw [c.hK]
      exact ⟨a, b, us, ws, rfl, .inr ⟨h1, h2, q α1 H1 (Ext.refl _ _) s1 _ (it_zipT h1 h2 k1 k2)⟩⟩
    · rename_i m n
      simp only [zipD] at q
      cases e1 : seqOf st1 m with
      | none => rw [e1] at q; exact q.elim
      | some xs =>
        cases e2 : seqOf st1 n with
        | none => rw [e1, e2] at q; exact q.elim
        | some ys =>
          rw [e1, e2] at q
          obtain ⟨a, us, rfl, ha, h1, k1⟩ := s1.seq r1 e1
          obtain ⟨b, ws, rfl, hb, h2, k2⟩ := s1.seq r2 e2
          rw [c.hK]
          exact ⟨a, b, us, ws, rfl, .inl ⟨h1, h2, q α1 H1 (Ext.refl _ _) s1 _ (it_zip ha hb)⟩⟩
  · exact q.elim
end

/-! ### for, while -/
def forL (w : Wat) (t : Tg) (B : DS) : List D → Env → Sto → RS
  | [], env, st => if okW w st = true then .nx env st else .stuck
  | d :: ds, env, st => if okW w st = true then (match bindT t d env with
    | some env1 => (match B env1 st with
      | .nx env2 st2 => forL w t B ds env2 st2
      | .ct env2 st2 => forL w t B ds env2 st2
      | .bk env2 st2 => .nx env2 st2
      | r => r)
    | none => .stuck) else .stuck
def sFor (t : Tg) (I : DIt) (B : DS) : DS := fun env st => bindS (I env st) env fun p st1 => forL p.2 t B p.1 env st1
def whileL (C : DT) (B : DS) : Nat → Env → Sto → RS
  | 0, _, _ => .stuck
  | n + 1, env, st => bindS (C env st) env fun b st1 => if b = true then (match B env st1 with
      | .nx env2 st2 => whileL C B n env2 st2
      | .ct env2 st2 => whileL C B n env2 st2
      | .bk env2 st2 => .nx env2 st2
      | r => r) else .nx env st1
def sWhile (fu : Nat) (C : DT) (B : DS) : DS := fun env st => whileL C B fu env st
section
variable {g : Gd} {X : Cx} {W : WX} {pos : Pos}
theorem os_for (c : Ck g X W) {tg it : Expr} {body : List Stmt} {t : Tg} {I : DIt} {B : DS} (hi : OI g X W tg it I) (hg : OG X tg t) (hb : OSs g X W body B) (hs : ∀ x, foldedSetIterable it X.env x = pure x := by intro _; rfl) : OS g X W (.For tg it body [] pos) (sFor t I B) :=
  ofS (ps_for c.pw c.calm hi hg hb hs) fun E σ H ⟨α, env, st, hE, hS, p⟩ => by
    refine ⟨α, env, st, hE, hS, (p.bind hE).imp fun pr st1 α1 H1 x1 s1 q J hJ => ?_⟩
    obtain ⟨ds, w⟩ := pr
    dsimp only at q hJ
    refine ⟨fun i m σ' H' => m = ds.length - i ∧ i ≤ ds.length ∧ ∃ α' env' st', Ext α1 H1 α' H' ∧ EnvR g α' H' env' σ' ∧ StR g α' st' H' ∧ PostS g W α' H' (forL w t B (ds.drop i) env' st') E,
      ⟨ds.length, by simp, Nat.zero_le _, α1, env, st1, Ext.refl _ _, hE.mono x1, s1, by simpa using q⟩, ?_⟩
    rintro i m σ' H' ⟨rfl, hi, α', env', st', x', hE', hS', p'⟩
    by_cases hlt : i < ds.length
    · refine .inr ?_
      rw [List.drop_eq_getElem_cons hlt] at p'
      rw [forL] at p'
      split at p'
      · rename_i ok
        refine ⟨hJ.go i α' H' st' x' hS' ok hlt, fun σ2 H2 => (ds.length - (i + 1)) = ds.length - (i + 1) ∧ (i + 1) ≤ ds.length ∧ ∃ α' env' st', Ext α1 H1 α' H2 ∧ EnvR g α' H2 env' σ2 ∧ StR g α' st' H2 ∧ PostS g W α' H2 (forL w t B (ds.drop (i + 1)) env' st') E,
          fun σ2 H2 n2 => ⟨ds.length - (i + 1), by omega, n2⟩, fun y H2 hy => ?_⟩
        obtain ⟨x2, s2, r2⟩ := hJ.yl i α' H' st' y H2 x' hS' ok hy _ (List.getElem?_eq_getElem hlt)
        split at p'
        · rename_i env1 e1
          obtain ⟨σ1, k1, k2, _⟩ := bindT_ok c.hK (hE'.mono x2) r2 e1
          refine k2 _ ⟨α', env1, st', k1, s2, ?_⟩
          have p2 := PostS.mono x2 p'
          cases hB : B env1 st' with
          | nx env2 st2 =>
            rw [hB] at p2
            exact fun α3 H3 σ3 x3 s3 e3 => ⟨rfl, hlt, α3, env2, st2, (x'.trans x2).trans x3, e3, s3, PostS.mono x3 p2⟩
          | ct env2 st2 =>
            rw [hB] at p2
            exact fun α3 H3 σ3 x3 s3 e3 => ⟨rfl, hlt, α3, env2, st2, (x'.trans x2).trans x3, e3, s3, PostS.mono x3 p2⟩
          | bk env2 st2 => rw [hB] at p2; exact p2
          | rt d st2 => rw [hB] at p2; exact p2
          | exc cc fs env2 st2 => rw [hB] at p2; exact p2
          | stuck => rw [hB] at p2; exact p2
        · exact p'.elim
      · exact p'.elim
    · refine .inl ?_
      have e : ds.drop i = [] := List.drop_eq_nil_of_le (by omega)
      rw [e, forL] at p'
      split at p'
      · rename_i ok
        exact ⟨hJ.stop i α' H' st' x' hS' ok (by omega), p' α' H' σ' (Ext.refl _ _) hS' hE'⟩
      · exact p'.elim
theorem os_while (c : Ck g X W) (fu : Nat) {t : Expr} {body : List Stmt} {C : DT} {B : DS} (hc : OT g X W t C) (hb : OSs g X W body B) : OS g X W (.While t body [] pos) (sWhile fu C B) :=
  ofS (ps_while c.pw hc hb) fun E σ H ⟨α, env, st, hE, hS, p⟩ => by
    refine ⟨fun m σ' H' => ∃ α' env' st', EnvR g α' H' env' σ' ∧ StR g α' st' H' ∧ PostS g W α' H' (whileL C B m env' st') E, ⟨fu, α, env, st, hE, hS, p⟩, ?_⟩
    rintro m σ' H' ⟨α', env', st', hE', hS', p'⟩
    cases m with
    | zero => exact p'.elim
    | succ m =>
      rw [whileL] at p'
      refine tT.run hE' hS' ((p'.bind hE').imp fun b st1 α1 H1 x1 s1 q => ?_)
      cases b with
      | false =>
        rw [if_neg Bool.false_ne_true] at q ⊢
        exact q α1 H1 σ' (Ext.refl _ _) s1 (hE'.mono x1)
      | true =>
        rw [if_pos rfl] at q ⊢
        refine ⟨fun σ2 H2 => ∃ α' env' st', EnvR g α' H2 env' σ2 ∧ StR g α' st' H2 ∧ PostS g W α' H2 (whileL C B m env' st') E, fun σ2 H2 n2 => ⟨m, Nat.lt_succ_self m, n2⟩, α1, env', st1, hE'.mono x1, s1, ?_⟩
        cases hB : B env' st1 with
        | nx env2 st2 =>
          rw [hB] at q
          exact fun α3 H3 σ3 x3 s3 e3 => ⟨α3, env2, st2, e3, s3, PostS.mono x3 q⟩
        | ct env2 st2 =>
          rw [hB] at q
          exact fun α3 H3 σ3 x3 s3 e3 => ⟨α3, env2, st2, e3, s3, PostS.mono x3 q⟩
        | bk env2 st2 => rw [hB] at q; exact q
        | rt d st2 => rw [hB] at q; exact q
        | exc cc fs env2 st2 => rw [hB] at q; exact q
        | stuck => rw [hB] at q; exact q
end
end Mi

namespace Mi
open PySem L2


/-! ### what a tree is read from stays -/
section
variable {g : Gd} {α : List Addr} {H H' : Hp}
theorem weakExt (tup : ∀ b xs, H b = some (.tup xs) → H' b = some (.tup xs)) (frz : ∀ b o u, H b = some (.frz o u) → H' b = some (.frz o u)) {K : PySem.W.Frag} {a : Addr} {xs : List V} (h : SqT K H a xs) : SqT K H' a xs := by
  rcases h with (h | ⟨o, h⟩) | h
  · exact .inl (.inl (tup _ _ h))
  · exact .inl (.inr ⟨o, frz _ _ _ h⟩)
  · exact .inr h
mutual
theorem RD.weak (tup : ∀ b xs, H b = some (.tup xs) → H' b = some (.tup xs)) (frz : ∀ b o u, H b = some (.frz o u) → H' b = some (.frz o u)) : ∀ {d : D} {v : V}, RD g α H d v → RD g α H' d v
  | .non, v, h => by simpa [RD] using h
  | .bl b, v, h => by simpa [RD] using h
  | .int i, v, h => by simpa [RD] using h
  | .str x, v, h => by simpa [RD] using h
  | .tup ds, v, h => by
    rw [RD] at h ⊢
    obtain ⟨a, vs, rfl, h1, h2⟩ := h
    exact ⟨a, vs, rfl, weakExt tup frz h1, RDs.weak tup frz h2⟩
  | .obj n, v, h => by
    rw [RD] at h ⊢
    exact h
  | .fn n, v, h => by simpa [RD] using h
  | .ty n, v, h => by simpa [RD] using h
  | .kl ds, v, h => by
    rw [RD] at h ⊢
    obtain ⟨a, vs, rfl, h1, h2⟩ := h
    exact ⟨a, vs, rfl, h1.elim (fun ⟨o, q⟩ => .inl ⟨o, frz _ _ _ q⟩) .inr, RDs.weak tup frz h2⟩
  | .ev ds, v, h => by rw [RD] at h; exact h.elim
theorem RDs.weak (tup : ∀ b xs, H b = some (.tup xs) → H' b = some (.tup xs)) (frz : ∀ b o u, H b = some (.frz o u) → H' b = some (.frz o u)) : ∀ {ds : List D} {vs : List V}, RDs g α H ds vs → RDs g α H' ds vs
  | [], vs, h => by simpa [RDs] using h
  | d :: ds, vs, h => by
    rw [RDs] at h ⊢
    obtain ⟨v, r, rfl, h1, h2⟩ := h
    exact ⟨v, r, rfl, RD.weak tup frz h1, RDs.weak tup frz h2⟩
end
theorem RFs.weak (tup : ∀ b xs, H b = some (.tup xs) → H' b = some (.tup xs)) (frz : ∀ b o u, H b = some (.frz o u) → H' b = some (.frz o u)) : ∀ {ds : List (Str × D)} {vs : List (Str × V)}, RFs g α H ds vs → RFs g α H' ds vs
  | [], vs, h => by simpa [RFs] using h
  | d :: ds, vs, h => by
    rw [RFs] at h ⊢
    obtain ⟨v, r, rfl, h1, h2⟩ := h
    exact ⟨v, r, rfl, RD.weak tup frz h1, RFs.weak tup frz h2⟩
theorem RKs.weak (tup : ∀ b xs, H b = some (.tup xs) → H' b = some (.tup xs)) (frz : ∀ b o u, H b = some (.frz o u) → H' b = some (.frz o u)) : ∀ {ds : List (Key × D)} {vs : List (Key × V)}, RKs g α H ds vs → RKs g α H' ds vs
  | [], vs, h => by simpa [RKs] using h
  | d :: ds, vs, h => by
    rw [RKs] at h ⊢
    obtain ⟨v, r, rfl, h1, h2⟩ := h
    exact ⟨v, r, rfl, RD.weak tup frz h1, RKs.weak tup frz h2⟩
/-- an untracked object has changed -/
theorem StR.weak {st : Sto} {p : Addr} {o : HO} (s : StR g α st H) (hp : p ∉ α) (tup : ∀ b xs, H b = some (.tup xs) → upd H p o b = some (.tup xs)) (frz : ∀ b x u, H b = some (.frz x u) → upd H p o b = some (.frz x u)) : StR g α st (upd H p o) := by
  refine ⟨s.len, s.nd, fun n a ob h1 h2 => ?_⟩
  have na : a ≠ p := by
    rintro rfl
    exact hp (List.mem_of_getElem? h1)
  have k := s.ob n a ob h1 h2
  cases ob with
  | lst ds => obtain ⟨vs, h, r⟩ := k; exact ⟨vs, (upd_ne na).trans h, RDs.weak tup frz r⟩
  | frz ds => obtain ⟨o, vs, h, r⟩ := k; exact ⟨o, vs, (upd_ne na).trans h, RDs.weak tup frz r⟩
  | dic ds => obtain ⟨vs, h, r⟩ := k; exact ⟨vs, (upd_ne na).trans h, RKs.weak tup frz r⟩
  | ins c fs => obtain ⟨C, dx, vs, h0, h, r⟩ := k; exact ⟨C, dx, vs, h0, (upd_ne na).trans h, RFs.weak tup frz r⟩
end

/-! ### comprehensions -/
def noX {β : Type} (r : R β) : R β := match r with | .exc _ _ _ => .stuck | r => r
@[simp] theorem noX_ok {β : Type} (b : β) (st : Sto) : noX (R.ok b st) = .ok b st := rfl
@[simp] theorem noX_stuck {β : Type} : noX (R.stuck : R β) = .stuck := rfl
def W0 : WX := fun _ _ _ _ => False
def wipeE (env : Env) : List Nat → Env
  | [] => env
  | v :: vs => (wipeE env vs).set v none
theorem wipeE_length (env : Env) : ∀ vs : List Nat, (wipeE env vs).length = env.length
  | [] => rfl
  | v :: vs => by unfold wipeE; rw [List.length_set, wipeE_length env vs]
theorem wipeE_some {env : Env} {i : Nat} {d : D} : ∀ {vs : List Nat}, (wipeE env vs)[i]? = some (some d) → env[i]? = some (some d) ∧ i ∉ vs
  | [], h => ⟨h, by simp⟩
  | v :: vs, h => by
    unfold wipeE at h
    by_cases hi : v = i
    · subst hi
      by_cases hv : v < (wipeE env vs).length
      · rw [List.getElem?_set_self hv] at h; cases h
      · rw [List.getElem?_eq_none (by simpa using hv)] at h; cases h
    · rw [List.getElem?_set_ne hi] at h
      obtain ⟨h1, h2⟩ := wipeE_some h
      exact ⟨h1, by simp only [List.mem_cons, not_or]; exact ⟨fun e => hi e.symm, h2⟩⟩
theorem EnvR.wipe {g : Gd} {α : List Addr} {H : Hp} {env : Env} {σ : L2.St} (h : EnvR g α H env σ) (vs : List Nat) : EnvR g α H (wipeE env vs) (L2.wipe σ vs) := by
  refine ⟨by rw [wipeE_length, wipe_length, h.len], fun i d q => ?_⟩
  obtain ⟨h1, h2⟩ := wipeE_some q
  obtain ⟨v, h3, h4⟩ := h.val i d h1
  refine ⟨v, ?_, h4⟩
  rw [wipe_get, if_neg fun z => h2 z.1]
  exact h3
theorem wipe_wipe (σ : L2.St) (vs : List Nat) : L2.wipe (L2.wipe σ vs) vs = L2.wipe σ vs := by
  apply List.ext_getElem?
  intro j
  rw [wipe_get, wipe_get, wipe_length]
  by_cases h : j ∈ vs ∧ j < σ.length
  · rw [if_pos h, if_pos h]
  · rw [if_neg h, if_neg h]
def compL (w : Wat) (t : Tg) (C : DT) (F : DE) (env : Env) : List D → Sto → R (List D)
  | [], st => if okW w st = true then .ok [] st else .stuck
  | d :: ds, st => if okW w st = true then (match bindT t d env with
    | some env1 => (noX (C env1 st)).bind fun b st1 => if b = true then (noX (F env1 st1)).bind fun y st2 => (compL w t C F env ds st2).bind fun ys st3 => .ok (y :: ys) st3 else compL w t C F env ds st1
    | none => .stuck) else .stuck
def cYes : DT := fun _ st => .ok true st
def lComp (vs : List Nat) (t : Tg) (I : DIt) (C : DT) (F : DE) : DA := fun env st => (I env st).bind fun p st1 => if p.1.length ≤ sizeLine then compL p.2 t C F (wipeE env vs) p.1 st1 else .stuck
def eNew (F : DA) : DE := fun env st => (F env st).bind fun ds st1 => new (.lst ds) st1
def OTs (g : Gd) (X : Cx) (W : WX) (es : List Expr) (C : DT) : Prop := PTs X es (tT g W C)
section
variable {g : Gd} {X : Cx} {W : WX}
theorem ots_nil : OTs g X W [] cYes := ⟨fun pins s σ H Q I ⟨α, env, st, hE, hS, p⟩ => pts_nil.run pins s σ H Q I (p.ok hS)⟩
theorem ots_one {e : Expr} {C : DT} (h : OT g X W e C) : OTs g X W [e] C := pts_one h
theorem Ck.blk (c : Ck g X W) {s : Shared} {H : Hp} {scope : Scope} {cenv : PySem.Env} {fp : List Addr} : Ck g (X.blk s H scope cenv fp) W0 :=
  ⟨c.hK, c.hmg, c.hP, c.hw, c.hb, c.calm, c.nd, takes0, c.gd, c.hu, PassesOwn.never⟩
theorem bind_id {β : Type} (r : R β) : (r.bind fun b st => .ok b st) = r := by cases r <;> rfl
theorem bind_bind {β γ δ : Type} (r : R β) (k : β → Sto → R γ) (l : γ → Sto → R δ) : (r.bind k).bind l = r.bind fun b st => (k b st).bind l := by cases r <;> rfl
theorem lc_step (hK : X.K = g.K) {t : Tg} {I : DIt} {C : DT} {F : DE} {vs : List Nat} (hsl : ∀ i ∈ t.slots, i ∈ vs) :
    ∀ σ H Q, tL g W (lComp vs t I C F) σ H Q → tLc (tI g W I) (tgV X.K t) (tT g W0 C) (tE g W0 F) vs σ H Q := fun σ H Q ⟨α, env, st, hE, hS, p⟩ => by
  refine ⟨α, env, st, hE, hS, p.bind.imp fun pr st1 α1 H1 x1 s1 q J hJ => ?_⟩
  obtain ⟨ds, w⟩ := pr
  dsimp only at q hJ
  intro Dd hD
  split at q
  case isFalse => exact q.elim
  rename_i hlen
  have hD0 : H Dd = none := by
    cases z : H Dd with
    | none => rfl
    | some o =>
      by_cases hm : Dd ∈ α
      · obtain ⟨β, rfl⟩ := x1.pre
        obtain ⟨u, hu⟩ := s1.mem (List.mem_append_left β hm)
        rw [hD] at hu; cases hu
      · have := x1.keep _ _ z hm
        rw [hD] at this; cases this
  have wE := hE.wipe vs
  have n1 := s1.notin hD
  refine ⟨fun i m H' => m = ds.length - i ∧ i ≤ ds.length ∧ ∃ α' st' acc accD, Ext α1 H1 α' H' ∧ StR g α' st' H' ∧ Dd ∉ α' ∧ H' Dd = some (.lst acc) ∧ RDs g α' H' accD acc ∧ acc.length ≤ i ∧
      compL w t C F (wipeE env vs) ds st1 = (compL w t C F (wipeE env vs) (ds.drop i) st').bind fun ys s => .ok (accD ++ ys) s,
    ⟨ds.length, by simp, Nat.zero_le _, α1, st1, [], [], ext_new s1 hD _, s1.temp hD _, n1, upd_same, RDs.nil, Nat.le_refl _, by rw [List.drop_zero]; exact (bind_id _).symm⟩, ?_⟩
  rintro i m H' ⟨rfl, hi, α', st', acc, accD, x', hS', nD, hacc, racc, hal, eq⟩
  by_cases hlt : i < ds.length
  · refine .inr ?_
    rw [List.drop_eq_getElem_cons hlt, compL] at eq
    split at eq
    case isFalse => rw [eq] at q; exact q.elim
    rename_i ok
    refine ⟨hJ.go i α' H' st' x' hS' ok hlt, fun H2 => (ds.length - (i + 1)) = ds.length - (i + 1) ∧ i + 1 ≤ ds.length ∧ ∃ α' st' acc accD, Ext α1 H1 α' H2 ∧ StR g α' st' H2 ∧ Dd ∉ α' ∧ H2 Dd = some (.lst acc) ∧ RDs g α' H2 accD acc ∧ acc.length ≤ i + 1 ∧
      compL w t C F (wipeE env vs) ds st1 = (compL w t C F (wipeE env vs) (ds.drop (i + 1)) st').bind fun ys s => .ok (accD ++ ys) s, fun H2 n2 => ⟨ds.length - (i + 1), by omega, n2⟩, fun y H2 hy => ?_⟩
    obtain ⟨x2, s2, r2⟩ := hJ.yl i α' H' st' y H2 x' hS' ok hy _ (List.getElem?_eq_getElem hlt)
    split at eq
    case h_2 => rw [eq] at q; exact q.elim
    rename_i env1 e1
    obtain ⟨σ1, k1, k2, k3⟩ := bindT_ok hK (wE.mono ((x1.trans x').trans x2)) r2 e1
    refine k2 _ ⟨by rw [k3 vs hsl, wipe_wipe], ?_⟩
    refine ⟨α', env1, st', k1, s2, ?_⟩
    have keepD : H2 Dd = some (.lst acc) := x2.keep _ _ hacc nD
    cases hC : C env1 st' with
    | stuck => rw [hC] at eq; rw [eq] at q; exact q.elim
    | exc cc fs s => rw [hC] at eq; rw [eq] at q; exact q.elim
    | ok b st2 =>
      rw [hC] at eq
      intro α3 H3 x3 s3
      have n3 : Dd ∉ α3 := fun hm => by
        have := x3.new Dd hm nD
        rw [keepD] at this; cases this
      have d3 : H3 Dd = some (.lst acc) := x3.keep _ _ keepD nD
      cases b with
      | false =>
        refine iteF ?_
        simp only [noX_ok, R.bind_ok, Bool.false_eq_true, if_false] at eq
        exact ⟨rfl, hlt, α3, st2, acc, accD, (x'.trans x2).trans x3, s3, n3, d3, (racc.mono x2).mono x3, by omega, eq⟩
      | true =>
        refine iteT ?_
        simp only [noX_ok, R.bind_ok, if_true] at eq
        refine ⟨α3, env1, st2, k1.mono x3, s3, ?_⟩
        cases hF : F env1 st2 with
        | stuck => rw [hF] at eq; rw [eq] at q; exact q.elim
        | exc cc fs s => rw [hF] at eq; rw [eq] at q; exact q.elim
        | ok z st4 =>
          rw [hF] at eq
          simp only [noX_ok, R.bind_ok, bind_bind] at eq
          intro α4 H4 x4 s4 v rv
          have n4 : Dd ∉ α4 := fun hm => by
            have := x4.new Dd hm n3
            rw [d3] at this; cases this
          have d4 : H4 Dd = some (.lst acc) := x4.keep _ _ d3 n3
          -- the list grows: what is read of trees stays
          have tupK : ∀ b xs, H4 b = some (.tup xs) → upd H4 Dd (.lst (acc ++ [v])) b = some (.tup xs) := fun b xs hb => by
            rw [upd_ne]; exact hb
            rintro rfl
            rw [d4] at hb; cases hb
          have frzK : ∀ b o u, H4 b = some (.frz o u) → upd H4 Dd (.lst (acc ++ [v])) b = some (.frz o u) := fun b o u hb => by
            rw [upd_ne]; exact hb
            rintro rfl
            rw [d4] at hb; cases hb
          have xw : ∀ {ds : List D} {vs : List V}, RDs g α4 H4 ds vs → RDs g α4 (upd H4 Dd (.lst (acc ++ [v]))) ds vs := fun h => RDs.weak tupK frzK h
          refine ⟨acc, d4, Nat.lt_of_lt_of_le (by omega : acc.length < ds.length) hlen, rfl, hlt, α4, st4, acc ++ [v], accD ++ [z], ?_, ?_, n4, upd_same, xw ((((racc.mono x2).mono x3).mono x4).append (.cons rv .nil)), by simp; omega, ?_⟩
          · have xx := ((x'.trans x2).trans x3).trans x4
            refine ⟨xx.pre, fun b o hb nb => ?_, xx.new, fun b xs hb => tupK _ _ (xx.tup _ _ hb), fun b o u hb => frzK _ _ _ (xx.frz _ _ _ hb)⟩
            rw [upd_ne]
            · exact xx.keep _ _ hb nb
            · rintro rfl
              rw [hD] at hb; cases hb
          · exact StR.weak s4 n4 tupK frzK
          · rw [eq]
            congr 1
            funext ys s
            simp
  · refine .inl ?_
    have e : ds.drop i = [] := List.drop_eq_nil_of_le (by omega)
    rw [e, compL] at eq
    split at eq
    · rename_i ok
      rw [eq] at q
      simp only [R.bind_ok, List.append_nil] at q
      exact ⟨hJ.stop i α' H' st' x' hS' ok (by omega), q α' H' x' hS' Dd acc hD0 nD hacc racc⟩
    · rw [eq] at q; exact q.elim
end
end Mi

namespace Mi
open PySem L2

/-! ### comprehensions: the rules -/
/-- the items of a new list that is written out -/
def lDisp (G : DA) : DA := fun env st => (G env st).bind fun ds st1 => if ds.length ≤ sizeLine then .ok ds st1 else .stuck

section
variable {g : Gd} {X : Cx} {W : WX}
theorem ol_comp (c : Ck g X W) {elt tg iter : Expr} {ifs : List Expr} {scope : Scope} {own : List (Str × Nat)} {pos : Pos} {t : Tg} {I : DIt} {C : DT} {F : DE} (ok : BlkOk X.N X.env.scope scope own) (hi : OI g X W tg iter I)
    (hg : ∀ (s : Shared) (H : Hp) (C : Addr) (cl : List (Str × Addr)) (fp : List Addr), OG (X.blk s H scope (compEnvC scope cl C X.env) fp) tg t)
    (ht : ∀ (s : Shared) (H : Hp) (C1 : Addr) (cl : List (Str × Addr)) (fp : List Addr), OTs g (X.blk s H scope (compEnvC scope cl C1 X.env) fp) W0 ifs C)
    (he : ∀ (s : Shared) (H : Hp) (C : Addr) (cl : List (Str × Addr)) (fp : List Addr), OE g (X.blk s H scope (compEnvC scope cl C X.env) fp) W0 elt F)
    (hsl : ∀ i ∈ t.slots, i ∈ own.map (·.2)) (hs : ∀ x, foldedSetIterable iter X.env x = pure x := by intro _; rfl) : OL g X W (.ListComp elt [⟨tg, iter, ifs, 0⟩] scope pos) (lComp (own.map (·.2)) t I C F) :=
  ofE (pe_lc (g := tgV X.K t) (tt := tT g W0 C) (te := tE g W0 F) c.calm c.nd hi ok hg ht he hs) (lc_step c.hK hsl)
theorem StR.adopt {α : List Addr} {H : Hp} {st : Sto} {a : Addr} {vs : List V} {ds : List D} (s : StR g α st H) (hn : a ∉ α) (ha : H a = some (.lst vs)) (r : RDs g α H ds vs) : StR g (α ++ [a]) (st ++ [.lst ds]) H := by
  have x : ∀ {d : D} {v : V}, RD g α H d v → True := fun _ => trivial
  have e : Ext α (fun b => if b = a then none else H b) (α ++ [a]) H := ⟨⟨[a], rfl⟩, fun b o h _ => by
      split at h
      · cases h
      · exact h, fun b hb n => by
      have : b = a := by simpa [n] using hb
      subst this
      simp, fun b xs h => by
      split at h
      · cases h
      · exact h, fun b o u h => by
      split at h
      · cases h
      · exact h⟩
  have tk : ∀ b xs, H b = some (.tup xs) → (fun b => if b = a then none else H b) b = some (.tup xs) := fun b xs h => by
    dsimp only
    rw [if_neg]
    · exact h
    · rintro rfl
      rw [ha] at h; cases h
  have fk : ∀ b o u, H b = some (.frz o u) → (fun b => if b = a then none else H b) b = some (.frz o u) := fun b o u h => by
    dsimp only
    rw [if_neg]
    · exact h
    · rintro rfl
      rw [ha] at h; cases h
  refine ⟨by simp [s.len], by
    rw [List.nodup_append]
    refine ⟨s.nd, by simp, fun b hb c hc => ?_⟩
    rintro rfl
    have : b = a := by simpa using hc
    subst this
    exact hn hb, fun n b o h1 h2 => ?_⟩
  by_cases hl : n < α.length
  · rw [List.getElem?_append_left hl] at h1
    rw [List.getElem?_append_left (by rw [← s.len]; exact hl)] at h2
    have k := s.ob n b o h1 h2
    cases o with
    | lst ds => obtain ⟨vs, h, r⟩ := k; exact ⟨vs, h, (RDs.weak tk fk r).mono e⟩
    | frz ds => obtain ⟨o, vs, h, r⟩ := k; exact ⟨o, vs, h, (RDs.weak tk fk r).mono e⟩
    | dic ds => obtain ⟨vs, h, r⟩ := k; exact ⟨vs, h, (RKs.weak tk fk r).mono e⟩
    | ins c fs => obtain ⟨C, dx, vs, h0, h, r⟩ := k; exact ⟨C, dx, vs, h0, h, (RFs.weak tk fk r).mono e⟩
  · have hn' : n = α.length := by
      have := (List.getElem?_eq_some_iff.mp h1).1
      simp at this
      omega
    subst hn'
    simp at h1
    rw [s.len] at h2
    simp at h2
    subst h1 h2
    exact ⟨vs, ha, (RDs.weak tk fk r).mono e⟩
theorem new_step {F : DA} : ∀ σ H Q, tE g W (eNew F) σ H Q → tL g W F σ H Q := fun σ H Q ⟨α, env, st, hE, hS, p⟩ => by
  refine ⟨α, env, st, hE, hS, ?_⟩
  unfold eNew at p
  cases hF : F env st with
  | stuck => rw [hF] at p; exact p.elim
  | exc c fs st1 => rw [hF] at p; exact p
  | ok ds st1 =>
    rw [hF] at p
    intro α1 H1 x1 s1 a vs h0 hn ha r
    refine p (α1 ++ [a]) H1 ?_ (s1.adopt hn ha r) _ ⟨a, rfl, by rw [← s1.len]; simp⟩
    obtain ⟨β, e⟩ := x1.pre
    refine ⟨⟨β ++ [a], by rw [e]; simp⟩, x1.keep, fun b hb nb => ?_, x1.tup, x1.frz⟩
    rcases List.mem_append.mp hb with h | h
    · exact x1.new b h nb
    · have : b = a := by simpa using h
      subst this
      exact h0
theorem oe_new {e : Expr} {F : DA} (h : OL g X W e F) : OE g X W e (eNew F) := ofE h new_step
theorem os_setLc (c : Ck g X W) {i : Nat} {y : Str} {py spos : Pos} {elt tg iter : Expr} {ifs : List Expr} {scope : Scope} {own : List (Str × Nat)} {pos : Pos} {t : Tg} {I : DIt} {C : DT} {F : DE} (ok : BlkOk X.N X.env.scope scope own)
    (hsw : swapsWith (.ListComp elt [⟨tg, iter, ifs, 0⟩] scope pos) (some (.Name y py)) spos.line X.env = pure true) (hi : OI g X W tg iter I)
    (hg : ∀ (s : Shared) (H : Hp) (C : Addr) (cl : List (Str × Addr)) (fp : List Addr), OG (X.blk s H scope (compEnvC scope cl C X.env) fp) tg t)
    (ht : ∀ (s : Shared) (H : Hp) (C1 : Addr) (cl : List (Str × Addr)) (fp : List Addr), OTs g (X.blk s H scope (compEnvC scope cl C1 X.env) fp) W0 ifs C)
    (he : ∀ (s : Shared) (H : Hp) (C : Addr) (cl : List (Str × Addr)) (fp : List Addr), OE g (X.blk s H scope (compEnvC scope cl C X.env) fp) W0 elt F)
    (hsl : ∀ i ∈ t.slots, i ∈ own.map (·.2)) (hy : X.N[i]? = some y := by rfl) (hyl : X.env.scope.names.lookup y = some .local := by rfl) (hs : ∀ x, foldedSetIterable iter X.env x = pure x := by intro _; rfl) :
    OS g X W (.Assign [.Name y py] (.ListComp elt [⟨tg, iter, ifs, 0⟩] scope pos) spos) (sAsg (.nm i) (eNew (lComp (own.map (·.2)) t I C F))) :=
  ofS (ps_setLc (g := tgV X.K t) (tt := tT g W0 C) (te := tE g W0 F) c.calm c.nd hy hyl hsw hi ok hg ht he hs) fun E σ H h => lc_step c.hK hsl σ H _ (new_step σ H _ (asg_step (X := X) c E σ H h))
theorem ol_disp {es : List Expr} {G : DA} {pos : Pos} (h : OA g X W es G) : OL g X W (.List es pos) (lDisp G) :=
  ofE (pe_lst h) fun σ H Q ⟨α, env, st, hE, hS, p⟩ => by
    refine tA.run hE hS ?_
    unfold lDisp at p
    cases hF : G env st with
    | stuck => rw [hF] at p; exact p.elim
    | exc c fs st1 => rw [hF] at p; exact p
    | ok ds st1 =>
      rw [hF] at p
      intro α1 H1 x1 s1 vs r
      simp only [R.bind_ok] at p
      split at p
      · rename_i hl
        refine ⟨by rw [← r.length]; exact hl, fun q hq => ?_⟩
        refine p α1 _ (x1.trans (ext_new s1 hq _)) (s1.temp hq _) q vs ?_ (s1.notin hq) upd_same (r.mono (ext_new s1 hq _))
        cases z : H q with
        | none => rfl
        | some o =>
          by_cases hm : q ∈ α
          · obtain ⟨β, rfl⟩ := x1.pre
            exact absurd (List.mem_append_left β hm) (s1.notin hq)
          · have := x1.keep _ _ z hm
            rw [hq] at this; cases this
      · exact p.elim
end

/-! ### calls of built-ins -/
def eCall (o : List D → Sto → R D) (G : DA) : DE := fun env st => (G env st).bind fun ds st1 => o ds st1
def Bi (g : Gd) (X : Cx) (W : WX) (f : Value) (o : List D → Sto → R D) : Prop :=
  ∀ (σ : L2.St) (α : List Addr) (H : Hp) (st : Sto) (ds : List D) (vs : List V) (Q : VK), StR g α st H → RDs g α H ds vs → PD g W σ α H (o ds st) Q → ∃ r, CallR X f r ∧ r vs H Q
/-- .. of one new list -/
def BiL (g : Gd) (X : Cx) (W : WX) (f : Value) (o : List D → Sto → R D) : Prop :=
  ∀ (σ : L2.St) (α : List Addr) (H : Hp) (st : Sto) (ds : List D) (a : Addr) (vs : List V) (Q : VK), StR g α st H → a ∉ α → H a = some (.lst vs) → RDs g α H ds vs → PD g W σ α H (o ds st) Q → ∃ r, CallR X f r ∧ r [.ref a] H Q
theorem anyC {X : Cx} {f : Value} : CallR X f (fun xs H Q => ∃ r, CallR X f r ∧ r xs H Q) := fun pins s σ H xs us Q I r ⟨_, h, q⟩ => h pins s σ H xs us Q I r q
section
variable {g : Gd} {X : Cx} {W : WX} {x : Str} {p pos : Pos} {e : Expr} {es : List Expr} {G : DA} {o : List D → Sto → R D} {id T : String}
theorem oe_callB (c : Ck g X W) (h : Bi g X W (.builtin id) o) (hv : bootBuiltins x = some (.builtin id)) (hm : g.mg x = none) (ha : OA g X W (e :: es) G) (hg : L2.Gl X x := by rfl) (hn : x ≠ "__name__" := by decide) (hdb : (x == ("__debug__" : Str)) = false := by decide)
    (he : starEach (e :: es) X.env = (false, eval e X.env) :: starEach es X.env := by rfl) (hpl : (backTo pos (starEach es X.env)).any (·.1) = false := by rfl) : OE g X W (.Call (.Name x p) (e :: es) [] pos) (eCall o G) :=
  ofE (pe_callB anyC hg (by rw [c.hmg]; exact hm) hv ha hn hdb he hpl) fun σ H Q ⟨α, env, st, hE, hS, p⟩ =>
    tA.run hE hS (p.bind.imp fun ds st1 α1 H1 x1 s1 q vs r => h σ α1 H1 st1 ds vs Q s1 r q)
theorem oe_callTy (c : Ck g X W) (h : Bi g X W (.type T) o) (hv : bootBuiltins x = some (.type T)) (hm : g.mg x = none) (ha : OA g X W (e :: es) G) (hg : L2.Gl X x := by rfl) (hn : x ≠ "__name__" := by decide) (hdb : (x == ("__debug__" : Str)) = false := by decide)
    (he : starEach (e :: es) X.env = (false, eval e X.env) :: starEach es X.env := by rfl) (hpl : (backTo pos (starEach es X.env)).any (·.1) = false := by rfl) : OE g X W (.Call (.Name x p) (e :: es) [] pos) (eCall o G) :=
  ofE (pe_callTy anyC hg (by rw [c.hmg]; exact hm) hv ha hn hdb he hpl) fun σ H Q ⟨α, env, st, hE, hS, p⟩ =>
    tA.run hE hS (p.bind.imp fun ds st1 α1 H1 x1 s1 q vs r => h σ α1 H1 st1 ds vs Q s1 r q)
theorem oe_callBL (c : Ck g X W) (h : BiL g X W (.builtin id) o) (hv : bootBuiltins x = some (.builtin id)) (hm : g.mg x = none) (ha : OL g X W e G) (hg : L2.Gl X x := by rfl) (hn : x ≠ "__name__" := by decide) (hdb : (x == ("__debug__" : Str)) = false := by decide)
    (he : starEach [e] X.env = (false, eval e X.env) :: starEach [] X.env := by rfl) (hpl : (backTo pos (starEach [] X.env)).any (·.1) = false := by rfl) : OE g X W (.Call (.Name x p) [e] [] pos) (eCall o G) :=
  ofE (pe_callB anyC hg (by rw [c.hmg]; exact hm) hv (pa_cons ha pa_nil he) hn hdb he hpl) fun σ H Q ⟨α, env, st, hE, hS, p⟩ =>
    ⟨α, env, st, hE, hS, p.bind.imp fun ds st1 α1 H1 x1 s1 q a vs _ hna ha r => h σ α1 H1 st1 ds a vs Q s1 hna ha r q⟩
theorem oe_callTyL (c : Ck g X W) (h : BiL g X W (.type T) o) (hv : bootBuiltins x = some (.type T)) (hm : g.mg x = none) (ha : OL g X W e G) (hg : L2.Gl X x := by rfl) (hn : x ≠ "__name__" := by decide) (hdb : (x == ("__debug__" : Str)) = false := by decide)
    (he : starEach [e] X.env = (false, eval e X.env) :: starEach [] X.env := by rfl) (hpl : (backTo pos (starEach [] X.env)).any (·.1) = false := by rfl) : OE g X W (.Call (.Name x p) [e] [] pos) (eCall o G) :=
  ofE (pe_callTy anyC hg (by rw [c.hmg]; exact hm) hv (pa_cons ha pa_nil he) hn hdb he hpl) fun σ H Q ⟨α, env, st, hE, hS, p⟩ =>
    ⟨α, env, st, hE, hS, p.bind.imp fun ds st1 α1 H1 x1 s1 q a vs _ hna ha r => h σ α1 H1 st1 ds a vs Q s1 hna ha r q⟩
end

def toI : D → Option Int
  | .int i => some i
  | _ => none
def toB : D → Option Bool
  | .bl b => some b
  | _ => none
def toS : D → Option Str
  | .str x => some x
  | _ => none
def lenB : List D → Sto → R D
  | [.tup ds], st => .ok (.int (ds.length : Nat)) st
  | [.str z], st => if z.length ≤ sizeLine then .ok (.int (z.length : Nat)) st else .stuck
  | [.obj n], st => match seqOf st n with
    | some ds => .ok (.int (ds.length : Nat)) st
    | none => (match st[n]? with | some (.dic kvs) => .ok (.int (kvs.length : Nat)) st | _ => .stuck)
  | [.kl ds], st => .ok (.int (ds.length : Nat)) st
  | _, _ => .stuck
def absB : List D → Sto → R D
  | [.int i], st => .ok (.int (if i < 0 then -i else i)) st
  | _, _ => .stuck
def maxB : List D → Sto → R D
  | [.int i, .int j], st => .ok (.int (if j > i then j else i)) st
  | _, _ => .stuck
def minB : List D → Sto → R D
  | [.int i, .int j], st => .ok (.int (if j < i then j else i)) st
  | _, _ => .stuck
def intB : List D → Sto → R D
  | [.int i], st => .ok (.int i) st
  | [.bl k], st => .ok (.int (if k then 1 else 0)) st
  | _, _ => .stuck
def strB : List D → Sto → R D
  | [.int i], st => if i.natAbs.log2 < 1920 then .ok (.str (toString i)) st else .stuck
  | [.str x], st => .ok (.str x) st
  | [.bl b], st => .ok (.str (if b then "True" else "False")) st
  | [.non], st => .ok (.str "None") st
  | _, _ => .stuck
def tupleL (ds : List D) (st : Sto) : R D := .ok (.tup ds) st
def tupleB : List D → Sto → R D
  | [.tup ds], st => .ok (.tup ds) st
  | [.obj n], st => match seqOf st n with | some ds => .ok (.tup ds) st | none => .stuck
  | _, _ => .stuck
def listL (ds : List D) (st : Sto) : R D := new (.lst ds) st
def listB : List D → Sto → R D
  | [.tup ds], st => new (.lst ds) st
  | [.obj n], st => match seqOf st n with | some ds => new (.lst ds) st | none => .stuck
  | _, _ => .stuck
def sumL (ds : List D) (st : Sto) : R D := match allO toI ds with | some ns => .ok (.int ns.sum) st | none => .stuck
def allL (ds : List D) (st : Sto) : R D := match allO toB ds with | some bs => .ok (.bl (bs.all id)) st | none => .stuck
def anyL (ds : List D) (st : Sto) : R D := match allO toB ds with | some bs => .ok (.bl (bs.any id)) st | none => .stuck
/-- a built-in of a list, asked of a list of the store -/
def ofL (o : List D → Sto → R D) : List D → Sto → R D
  | [.obj n], st => match seqOf st n with | some ds => o ds st | none => .stuck
  | _, _ => .stuck
section
variable {g : Gd} {X : Cx} {W : WX} {α : List Addr} {H : Hp} {st : Sto}
theorem RDs.one {d : D} {vs : List V} (h : RDs g α H [d] vs) : ∃ v, vs = [v] ∧ RD g α H d v := by
  obtain ⟨v, _, rfl, h1, rfl⟩ := h
  exact ⟨v, rfl, h1⟩
theorem toIs : ∀ {ds : List D} {vs : List V} {ns : List Int}, RDs g α H ds vs → allO toI ds = some ns → vs = ns.map V.int
  | [], vs, xs, h, e => by cases e; cases h; rfl
  | d :: ds, vs, xs, h, e => by
    obtain ⟨v, r, rfl, h1, h2⟩ := h
    rw [allO] at e
    split at e
    · rename_i b bs e1 e2
      cases e
      rw [toIs h2 e2]
      cases d <;> cases e1
      cases h1
      rfl
    · cases e
theorem toBs : ∀ {ds : List D} {vs : List V} {ns : List Bool}, RDs g α H ds vs → allO toB ds = some ns → vs = ns.map V.bl
  | [], vs, xs, h, e => by cases e; cases h; rfl
  | d :: ds, vs, xs, h, e => by
    obtain ⟨v, r, rfl, h1, h2⟩ := h
    rw [allO] at e
    split at e
    · rename_i b bs e1 e2
      cases e
      rw [toBs h2 e2]
      cases d <;> cases e1
      cases h1
      rfl
    · cases e
theorem toSs : ∀ {ds : List D} {vs : List V} {ns : List Str}, RDs g α H ds vs → allO toS ds = some ns → vs = ns.map V.str
  | [], vs, xs, h, e => by cases e; cases h; rfl
  | d :: ds, vs, xs, h, e => by
    obtain ⟨v, r, rfl, h1, h2⟩ := h
    rw [allO] at e
    split at e
    · rename_i b bs e1 e2
      cases e
      rw [toSs h2 e2]
      cases d <;> cases e1
      cases h1
      rfl
    · cases e
theorem bi_len (c : Ck g X W) : Bi g X W (.builtin "len") lenB := by
  intro σ α H st ds vs Q s r p
  unfold lenB at p
  split at p
  · obtain ⟨v, rfl, a, ws, rfl, h1, r1⟩ := r.one
    exact ⟨_, call_len_seq, a, ws, rfl, .inr (by rw [c.hK]; exact h1), by rw [← r1.length]; exact PD.ok p s rfl⟩
  · obtain ⟨v, rfl, r1⟩ := r.one
    cases r1
    split at p
    · rename_i hl
      exact ⟨_, call_len_str, _, rfl, hl, PD.ok p s rfl⟩
    · exact p.elim
  · obtain ⟨v, rfl, r1⟩ := r.one
    split at p
    · rename_i e
      obtain ⟨a, ws, rfl, _, h1, r2⟩ := s.seq r1 e
      exact ⟨_, call_len_seq, a, ws, rfl, .inl (by rw [c.hK]; exact h1), by rw [← r2.length]; exact PD.ok p s rfl⟩
    · split at p
      · rename_i kvs e
        obtain ⟨a, rfl, ha⟩ := r1
        obtain ⟨ws, h1, h2⟩ := s.ob _ a _ ha e
        have hl : kvs.length = ws.length := by
          clear p h1 e
          induction kvs generalizing ws with
          | nil => cases h2; rfl
          | cons k ks ih => obtain ⟨_, r, rfl, _, h3⟩ := h2; simp [ih r h3]
        exact ⟨_, call_lenD, a, ws, rfl, h1, by rw [← hl]; exact PD.ok p s rfl⟩
      · exact p.elim
  · obtain ⟨v, rfl, a, ws, rfl, h1, r1⟩ := r.one
    exact ⟨_, call_len_seq, a, ws, rfl, .inl (by rw [c.hK]; exact h1.sq), by rw [← r1.length]; exact PD.ok p s rfl⟩
  · exact p.elim
theorem bi_abs : Bi g X W (.builtin "abs") absB := by
  intro σ α H st ds vs Q s r p
  unfold absB at p
  split at p
  · obtain ⟨v, rfl, r1⟩ := r.one
    cases r1
    exact ⟨_, call_abs, _, rfl, PD.ok p s rfl⟩
  · exact p.elim
theorem bi_max (c : Ck g X W) : Bi g X W (.builtin "max") maxB := by
  intro σ α H st ds vs Q s r p
  unfold maxB at p
  split at p
  · cases ints2 r
    exact ⟨_, call_max2 c.calm, _, _, rfl, PD.ok p s rfl⟩
  · exact p.elim
theorem bi_min (c : Ck g X W) : Bi g X W (.builtin "min") minB := by
  intro σ α H st ds vs Q s r p
  unfold minB at p
  split at p
  · cases ints2 r
    exact ⟨_, call_min2 c.calm, _, _, rfl, PD.ok p s rfl⟩
  · exact p.elim
theorem bi_int : Bi g X W (.type "int") intB := by
  intro σ α H st ds vs Q s r p
  unfold intB at p
  split at p
  · obtain ⟨v, rfl, r1⟩ := r.one
    cases r1
    exact ⟨_, call_int1, .inl ⟨_, rfl, PD.ok p s rfl⟩⟩
  · obtain ⟨v, rfl, r1⟩ := r.one
    cases r1
    exact ⟨_, call_int1, .inr ⟨_, rfl, PD.ok p s rfl⟩⟩
  · exact p.elim
theorem call_str_bl : CallR X (.type "str") (fun xs H Q => ∃ b : Bool, xs = [.bl b] ∧ Q (.str (if b then "True" else "False")) H) := by
  intro pins s σ H xs us Q I r h
  obtain ⟨b, rfl, q⟩ := h
  obtain ⟨u, rfl, ru⟩ := vals1 r
  cases ru
  exact PySem.P.str_of_bool ⟨.str _, H, I.tok _, ⟨_, rfl⟩, q⟩
theorem call_str_non : CallR X (.type "str") (fun xs H Q => xs = [.non] ∧ Q (.str "None") H) := by
  intro pins s σ H xs us Q I r h
  obtain ⟨rfl, q⟩ := h
  obtain ⟨u, rfl, ru⟩ := vals1 r
  cases ru
  exact PySem.P.str_of_none ⟨.str _, H, I.tok _, ⟨_, rfl⟩, q⟩
theorem bi_str : Bi g X W (.type "str") strB := by
  intro σ α H st ds vs Q s r p
  unfold strB at p
  split at p
  · obtain ⟨v, rfl, r1⟩ := r.one
    cases r1
    split at p
    · rename_i hl
      exact ⟨_, call_str_int, _, rfl, hl, PD.ok p s rfl⟩
    · exact p.elim
  · obtain ⟨v, rfl, r1⟩ := r.one
    cases r1
    exact ⟨_, SkE.call_str_str, _, rfl, PD.ok p s rfl⟩
  · obtain ⟨v, rfl, r1⟩ := r.one
    cases r1
    exact ⟨_, call_str_bl, _, rfl, PD.ok p s rfl⟩
  · obtain ⟨v, rfl, r1⟩ := r.one
    cases r1
    exact ⟨_, call_str_non, rfl, PD.ok p s rfl⟩
  · exact p.elim
theorem bil_tuple (c : Ck g X W) : BiL g X W (.type "tuple") tupleL := by
  intro σ α H st ds a vs Q s hn ha r p
  exact ⟨_, call_tuple_of, a, vs, rfl, .inl ⟨.inl (.inl ha), PD.tup p s r⟩⟩
theorem bi_tuple (c : Ck g X W) : Bi g X W (.type "tuple") tupleB := by
  intro σ α H st ds vs Q s r p
  unfold tupleB at p
  split at p
  · obtain ⟨v, rfl, a, ws, rfl, h1, r1⟩ := r.one
    exact ⟨_, call_tuple_of, a, ws, rfl, .inr ⟨by rw [c.hK]; exact h1, PD.ok p s ⟨a, ws, rfl, h1, r1⟩⟩⟩
  · obtain ⟨v, rfl, r1⟩ := r.one
    split at p
    · rename_i e
      obtain ⟨a, ws, rfl, _, h1, r2⟩ := s.seq r1 e
      exact ⟨_, call_tuple_of, a, ws, rfl, .inl ⟨by rw [c.hK]; exact h1, PD.tup p s r2⟩⟩
    · exact p.elim
  · exact p.elim
theorem bil_list (c : Ck g X W) : BiL g X W (.type "list") listL := by
  intro σ α H st ds a vs Q s hn ha r p
  exact ⟨_, call_list_of, a, vs, rfl, .inl (.inl (.inl ha)), PD.lst p s r⟩
theorem bi_list (c : Ck g X W) : Bi g X W (.type "list") listB := by
  intro σ α H st ds vs Q s r p
  unfold listB at p
  split at p
  · obtain ⟨v, rfl, a, ws, rfl, h1, r1⟩ := r.one
    exact ⟨_, call_list_of, a, ws, rfl, .inr (by rw [c.hK]; exact h1), PD.lst p s r1⟩
  · obtain ⟨v, rfl, r1⟩ := r.one
    split at p
    · rename_i e
      obtain ⟨a, ws, rfl, _, h1, r2⟩ := s.seq r1 e
      exact ⟨_, call_list_of, a, ws, rfl, .inl (by rw [c.hK]; exact h1), PD.lst p s r2⟩
    · exact p.elim
  · exact p.elim
/-- of any list that is read -/
def BiS (g : Gd) (X : Cx) (W : WX) (f : Value) (o : List D → Sto → R D) : Prop :=
  ∀ (σ : L2.St) (α : List Addr) (H : Hp) (st : Sto) (ds : List D) (a : Addr) (vs : List V) (Q : VK), StR g α st H → SqL g.K H a vs → RDs g α H ds vs → PD g W σ α H (o ds st) Q → ∃ r, CallR X f r ∧ r [.ref a] H Q
theorem BiS.l {f : Value} {o : List D → Sto → R D} (h : BiS g X W f o) : BiL g X W f o := fun σ α H st ds a vs Q s _ ha r p => h σ α H st ds a vs Q s (.inl (.inl ha)) r p
theorem BiS.b {f : Value} {o : List D → Sto → R D} (h : BiS g X W f o) : Bi g X W f (ofL o) := by
  intro σ α H st ds vs Q s r p
  unfold ofL at p
  split at p
  · obtain ⟨v, rfl, r1⟩ := r.one
    split at p
    · rename_i e
      obtain ⟨a, ws, rfl, _, h1, r2⟩ := s.seq r1 e
      exact h σ α H st _ a ws Q s h1 r2 p
    · exact p.elim
  · exact p.elim
theorem bis_sum (c : Ck g X W) : BiS g X W (.builtin "sum") sumL := by
  intro σ α H st ds a vs Q s ha r p
  unfold sumL at p
  split at p
  · rename_i ns e
    cases toIs r e
    exact ⟨_, cr_sum c.calm, a, ns, rfl, by rw [c.hK]; exact ha, PD.ok p s rfl⟩
  · exact p.elim
theorem bis_all (c : Ck g X W) : BiS g X W (.builtin "all") allL := by
  intro σ α H st ds a vs Q s ha r p
  unfold allL at p
  split at p
  · rename_i ns e
    cases toBs r e
    exact ⟨_, cr_all c.calm, a, ns, rfl, by rw [c.hK]; exact ha, PD.ok p s rfl⟩
  · exact p.elim
theorem bis_any (c : Ck g X W) : BiS g X W (.builtin "any") anyL := by
  intro σ α H st ds a vs Q s ha r p
  unfold anyL at p
  split at p
  · rename_i ns e
    cases toBs r e
    exact ⟨_, cr_any c.calm, a, ns, rfl, by rw [c.hK]; exact ha, PD.ok p s rfl⟩
  · exact p.elim
end

/-! ### repr -/
def reprO (p : PyData) : Option Str := if (p.showable && decide (p.depth ≤ 64) && decide (p.shown.length ≤ sizeLine)) = true ∧ p.hasDict = false then some p.shown else none
def reprB : List D → Sto → R D
  | [d], st => match toP st 66 d with
    | some p => (match reprO p with | some x => .ok (.str x) st | none => .stuck)
    | none => .stuck
  | _, _ => .stuck
section
variable {g : Gd} {X : Cx} {W : WX}
theorem call_reprD (hg : X.A.guards = some []) (hu : X.A.units + 200 < cLine) : CallR X (.builtin "repr") (fun xs H Q => ∃ v p, xs = [v] ∧ Dp X.K H v p ∧ p.showable = true ∧ p.depth ≤ 64 ∧ p.shown.length ≤ sizeLine ∧ p.hasDict = false ∧ Q (.str p.shown) H) := by
  intro pins s σ H xs us Q I r h
  obtain ⟨v, p, rfl, hd, h1, h2, h3, h4, q⟩ := h
  obtain ⟨u, rfl, ru⟩ := vals1 r
  obtain ⟨as, rd⟩ := Dp.reads I p v u hd ru
  cases hd with
  | non => cases ru; exact PySem.P.repr_of_none ⟨.str _, H, I.tok _, ⟨_, rfl⟩, q⟩
  | bl b => cases ru; exact PySem.P.repr_of_bool ⟨.str _, H, I.tok _, ⟨_, rfl⟩, q⟩
  | int i =>
    obtain ⟨t, rfl⟩ := ru
    have : i.natAbs.log2 < 1920 := by simpa [PyData.showable] using h1
    exact PySem.P.repr_of_int this ⟨.str _, H, I.tok _, ⟨_, rfl⟩, q⟩
  | str x =>
    obtain ⟨t, rfl⟩ := ru
    exact PySem.P.repr_of_str ⟨.str _, H, I.tok _, ⟨_, rfl⟩, q⟩ h3
  | lst hs ha =>
    cases ru
    exact repr_of_reads' rd h1 (PyData.noDict_hsm h4) hg (by omega) (fun _ _ e => e) (fun h' u tk hk => ⟨.str _, H, I.kept (t' := tk) hk, ⟨_, rfl⟩, q⟩) h3
  | tup hs ha =>
    cases ru
    exact repr_of_reads' rd h1 (PyData.noDict_hsm h4) hg (by omega) (fun _ _ e => e) (fun h' u tk hk => ⟨.str _, H, I.kept (t' := tk) hk, ⟨_, rfl⟩, q⟩) h3
theorem bi_repr (c : Ck g X W) : Bi g X W (.builtin "repr") reprB := by
  intro σ α H st ds vs Q s r p
  unfold reprB at p
  split at p
  · obtain ⟨v, rfl, r1⟩ := r.one
    split at p
    · rename_i pd e
      split at p
      · rename_i x e2
        unfold reprO at e2
        split at e2
        · rename_i hh
          cases e2
          obtain ⟨h0, h4⟩ := hh
          simp only [Bool.and_eq_true, decide_eq_true_eq] at h0
          have d := dp s _ _ _ _ e r1
          rw [← c.hK] at d
          exact ⟨_, call_reprD c.gd c.hu, v, pd, rfl, d, h0.1.1, h0.1.2, h0.2, h4, PD.ok p s rfl⟩
        · cases e2
      · exact p.elim
    · exact p.elim
  · exact p.elim
end
end Mi

namespace Mi
open PySem L2

/-! ### isinstance -/
inductive Ty where
  | non | bool | int | str | tuple | list | dict
  deriving DecidableEq
def Ty.nm : Ty → String
  | .non => "NoneType" | .bool => "bool" | .int => "int" | .str => "str" | .tuple => "tuple" | .list => "list" | .dict => "dict"
def isi : Ty → Ty → Bool
  | .bool, .int => true
  | a, b => decide (a = b)
theorem isi_kit (a b : Ty) : kitB a.nm b.nm = some (isi a b) := by cases a <;> cases b <;> decide +kernel
def tyD : D → Sto → Option Ty
  | .non, _ => some .non
  | .bl _, _ => some .bool
  | .int _, _ => some .int
  | .str _, _ => some .str
  | .tup _, _ => some .tuple
  | .kl _, _ => some .list
  | .obj n, st => match st[n]? with
    | some (.lst _) => some .list
    | some (.frz _) => some .list
    | some (.dic _) => some .dict
    | _ => none
  | _, _ => none
def isiD (T : Ty) (d : D) (st : Sto) : R D := match tyD d st with | some t => .ok (.bl (isi t T)) st | none => .stuck
section
variable {g : Gd} {X : Cx} {W : WX} {α : List Addr} {H : Hp} {st : Sto}
theorem tyX (s : StR g α st H) {d : D} {v : V} {t : Ty} (h : RD g α H d v) (e : tyD d st = some t) : TyX g.K H v (.type t.nm) := by
  have sq : ∀ {a : Addr} {vs : List V}, SqT g.K H a vs → TyX g.K H (.ref a) (.type "tuple") := fun {a vs} q => by
    rcases q with (q | ⟨o, q⟩) | ⟨o, its, n, q1, q2, _⟩
    · exact .base (.tup q)
    · exact .fTuple q
    · exact .kTuple q1 q2
  cases d with
  | non => cases e; cases h; exact .base .non
  | bl => cases e; cases h; exact .base (.bl _)
  | int => cases e; cases h; exact .base (.int _)
  | str => cases e; cases h; exact .base (.str _)
  | tup ds =>
    cases e
    obtain ⟨a, vs, rfl, h1, _⟩ := h
    exact sq h1
  | kl ds =>
    cases e
    obtain ⟨a, vs, rfl, h1, _⟩ := h
    rcases h1 with ⟨o, h1⟩ | h1 | ⟨o, its, n, q1, q2, _⟩
    · exact .base (.frz h1)
    · rcases h1 with h1 | ⟨o, h1⟩ <;> cases h1
    · exact .kList q1 q2
  | obj n =>
    obtain ⟨a, rfl, ha⟩ := h
    dsimp only [tyD] at e
    split at e
    · rename_i ds e'
      cases e
      obtain ⟨vs, h1, _⟩ := s.ob n a _ ha e'
      exact .base (.lst h1)
    · rename_i ds e'
      cases e
      obtain ⟨o, vs, h1, _⟩ := s.ob n a _ ha e'
      exact .base (.frz h1)
    · rename_i ds e'
      cases e
      obtain ⟨vs, h1, _⟩ := s.ob n a _ ha e'
      exact .base (.dK h1)
    · cases e
  | fn => cases e
  | ty => cases e
  | ev => exact h.elim
theorem oe_isi (c : Ck g X W) (T : Ty) {a : Expr} {Fa : DE} {x : Str} {p p2 pos : Pos} (ha : OE g X W a Fa) (hv : bootBuiltins x = some (.type T.nm)) (hb : bootBuiltins "isinstance" = some (.builtin "isinstance")) (hm1 : g.mg "isinstance" = none) (hm2 : g.mg x = none) (hg1 : L2.Gl X "isinstance" := by rfl) (hg2 : L2.Gl X x := by rfl)
    (hn : x ≠ "__name__" := by decide) (hdb : (x == ("__debug__" : Str)) = false := by decide) (he : starEach [a, .Name x p2] X.env = (false, eval a X.env) :: starEach [.Name x p2] X.env := by rfl) :
    OE g X W (.Call (.Name "isinstance" p) [a, .Name x p2] [] pos) (e1 (isiD T) Fa) :=
  ofE (pe_callB call_isi hg1 (by rw [c.hmg]; exact hm1) hb (pa_cons ha (pa_cons (pe_bltn (v := .ty T.nm) hg2 (by rw [c.hmg]; exact hm2) hv rfl hn hdb) pa_nil (by rfl)) he) (by decide) (by decide) he (by rfl)) fun σ H Q ⟨α, env, st, hE, hS, p⟩ => by
    refine tE.run hE hS (p.bind.imp fun d1 st1 α1 H1 x1 s1 q v1 r1 => ?_)
    unfold isiD at q
    split at q
    · rename_i t e
      refine ⟨v1, .ty T.nm, .type t.nm, .type T.nm, _, rfl, .ty _, by rw [c.hK]; exact tyX s1 r1 e, kit_ty (isi_kit t T), q.ok s1 _ rfl⟩
    · exact q.elim
/-- a value of the module's top -/
theorem oe_glob (c : Ck g X W) {x : Str} {v : V} {u : Value} {d : D} {pos : Pos} (hm : g.mg x = some u) (r : RelV v u) (rd : ∀ α H, RD g α H d v) (hg : L2.Gl X x := by rfl) (hd : (x == ("__debug__" : Str)) = false := by decide) : OE g X W (.Name x pos) (eC d) :=
  oe_c (pe_glob hg (by rw [c.hmg]; exact hm) r hd) rd
end

/-! ### methods of built-ins -/
def hasT : String → D → Sto → Bool
  | "str", .str _, _ => true
  | "list", .obj n, st => (seqOf st n).isSome
  | "list", .kl _, _ => true
  | "dict", .obj n, st => (match st[n]? with | some (.dic _) => true | _ => false)
  | _, _, _ => false
def eMt (T : String) (o : D → List D → Sto → R D) (Fo : DE) (G : DA) : DE := fun env st => (Fo env st).bind fun a st1 => if hasT T a st1 = true then (G env st1).bind fun ds st2 => o a ds st2 else .stuck
def eMt0 (T : String) (o : D → List D → Sto → R D) (Fo : DE) : DE := fun env st => (Fo env st).bind fun a st1 => if hasT T a st1 = true then o a [] st1 else .stuck
def Mt (g : Gd) (X : Cx) (W : WX) (id : String) (o : D → List D → Sto → R D) : Prop :=
  ∀ (σ : L2.St) (α : List Addr) (H : Hp) (st : Sto) (a : D) (x : V) (ds : List D) (vs : List V) (Q : VK), StR g α st H → RD g α H a x → RDs g α H ds vs → PD g W σ α H (o a ds st) Q → ∃ r, MtR X id r ∧ r x vs H Q
theorem anyM {X : Cx} {id : String} : MtR X id (fun x xs H Q => ∃ r, MtR X id r ∧ r x xs H Q) := fun pins s σ H x xs v us Q I rx r ⟨_, h, q⟩ => h pins s σ H x xs v us Q I rx r q
section
variable {g : Gd} {X : Cx} {W : WX} {α : List Addr} {H : Hp} {st : Sto}
theorem hasT_v (s : StR g α st H) {T : String} {d : D} {v : V} (h : RD g α H d v) (e : hasT T d st = true) : tyV g.K T v H := by
  unfold hasT at e
  split at e
  · cases h; rfl
  · rw [Option.isSome_iff_exists] at e
    obtain ⟨ds, e⟩ := e
    obtain ⟨a, vs, rfl, _, h1, _⟩ := s.seq h e
    exact .inl ⟨rfl, vs, h1⟩
  · obtain ⟨a, vs, rfl, h1, _⟩ := h
    exact .inl ⟨rfl, vs, h1.sq⟩
  · split at e
    · rename_i kvs e'
      obtain ⟨a, rfl, ha⟩ := h
      obtain ⟨vs, h1, _⟩ := s.ob _ a _ ha e'
      exact .inr (.inr (.inl ⟨rfl, .inl ⟨vs, h1⟩⟩))
    · cases e
  · cases e
variable {e ob : Expr} {es : List Expr} {G : DA} {Fo : DE} {o : D → List D → Sto → R D} {T id : String} {name : Str} {apos cpos : Pos}
theorem oe_mt (c : Ck g X W) (pa : PlainAttrs T) (slot : Slot T name id) (hty : typeOf (.builtin id) = pure (.type "method_descriptor")) (hm : Mt g X W id o) (ho : OE g X W ob Fo) (ha : OA g X W (e :: es) G)
    (hbase : attributeBase ob name X.env (eval ob X.env) = eval ob X.env := by rfl)
    (hfew : ((backTo cpos (starEach (e :: es) X.env)).all (fun x => !x.1) && (backToKw cpos (keywordEach [] X.env)).all (fun x => x.1.isSome)
      && decide ((e :: es).length + ([] : List Keyword).length + (if ([] : List Keyword).isEmpty then 0 else 1) < 30)) = true := by rfl)
    (hline : (apos.endLine == cpos.line) = true := by rfl) (hs : starEach (e :: es) X.env = (false, eval e X.env) :: starEach es X.env := by rfl) (hpl : (backTo cpos (starEach es X.env)).any (·.1) = false := by rfl) :
    OE g X W (.Call (.Attribute ob name apos) (e :: es) [] cpos) (eMt T o Fo G) :=
  ofE (pe_bm pa slot hty anyM ho ha hbase hfew hline hs hpl) fun σ H Q ⟨α, env, st, hE, hS, p⟩ => by
    refine tE.run hE hS (p.bind.imp fun d1 st1 α1 H1 x1 s1 q v1 r1 => ?_)
    split at q
    · rename_i ht
      refine ⟨by rw [c.hK]; exact hasT_v s1 r1 ht, ?_⟩
      exact tA.run (hE.mono x1) s1 (q.bind.imp fun ds st2 α2 H2 x2 s2 q2 vs r2 => hm σ α2 H2 st2 d1 v1 ds vs Q s2 (r1.mono x2) r2 q2)
    · exact q.elim
theorem oe_mt0 (c : Ck g X W) (pa : PlainAttrs T) (slot : Slot T name id) (hty : typeOf (.builtin id) = pure (.type "method_descriptor")) (hm : Mt g X W id o) (ho : OE g X W ob Fo)
    (hbase : attributeBase ob name X.env (eval ob X.env) = eval ob X.env := by rfl) (hline : (apos.endLine == cpos.line) = true := by rfl) : OE g X W (.Call (.Attribute ob name apos) [] [] cpos) (eMt0 T o Fo) :=
  ofE (pe_bm0 pa slot hty anyM ho hbase hline) fun σ H Q ⟨α, env, st, hE, hS, p⟩ => by
    refine tE.run hE hS (p.bind.imp fun d1 st1 α1 H1 x1 s1 q v1 r1 => ?_)
    split at q
    · rename_i ht
      exact ⟨by rw [c.hK]; exact hasT_v s1 r1 ht, hm σ α1 H1 st1 d1 v1 [] [] Q s1 r1 RDs.nil q⟩
    · exact q.elim
/-- one argument, a new list -/
theorem oe_mtL (c : Ck g X W) (pa : PlainAttrs T) (slot : Slot T name id) (hty : typeOf (.builtin id) = pure (.type "method_descriptor"))
    (hm : ∀ (σ : L2.St) (α : List Addr) (H : Hp) (st : Sto) (a : D) (x : V) (ds : List D) (b : Addr) (vs : List V) (Q : VK), StR g α st H → RD g α H a x → H b = some (.lst vs) → b ∉ α → RDs g α H ds vs → PD g W σ α H (o a ds st) Q → ∃ r, MtR X id r ∧ r x [.ref b] H Q) (ho : OE g X W ob Fo) (ha : OL g X W e G)
    (hbase : attributeBase ob name X.env (eval ob X.env) = eval ob X.env := by rfl)
    (hfew : ((backTo cpos (starEach [e] X.env)).all (fun x => !x.1) && (backToKw cpos (keywordEach [] X.env)).all (fun x => x.1.isSome)
      && decide ([e].length + ([] : List Keyword).length + (if ([] : List Keyword).isEmpty then 0 else 1) < 30)) = true := by rfl)
    (hline : (apos.endLine == cpos.line) = true := by rfl) (hs : starEach [e] X.env = (false, eval e X.env) :: starEach [] X.env := by rfl) (hpl : (backTo cpos (starEach [] X.env)).any (·.1) = false := by rfl) :
    OE g X W (.Call (.Attribute ob name apos) [e] [] cpos) (eMt T o Fo G) :=
  ofE (pe_bm pa slot hty anyM ho (pa_cons ha pa_nil hs) hbase hfew hline hs hpl) fun σ H Q ⟨α, env, st, hE, hS, p⟩ => by
    refine tE.run hE hS (p.bind.imp fun d1 st1 α1 H1 x1 s1 q v1 r1 => ?_)
    split at q
    · rename_i ht
      refine ⟨by rw [c.hK]; exact hasT_v s1 r1 ht, ?_⟩
      exact ⟨α1, env, st1, hE.mono x1, s1, q.bind.imp fun ds st2 α2 H2 x2 s2 q2 b vs _ hnb hb r2 => hm σ α2 H2 st2 d1 v1 ds b vs Q s2 (r1.mono x2) hb hnb r2 q2⟩
    · exact q.elim
end
def appendM : D → List D → Sto → R D
  | .obj n, [d], st => match st[n]? with | some (.lst ds) => if ds.length < sizeLine then .ok .non (st.set n (.lst (ds ++ [d]))) else .stuck | _ => .stuck
  | _, _, _ => .stuck
def extendM : D → List D → Sto → R D
  | .obj n, [.obj m], st => match st[n]?, st[m]? with | some (.lst ds), some (.lst es) => if ds.length + es.length ≤ sizeLine then .ok .non (st.set n (.lst (ds ++ es))) else .stuck | _, _ => .stuck
  | _, _, _ => .stuck
def findM : D → List D → Sto → R D
  | .str a, [.str b], st => .ok (.int (Txt.find a b)) st
  | _, _, _ => .stuck
def lowerM : D → List D → Sto → R D
  | .str a, [], st => if a.length ≤ 5592405 then .ok (.str (Txt.lower a)) st else .stuck
  | _, _, _ => .stuck
def upperM : D → List D → Sto → R D
  | .str a, [], st => if a.length ≤ 5592405 then .ok (.str (Txt.upper a)) st else .stuck
  | _, _, _ => .stuck
def joinL : D → List D → Sto → R D
  | .str a, ds, st => match allO toS ds with | some ys => if (ys.map (·.length)).sum + ys.length * a.length ≤ 16777216 then .ok (.str (Txt.join a ys)) st else .stuck | none => .stuck
  | _, _, _ => .stuck
def firstAt (y : V) : List V → Nat → Option Nat
  | [], _ => none
  | z :: zs, k => if eqV z y = true then some k else firstAt y zs (k + 1)
def indexM : D → List D → Sto → R D
  | a, [d], st => (match (match a with | .obj n => seqOf st n | .kl ds => some ds | _ => none) with
    | some ds => (match toV d, allO toV ds with | some y, some ys => (match firstAt y ys 0 with | some j => .ok (.int (j : Nat)) st | none => .stuck) | _, _ => .stuck)
    | none => .stuck)
  | _, _, _ => .stuck
section
variable {g : Gd} {X : Cx} {W : WX}
theorem mtr {id : String} {r : V → List V → Hp → VK → Prop} (h : MtM X id r) : MtR X id r := h
theorem mt_appendD : Mt g X W "list.append" appendM := by
  intro σ α H st a x ds vs Q s ra rs p
  unfold appendM at p
  split at p
  · split at p
    · split at p
      · rename_i n d xs e hl
        obtain ⟨a1, ws, rfl, ha, h1, r1⟩ := s.lst ra e
        obtain ⟨v, rfl, rv⟩ := rs.one
        have ex : Ext α H α (upd H a1 (.lst (ws ++ [v]))) := ext_write s ha ⟨_, h1, fun _ z => (nomatch z), fun _ _ z => (nomatch z)⟩
        refine ⟨_, mtr mt_append, a1, ws, v, rfl, rfl, h1, by rw [← r1.length]; exact hl, ?_⟩
        exact p α _ ex (s.write ha ex ⟨_, upd_same, (r1.append (.cons rv .nil)).mono ex⟩) _ rfl
      · exact p.elim
    · exact p.elim
  · exact p.elim
theorem mt_extendD : Mt g X W "list.extend" extendM := by
  intro σ α H st a x ds vs Q s ra rs p
  unfold extendM at p
  split at p
  · split at p
    · split at p
      · rename_i n m xs ys e e2 hl
        obtain ⟨a1, ws, rfl, ha, h1, r1⟩ := s.lst ra e
        obtain ⟨v, rfl, rv⟩ := rs.one
        obtain ⟨a2, us, rfl, _, h2, r2⟩ := s.lst rv e2
        have ex : Ext α H α (upd H a1 (.lst (ws ++ us))) := ext_write s ha ⟨_, h1, fun _ z => (nomatch z), fun _ _ z => (nomatch z)⟩
        refine ⟨_, mtr mt_extend, a1, a2, ws, us, rfl, rfl, h1, h2, by rw [← r1.length, ← r2.length]; exact hl, ?_⟩
        exact p α _ ex (s.write ha ex ⟨_, upd_same, (r1.append r2).mono ex⟩) _ rfl
      · exact p.elim
    · exact p.elim
  · exact p.elim
theorem mt_findD : Mt g X W "str.find" findM := by
  intro σ α H st a x ds vs Q s ra rs p
  unfold findM at p
  split at p
  · cases ra
    obtain ⟨v, rfl, rv⟩ := rs.one
    cases rv
    exact ⟨_, mt_find, _, _, rfl, rfl, PD.ok p s rfl⟩
  · exact p.elim
theorem mt_lowerD : Mt g X W "str.lower" lowerM := by
  intro σ α H st a x ds vs Q s ra rs p
  unfold lowerM at p
  split at p
  · cases ra
    cases rs
    split at p
    · rename_i hl
      exact ⟨_, mt_lower, _, rfl, rfl, hl, PD.ok p s rfl⟩
    · exact p.elim
  · exact p.elim
theorem mt_upperD : Mt g X W "str.upper" upperM := by
  intro σ α H st a x ds vs Q s ra rs p
  unfold upperM at p
  split at p
  · cases ra
    cases rs
    split at p
    · rename_i hl
      exact ⟨_, mt_upper, _, rfl, rfl, hl, PD.ok p s rfl⟩
    · exact p.elim
  · exact p.elim
theorem mtl_join (c : Ck g X W) : ∀ (σ : L2.St) (α : List Addr) (H : Hp) (st : Sto) (a : D) (x : V) (ds : List D) (b : Addr) (vs : List V) (Q : VK), StR g α st H → RD g α H a x → H b = some (.lst vs) → b ∉ α → RDs g α H ds vs → PD g W σ α H (joinL a ds st) Q → ∃ r, MtR X "str.join" r ∧ r x [.ref b] H Q := by
  intro σ α H st a x ds b vs Q s ra hb _ rs p
  unfold joinL at p
  split at p
  · cases ra
    split at p
    · rename_i ys e
      split at p
      · rename_i hl
        cases toSs rs e
        exact ⟨_, mt_join, _, b, ys, rfl, rfl, .inl (.inl (.inl hb)), hl, PD.ok p s rfl⟩
      · exact p.elim
    · exact p.elim
  · exact p.elim
theorem firstAt_ok {y : V} : ∀ {ys : List V} {k j : Nat}, firstAt y ys k = some j → k ≤ j ∧ (∃ z, ys[j - k]? = some z ∧ eqV z y = true) ∧ ∀ (m : Nat) (z' : V), m < j - k → ys[m]? = some z' → eqV z' y = false
  | [], k, j, h => by cases h
  | z :: zs, k, j, h => by
    rw [firstAt] at h
    split at h
    · rename_i e
      cases h
      exact ⟨Nat.le_refl _, ⟨z, by simp, e⟩, fun m z' hm => by omega⟩
    · rename_i e
      obtain ⟨h1, ⟨z', h2, h3⟩, h4⟩ := firstAt_ok h
      have ej : j - k = (j - (k + 1)) + 1 := by omega
      refine ⟨by omega, ⟨z', by rw [ej]; simpa using h2, h3⟩, fun m z'' hm hz => ?_⟩
      cases m with
      | zero => simp at hz; subst hz; simpa using e
      | succ m => exact h4 m z'' (by omega) (by simpa using hz)
theorem mt_indexD (c : Ck g X W) : Mt g X W "list.index" indexM := by
  intro σ α H st a x ds vs Q s ra rs p
  unfold indexM at p
  split at p
  · rename_i d
    obtain ⟨v, rfl, rv⟩ := rs.one
    have fin : ∀ {es : List D} {b : Addr} {ws : List V}, x = .ref b → SqL g.K H b ws → RDs g α H es ws → PD g W σ α H (match toV d, allO toV es with | some y, some ys => (match firstAt y ys 0 with | some j => .ok (.int (j : Nat)) st | none => .stuck) | _, _ => .stuck) Q → ∃ r, MtR X "list.index" r ∧ r x [v] H Q := fun {es b ws} hx hs r2 p => by
      split at p
      · rename_i y ys e1 e2
        split at p
        · rename_i j e3
          obtain ⟨_, ⟨z, h2, h3⟩, h4⟩ := firstAt_ok e3
          obtain ⟨rfl, f1⟩ := toV_ok rv e1
          obtain ⟨rfl, f2⟩ := toVs_ok r2 e2
          exact ⟨_, mt_index, b, _, _, j, z, hx, rfl, by rw [c.hK]; exact hs, f1, f2, h2, h3, h4, PD.ok p s rfl⟩
        · exact p.elim
      · exact p.elim
    split at p
    · rename_i es e
      cases a <;> first | cases e | skip
      · obtain ⟨b, ws, rfl, _, h1, r2⟩ := s.seq ra e
        exact fin rfl h1 r2 p
      · obtain ⟨b, ws, rfl, h1, r2⟩ := ra
        exact fin rfl h1.sq r2 p
    · exact p.elim
  · exact p.elim
end

/-! ### defs -/
abbrev Fam := Nat → List D → Sto → R D
structure FG (g : Gd) (k : Nat) (f : Addr) (fd : FuncData) (ps : List Str) (sp : Sp) : Prop where
  len : ∀ vs H Q E, sp vs H Q E → vs.length = ps.length
  run : ∀ (A : Around) (fr : List PySem.Env) (s : Shared) (H : Hp) (as : Args) (us : List Value) (vs : List V) (Q : VK) (E : XK), Room k A → A.guards = some [] → Env0 g.P g.w g.K g.mg g.base A fr s H →
    BindsTo s fd as (ps.zip us) → Vals vs us → sp vs H Q E → codeAny (model g.P g.w) A (.call (.ref f) as) (CR (L2.CX g.P g.w) fr g.P g.w H s Q E) s
def spD (g : Gd) (np : Nat) (φ : List D → Sto → R D) : Sp := fun vs H Q E => ∃ α st ds, StR g α st H ∧ RDs g α H ds vs ∧ ds.length = np ∧ Post g (fun cls d _ H' => E cls d H') [] α H (φ ds st) fun d _ α' H' => ∀ v, RD g α' H' d v → Q v H'
def runB (n : Nat) (B : DS) (ds : List D) (st : Sto) : R D := match B (ds.map some ++ List.replicate (n - ds.length) none) st with
  | .rt d st1 => .ok d st1
  | .nx _ st1 => .ok .non st1
  | .exc c fs _ st1 => .exc c fs st1
  | _ => .stuck
section
variable {g : Gd} {X : Cx} {W : WX} {k : Nat} {f : Addr} {fd : FuncData} {ps : List Str} {sp : Sp}
theorem FG.mono {j : Nat} (F : FG g j f fd ps sp) (h : j ≤ k) : FG g k f fd ps sp := ⟨F.len, fun A fr s H as us vs Q E hr => F.run A fr s H as us vs Q E (hr.mono h)⟩
theorem FG.call (c : Ck g X W) {pins : List (Addr × Obj)} {σ : L2.St} {H : Hp} {s : Shared} {Q : VK} {us : List Value} {vs : List V} (F : FG g k f fd ps sp) (hr : Room k X.A) (hb : Binds g.K fd ps []) (I : L2.Inv X pins σ H s) (r : Vals vs us)
    (h : sp vs H Q fun cls d H' => W cls d σ H') : wpAny (model X.prog X.w) X.A (PySem.call (.ref f) us) (EP X pins σ Q) X.xe s := by
  have hl : us.length = ps.length := r.length.symm.trans (F.len _ _ _ _ h)
  have hk : g.K.In s.heap := by rw [← c.hK]; exact I.kIn
  have bb := hb s us hk (by rw [List.append_nil]; exact hl)
  rw [List.append_nil] at bb
  have e0 := I.env0
  have go := F.run X.A X.stack s H ⟨us, []⟩ us vs Q (fun cls d H' => W cls d σ H') hr c.gd (by rw [← c.hP, ← c.hw, ← c.hK, ← c.hmg, ← c.hb]; exact e0) bb r h
  rw [← c.hP, ← c.hw] at go
  refine wpAny_call (codeAny_mono go fun res s' hq => ?_)
  match res, hq with
  | .error e, hq => exact c.tk e s' (XE.of_call I (fun _ _ _ z => z) hq)
  | .ok (.ret u), hq => exact I.after hq
  | .ok .next, hq => exact False.elim hq
  | .ok .brk, hq => exact False.elim hq
  | .ok .cont, hq => exact False.elim hq
theorem oe_call (c : Ck g X W) {np : Nat} {φ : List D → Sto → R D} (F : FG g k f fd ps (spD g np φ)) (hr : Room k X.A) {x : Str} {p pos : Pos} {e : Expr} {es : List Expr} {G : DA} (hm : g.mg x = some (.ref f)) (hk : PySem.W.keepIn g.K (.ref f) = true) (hb : Binds g.K fd ps [])
    (ha : OA g X W (e :: es) G) (hn : (e :: es).length = np := by rfl) (hgl : ∀ env st ds st1, G env st = .ok ds st1 → ds.length = np) (hg : L2.Gl X x := by rfl) (hdb : (x == ("__debug__" : Str)) = false := by decide) (he : starEach (e :: es) X.env = (false, eval e X.env) :: starEach es X.env := by rfl)
    (hpl : (backTo pos (starEach es X.env)).any (·.1) = false := by rfl) : OE g X W (.Call (.Name x p) (e :: es) [] pos) (eCall φ G) := by
  refine ⟨fun pins s σ H Q I ⟨α, env, st, hE, hS, p⟩ => ?_⟩
  have step : tA g W G σ H fun vs H1 => spD g np φ vs H1 Q fun cls d H' => W cls d σ H' := by
    refine tA.run hE hS ?_
    have pb := p.bind
    cases hG : G env st with
    | stuck => rw [hG] at pb; exact pb.elim
    | exc cc fs st1 => rw [hG] at pb; exact pb
    | ok ds st1 =>
      rw [hG] at pb
      intro α1 H1 x1 s1 vs r
      refine ⟨α1, st1, ds, s1, r, hgl _ _ _ _ hG, ?_⟩
      have q : Post g W σ α1 H1 (φ ds st1) fun d _ α' H' => ∀ v, RD g α' H' d v → Q v H' := pb α1 H1 x1 s1
      cases hφ : φ ds st1 with
      | stuck => rw [hφ] at q; exact q.elim
      | exc cc fs st2 => rw [hφ] at q; exact q
      | ok d st2 => rw [hφ] at q; exact q
  refine wpAny_Call_Name_kw (ld_glob I hg (by rw [c.hmg]; exact hm) ?_ hdb)
  refine PySem.W.callWith_K (h₀ := X.base) I.ok.mod.kin (by rw [c.hK]; exact hk) (thn (L2.PA.run ha pos pins s σ H _ I step) fun us s1 ⟨vs, H1, I1, r, q⟩ => ⟨I1.kIn, ?_⟩) he hpl
  exact F.call c hr hb I1 r q
theorem aNil_len : ∀ env st ds st1, aNil env st = .ok ds st1 → ds.length = 0 := fun _ _ _ _ h => by cases h; rfl
theorem aCons_len {F : DE} {G : DA} {n : Nat} (h : ∀ env st ds st1, G env st = .ok ds st1 → ds.length = n) : ∀ env st ds st1, aCons F G env st = .ok ds st1 → ds.length = n + 1 := fun env st ds st1 e => by
  unfold aCons at e
  cases hF : F env st with
  | stuck => rw [hF] at e; cases e
  | exc c fs st => rw [hF] at e; cases e
  | ok d st2 =>
    rw [hF] at e
    simp only [R.bind_ok] at e
    cases hG : G env st2 with
    | stuck => rw [hG] at e; cases e
    | exc c fs st => rw [hG] at e; cases e
    | ok ds2 st3 =>
      rw [hG] at e
      cases e
      simp [h _ _ _ _ hG]
end
end Mi

namespace Mi
open PySem PySem.Spec PyProof.Rows L2

section
variable {g : Gd}
/-- the place of a def's body -/
abbrev cxD (g : Gd) (N : List Str) (qual : Str) (sc : Scope) (f : Addr) (cdv : Value) (A : Around) (fr : List PySem.Env) (s : Shared) (H : Hp) (E : XK) : Cx := cxOf (L2.CX g.P g.w) g.P g.w g.K g.mg g.base N qual sc f cdv A fr s H E
abbrev wE (E : XK) : WX := fun cls d _ H' => E cls d H'
theorem start_r {α : List Addr} {H : Hp} {N : List Str} {ds : List D} {vs : List V} (r : RDs g α H ds vs) (hl : ds.length ≤ N.length) : EnvR g α H (ds.map some ++ List.replicate (N.length - ds.length) none) (L2.start N vs) := by
  have e := r.length
  refine ⟨by simp [L2.start, e], fun i d h => ?_⟩
  by_cases hi : i < ds.length
  · rw [List.getElem?_append_left (by simpa using hi), List.getElem?_map] at h
    cases q : ds[i]? with
    | none => rw [q] at h; cases h
    | some x =>
      rw [q] at h
      cases h
      obtain ⟨v, h1, h2⟩ := r.get q
      refine ⟨v, ?_, h2⟩
      unfold L2.start
      rw [List.getElem?_append_left (by rw [List.length_map, ← e]; exact hi), List.getElem?_map, h1]
      rfl
  · rw [List.getElem?_append_right (by simpa using hi), List.getElem?_replicate] at h
    split at h <;> cases h
theorem fg_of {x qual : Str} {st : Stmt} {f : Addr} {fd : FuncData} {N ps : List Str} {k np : Nat} {B : DS} (F : Fun g.K x qual st f fd) (S : FnScope N ps (defScope st)) (hnp : ps.length = np) (hN : np ≤ N.length)
    (body : ∀ (cdv : Value) (A : Around) (fr : List PySem.Env) (s : Shared) (H : Hp) (E : XK), Ck g (cxD g N qual (defScope st) f cdv A fr s H E) (wE E) → Room k (cxD g N qual (defScope st) f cdv A fr s H E).A →
      OSs g (cxD g N qual (defScope st) f cdv A fr s H E) (wE E) (defBody st) B) : FG g (k + 1) f fd ps (spD g np (runB N.length B)) := by
  obtain ⟨oc, od, kV, doc, pm, an, cdv, ct, osl, rfl, lk, hcd⟩ := F.ex
  have ln : ∀ vs H Q E, spD g np (runB N.length B) vs H Q E → vs.length = ps.length := fun vs H Q E ⟨α, st, ds, _, r, e, _⟩ => by rw [← r.length, e, hnp]
  refine ⟨ln, fun A fr s H as us vs Q E hr hgd e0 hb r hsp => ?_⟩
  have hl := ln _ _ _ _ hsp
  have kin : g.K.In s.heap := e0.mod.kin.keeps fun b o e => (e0.bs b o e).1
  have lim : s.heap.NoLimit := e0.mod.nolimit.keeps fun b o e => (e0.bs b o e).1
  have kinds : ∀ y ∈ ps.zip us, (defScope st).names.lookup y.1 = some .local ∨ ((defScope st).names.lookup y.1 = some .cell ∧ ((cellsFrom (s.heap.objs.size + 1) (defScope st).names []).lookup y.1).isSome = true) := by
    rintro ⟨n, v⟩ hy
    rcases S.par n (List.of_mem_zip hy).1 with q | q
    · exact .inl q
    · exact .inr ⟨q, PySem.W.cellsFrom_some _ _ _ (.inl q)⟩
  refine codeAny_call_function hr.depth (kin _ _ lk) rfl S.co S.gen rfl (PySem.W.codeRec_of kin hcd) (hb _ _ _ _ ?_)
  refine wpAny_newFunctionEnv_cells S.kind kinds fun env he s1 xx => ?_
  subst he
  refine ⟨lim.keeps xx.toInCall.keep, codeAny_func ?_⟩
  have rm := hr.deeper (envOfC qual (defScope st) s.heap.objs.size f cdv)
  have ck : Ck g (cxD g N qual (defScope st) f cdv A fr s H E) (wE E) :=
    ⟨rfl, rfl, rfl, rfl, rfl, rfl, S.nd, takes_of rfl rfl rfl rfl, hgd, by have := rm.un; show (A.deeper (envOfC qual (defScope st) s.heap.objs.size f cdv)).units + 200 < cLine; omega, passes_of rfl⟩
  have ob := body cdv A fr s H E ck rm
  have I : L2.Inv (cxD g N qual (defScope st) f cdv A fr s H E) [] (L2.start N vs) H s1 := inv_start S hr.hd e0 hl r xx
  have fin : ∀ {σ' : L2.St} {H' : Hp} {s' : Shared} {v : V} {u : Value}, L2.Inv (cxD g N qual (defScope st) f cdv A fr s H E) [] σ' H' s' → RelV v u → Q v H' → CE fr g.P g.w H s Q u s' :=
    fun {σ' H' s' v u} J rv q => ⟨v, H', J.os, J.bare, J.base, J.hok, rv, q⟩
  obtain ⟨α, sto, ds, hS, rd, el, post⟩ := hsp
  have goal : tS g (wE E) B { nx := fun _ H' => Q .non H', rt := Q } (L2.start N vs) H := by
    refine ⟨α, _, sto, start_r rd (by rw [el]; exact hN), hS, ?_⟩
    unfold runB at post
    cases hB : B (ds.map some ++ List.replicate (N.length - ds.length) none) sto with
    | nx env1 st1 => rw [hB] at post; exact fun α' H' σ' e s r => post α' H' e s .non rfl
    | rt d st1 => rw [hB] at post; exact fun α' H' v e s r => post α' H' e s v r
    | bk env1 st1 => rw [hB] at post; exact post.elim
    | ct env1 st1 => rw [hB] at post; exact post.elim
    | exc c fs env1 st1 => rw [hB] at post; exact fun α' H' cls dx σ' e s _ x => post α' H' cls dx e s x
    | stuck => rw [hB] at post; exact post.elim
  refine wpAny_mono (ob.run [] s1 (L2.start N vs) H _ I goal) (fun fl s' hs => ?_) fun e s' hs => hs
  match fl, hs with
  | .ret u, hs => obtain ⟨v, σ', H', J, rv, q⟩ := hs; exact fin J rv q
  | .next, hs => obtain ⟨σ', H', J, q⟩ := hs; exact fin (v := V.non) (u := Value.none) J rfl q
  | .brk, hs => obtain ⟨_, _, _, q⟩ := hs; exact q.elim
  | .cont, hs => obtain ⟨_, _, _, q⟩ := hs; exact q.elim
end

/-! ### the law's end -/
theorem rd_ints {g : Gd} {α : List Addr} {H : Hp} : ∀ ns : List Int, RDs g α H (ns.map .int) (ns.map V.int)
  | [] => RDs.nil
  | n :: r => RDs.cons rfl (rd_ints r)
theorem law_end {g : Gd} {mb : Str → Option Value} {k : Nat} {fa a : Addr} {fd : FuncData} {x : Str} {φ : List D → Sto → R D} {s1 : Shared} {vs : List Value} {ns : List Int}
    (kin : g.K.In s1.heap) (hns : s1.heap.Ns mainGlobals g.mg) (hb : s1.heap.Ns builtinsNs mb) (hbb : ∀ y : Str, y ≠ "__name__" → mb y = bootBuiltins y) (lim : s1.heap.NoLimit) (hg : s1.gens = #[])
    (ha : s1.heap.get? a = some { cls := .type "list", data := .seq vs.toArray }) (hi : IntsAre vs ns) (hl : ns.length ≤ sizeLine) (hr : Room k callerA)
    (F : ∀ b : Heap, g.K.In b → b.Ns mainGlobals g.mg → FG { g with base := b } k fa fd [x] (spD { g with base := b } 1 φ)) (bind : Binds g.K fd [x] [])
    (yes : ∃ st, φ [.kl (ns.map .int)] [] = .ok (.bl true) st) :
    codeAny (model g.P g.w) callerA (.call (.ref fa) ⟨[.ref a], []⟩) (fun r s' => r = .ok (.ret (.bool true)) ∧ OldK s1.heap s'.heap ∧ s'.os = s1.os ∧ AllBare s'.gens) s1 := by
  have vi := vals_ints hi
  have vl := hi.length
  have main : ∀ H : Hp, L2.Only H → KL g.K H a (ns.map V.int) → HOk g.P g.w H s1.heap → (∀ b, H b ≠ none → b = a ∧ g.K.lookup a = none) →
      codeAny (model g.P g.w) callerA (.call (.ref fa) ⟨[.ref a], []⟩) (fun r s' => r = .ok (.ret (.bool true)) ∧ OldK s1.heap s'.heap ∧ s'.os = s1.os ∧ AllBare s'.gens) s1 := by
    intro H only kl hok far
    have free : ∀ {b : Addr} {o : Obj} {es : Array DictEntry} {ep : Nat}, s1.heap.get? b = some o → o.data = .dict es ep → H b = none := by
      intro b o es ep e d
      cases q : H b with
      | none => rfl
      | some u =>
        obtain ⟨rfl, _⟩ := far b (by rw [q]; exact fun z => nomatch z)
        rw [ha] at e
        cases e
        cases (show Data.seq vs.toArray _ = Data.dict es ep from d)
    have ns' : ∀ {b : Addr} {m : Str → Option Value}, s1.heap.Ns b m → (hidT s1.heap H).Ns b m := fun {b m} ⟨o, es, ep, e, d, r⟩ => ⟨o, es, ep, hidT_get e (free e d), d, r⟩
    have kb : g.K.In (hidT s1.heap H) := by
      intro b o e
      refine hidT_get (kin b o e) ?_
      cases q : H b with
      | none => rfl
      | some u =>
        obtain ⟨rfl, z⟩ := far b (by rw [q]; exact fun z => nomatch z)
        rw [z] at e
        cases e
    have md : Mod g.K g.mg (hidT s1.heap H) := ⟨kb, ns' hns, ⟨mb, ns' hb, hbb⟩, let ⟨mc, h1, h2⟩ := lim; ⟨mc, ns' h1, h2⟩⟩
    have e0 : Env0 g.P g.w g.K g.mg (hidT s1.heap H) callerA [] s1 H :=
      ⟨rfl, md, fun b o e => of_hidT e, Nat.le_of_eq (hidT_size _ _), trivial, fun b z => absurd (show b ∈ ([] : List Addr) from z) List.not_mem_nil, hok, .of_eq hg⟩
    obtain ⟨st1, hy⟩ := yes
    have rd : ∀ g' : Gd, g'.K = g.K → RDs g' [] H [.kl (ns.map .int)] [.ref a] := fun g' e => by
      exact ⟨_, _, rfl, ⟨a, ns.map V.int, rfl, by rw [e]; exact kl, rd_ints ns⟩, rfl⟩
    have sp : spD { g with base := hidT s1.heap H } 1 φ [.ref a] H (fun v _ => v = .bl true) fun _ _ _ => False :=
      ⟨[], [], _, ⟨rfl, List.nodup_nil, fun n b o h => by simp at h⟩, rd _ rfl, rfl, by rw [hy]; exact fun α' H' e s v r => r⟩
    refine codeAny_mono ((F _ kb (ns' hns)).run callerA [] s1 H ⟨[.ref a], []⟩ [.ref a] [.ref a] _ _ hr rfl e0 (bind s1 [.ref a] kin rfl) (.cons rfl .nil) sp) fun r s' h => ?_
    match r, h with
    | .error e, h => obtain ⟨_, _, _, _, _, _, _, _, _, _, _, _, z⟩ := h; exact z.elim
    | .ok .next, h => exact False.elim h
    | .ok .brk, h => exact False.elim h
    | .ok .cont, h => exact False.elim h
    | .ok (.ret u), h =>
      obtain ⟨v, H', os, bare, un, hok', r', q⟩ := h
      obtain rfl : v = .bl true := q
      obtain rfl : u = Value.bool true := r'
      refine ⟨rfl, OldK.of_keep fun b o e => ?_, os, bare⟩
      cases q : H b with
      | none => exact un.keep b o e q (fun z => absurd (show b ∈ ([] : List Addr) from z) List.not_mem_nil) List.not_mem_nil
      | some u =>
        rcases only b with z | ⟨ob, xs, z⟩
        · rw [q] at z
          cases z
        · obtain ⟨e1, _⟩ := hok b _ z
          obtain ⟨e2, _⟩ := hok' b _ (un.frzs b ob _ z)
          rw [e] at e1
          cases e1
          exact e2
  cases hk : g.K.lookup a with
  | some o =>
    have e := kin a o hk
    rw [ha] at e
    cases e
    exact main (fun _ => none) (fun _ => .inl rfl) (.inr (.inr ⟨_, vs.toArray, _, hk, rfl, rfl, rfl, by rw [List.size_toArray, vl]; exact hl, by simpa using vi⟩)) (fun b u z => nomatch (show (none : Option HO) = some u from z)) fun b z => absurd rfl z
  | none =>
    refine main (fun b => if b = a then some (.frz { cls := .type "list", data := .seq vs.toArray } (.lst (ns.map V.int))) else none) (fun b => ?_) (.inl ⟨{ cls := .type "list", data := .seq vs.toArray }, if_pos rfl⟩) (fun b u z => ?_) fun b z => ?_
    · by_cases e : b = a
      · exact .inr ⟨_, _, if_pos e⟩
      · exact .inl (if_neg e)
    · by_cases e : b = a
      · subst e
        cases (if_pos rfl).symm.trans z
        exact ⟨ha, by rw [List.length_map]; exact hl, vs, _, vi, ha⟩
      · cases (if_neg e).symm.trans z
    · by_cases e : b = a
      · exact ⟨e, hk⟩
      · exact absurd (if_neg e) z
end Mi

namespace Mi
open PySem L2

/-! ### o[i] = e -/
def setD : D → D → D → Sto → Option Sto
  | .obj n, .int k, d, st => match st[n]? with
    | some (.lst ds) => (match ixN ds.length k with | some j => some (st.set n (.lst (ds.set j d))) | none => none)
    | _ => none
  | _, _, _, _ => none
def sSub (F Fo Fi : DE) : DS := fun env st => bindS (F env st) env fun d st1 => bindS (Fo env st1) env fun o st2 => bindS (Fi env st2) env fun i st3 => match setD o i d st3 with | some st4 => .nx env st4 | none => .stuck
section
variable {g : Gd} {X : Cx} {W : WX} {pos : Pos}
theorem os_sub (c : Ck g X W) {o i e : Expr} {F Fo Fi : DE} {tp : Pos} (h : OE g X W e F) (ho : OE g X W o Fo) (hi : OE g X W i Fi)
    (ha : ∀ v, assign (.Subscript o i tp) X.env v = (do
      let ov ← holding [v] (eval o X.env)
      let iv ← holding [v, ov] (eval i X.env)
      standAt tp
      holding [v, ov, iv] (setItem ov iv v)
      release [v, ov, iv] []) := by intro _; rfl) (hs : swapsWithSole [.Subscript o i tp] e pos.line X.env = pure false := by rfl) (hw : swappedStores [.Subscript o i tp] e X.env = pure none := by rfl)
    (h1 : (assignEach [.Subscript o i tp] X.env).map (·.2) = [assign (.Subscript o i tp) X.env] := by rfl) : OS g X W (.Assign [.Subscript o i tp] e pos) (sSub F Fo Fi) :=
  ofS (ps_asg h (pg_sub ho hi set_list ha) hs hw h1) fun E σ H ⟨α, env, st, hE, hS, p⟩ => by
    refine tE.run hE hS ((p.bind hE).imp fun d st1 α1 H1 x1 s1 q v r => ?_)
    have e1 := hE.mono x1
    refine tE.run e1 s1 ((q.bind e1).imp fun o st2 α2 H2 x2 s2 q2 v2 r2 => ?_)
    have e2 := e1.mono x2
    refine tE.run e2 s2 ((q2.bind e2).imp fun i st3 α3 H3 x3 s3 q3 v3 r3 => ?_)
    split at q3
    · rename_i st4 e
      have r2' := r2.mono x3
      have r' := (r.mono x2).mono x3
      unfold setD at e
      split at e
      · split at e
        · rename_i n k d ds e'
          split at e
          · rename_i j ej
            cases e
            cases r3
            obtain ⟨a, vs, rfl, ha, h1, rl⟩ := s3.lst r2' e'
            have ex : Ext α3 H3 α3 (upd H3 a (.lst (vs.set j v))) := ext_write s3 ha ⟨_, h1, fun _ z => (nomatch z), fun _ _ z => (nomatch z)⟩
            exact ⟨a, vs, _, j, rfl, rfl, h1, by rw [← rl.length]; exact ej, q3 α3 _ σ ex (s3.write ha ex ⟨_, upd_same, (rl.set j r').mono ex⟩) ((e2.mono x3).mono ex)⟩
          · cases e
        · cases e
      · cases e
    · exact q3.elim
/-- a, b = x, y -/
def sPar (i j : Nat) (G : DA) : DS := fun env st => bindS (G env st) env fun ds st1 => match ds with | [a, b] => .nx ((env.set i (some a)).set j (some b)) st1 | _ => .stuck
theorem os_par (c : Ck g X W) {i j : Nat} {x y : Str} {a b : Expr} {G : DA} {px py pt : Pos} {kt k2 pt2} (ha : OA g X W [a, b] G) (hij : i ≠ j)
    (hw : swappedStores [.Tuple [.Name x px, .Name y py] kt pt] (.Tuple [a, b] k2 pt2) X.env = pure (some [x, y])) (hi : X.N[i]? = some x := by rfl) (hj : X.N[j]? = some y := by rfl)
    (hx : X.env.scope.names.lookup x = some .local := by rfl) (hy : X.env.scope.names.lookup y = some .local := by rfl)
    (hs : swapsWithSole [.Tuple [.Name x px, .Name y py] kt pt] (.Tuple [a, b] k2 pt2) pos.line X.env = pure false := by rfl) : OS g X W (.Assign [.Tuple [.Name x px, .Name y py] kt pt] (.Tuple [a, b] k2 pt2) pos) (sPar i j G) :=
  ofS (ps_par c.calm c.nd hi hj hij hx hy ha hw hs) fun E σ H ⟨α, env, st, hE, hS, p⟩ => by
    refine tA.run hE hS ((p.bind hE).imp fun ds st1 α1 H1 x1 s1 q vs r => ?_)
    split at q
    · obtain ⟨v, _, rfl, r1, w, _, rfl, r2, rfl⟩ := r
      exact ⟨v, w, rfl, q α1 H1 _ (Ext.refl _ _) s1 (((hE.mono x1).set i r1).set j r2)⟩
    · exact q.elim
/-! ### name op= e -/
def iaddD : D → D → Sto → R D
  | .int i, .int j, st => .ok (.int (i + j)) st
  | .str x, .str y, st => if x.length + y.length ≤ sizeLine then .ok (.str (x ++ y)) st else .stuck
  | .obj m, .obj n, st => match st[m]?, st[n]? with
    | some (.lst xs), some (.lst ys) => if xs.length + ys.length ≤ sizeLine then .ok (.obj m) (st.set m (.lst (xs ++ ys))) else .stuck
    | _, _ => .stuck
  | _, _, _ => .stuck
def isubD : D → D → Sto → R D
  | .int i, .int j, st => .ok (.int (i - j)) st
  | _, _, _ => .stuck
def imulD : D → D → Sto → R D
  | .int i, .int j, st => if (-(2 ^ 64) < i ∧ i < 2 ^ 64) ∨ (-(2 ^ 64) < j ∧ j < 2 ^ 64) then .ok (.int (i * j)) st else .stuck
  | _, _, _ => .stuck
def ifdivD : D → D → Sto → R D
  | .int i, .int j, st => if 0 < j ∧ j < 1073741824 then .ok (.int (i / j)) st else .stuck
  | _, _, _ => .stuck
theorem op_iaddD : Op2 g X W (inplaceOp .Add) iaddD := by
  refine op2_of (fun _ _ _ => rfl) (fun a _ _ => by cases a <;> rfl) ?_
  intro σ α H st a b x y Q s ra rb p
  cases a <;> cases b <;> first | exact p.elim | skip
  · cases ra; cases rb
    exact ⟨_, iop_add, _, _, rfl, rfl, p.ok s rfl⟩
  · cases ra; cases rb
    dsimp only [iaddD] at p
    split at p
    · exact ⟨_, iop_add_str, _, _, rfl, rfl, by assumption, p.ok s rfl⟩
    · exact p.elim
  · dsimp only [iaddD] at p
    split at p
    · rename_i e1 e2
      split at p
      · rename_i hl
        obtain ⟨a1, vs, rfl, ha, h1, r1⟩ := s.lst ra e1
        obtain ⟨a2, ws, rfl, _, h2, r2⟩ := s.lst rb e2
        rw [r1.length, r2.length] at hl
        have ex : Ext α H α (upd H a1 (.lst (vs ++ ws))) := ext_write s ha ⟨_, h1, fun _ z => (nomatch z), fun _ _ z => (nomatch z)⟩
        exact ⟨_, iop_ext, a1, a2, vs, ws, rfl, rfl, h1, h2, hl, p α _ ex (s.write ha ex ⟨_, upd_same, (r1.append r2).mono ex⟩) _ ⟨a1, rfl, ha⟩⟩
      · exact p.elim
    · exact p.elim
theorem op_isubD : Op2 g X W (inplaceOp .Sub) isubD := by
  refine op2_of (fun _ _ _ => rfl) (fun a _ _ => by cases a <;> rfl) ?_
  intro σ α H st a b x y Q s ra rb p
  cases a <;> cases b <;> first | exact p.elim | skip
  cases ra; cases rb
  exact ⟨_, iop_sub, _, _, rfl, rfl, p.ok s rfl⟩
theorem op_imulD : Op2 g X W (inplaceOp .Mult) imulD := by
  refine op2_of (fun _ _ _ => rfl) (fun a _ _ => by cases a <;> rfl) ?_
  intro σ α H st a b x y Q s ra rb p
  cases a <;> cases b <;> first | exact p.elim | skip
  cases ra; cases rb
  dsimp only [imulD] at p
  split at p
  · exact ⟨_, iop_mul, _, _, rfl, rfl, by assumption, p.ok s rfl⟩
  · exact p.elim
theorem op_ifdivD : Op2 g X W (inplaceOp .FloorDiv) ifdivD := by
  refine op2_of (fun _ _ _ => rfl) (fun a _ _ => by cases a <;> rfl) ?_
  intro σ α H st a b x y Q s ra rb p
  cases a <;> cases b <;> first | exact p.elim | skip
  cases ra; cases rb
  dsimp only [ifdivD] at p
  split at p
  · exact ⟨_, iop_fdiv, _, _, rfl, rfl, by assumption, p.ok s rfl⟩
  · exact p.elim
def sAug (o : D → D → Sto → R D) (i : Nat) (F : DE) : DS := fun env st => match env[i]? with
  | some (some a) => bindS (F env st) env fun b st1 => bindS (o a b st1) env fun d st2 => .nx (env.set i (some d)) st2
  | _ => .stuck
theorem os_aug (c : Ck g X W) {i : Nat} {x : Str} {e : Expr} {F : DE} {op : Operator} {o : D → D → Sto → R D} {pos' : Pos} (h : Op2 g X W (inplaceOp op) o) (he : OE g X W e F) (hi : X.N[i]? = some x := by rfl) (hx : Loc X.env.scope x := by first | exact Or.inl rfl | exact Or.inr rfl)
    (hf : X.fn x = true ∨ X.env.scope.names.lookup x = some .local := by first | exact .inl rfl | exact .inr rfl) : OS g X W (.AugAssign (.Name x pos') op e pos) (sAug o i F) :=
  ofS (ps_aug (ti := fun x y H Q => ∃ r, OpR X (inplaceOp op) r ∧ r x y H Q) c.nd hi hx he any2 hf) fun E σ H ⟨α, env, st, hE, hS, p⟩ => by
    unfold sAug at p
    split at p
    · rename_i a ea
      obtain ⟨v, h1, r1⟩ := hE.val i a ea
      refine ⟨v, h1, tE.run hE hS ((p.bind hE).imp fun b st1 α1 H1 x1 s1 q w r2 => ?_)⟩
      have e1 := hE.mono x1
      refine h σ α1 H1 st1 a b v w _ s1 (.inl (r1.mono x1)) (.inl r2) ((q.bind e1).imp fun d st2 α2 H2 x2 s2 q2 u r3 => ?_)
      exact q2 α2 H2 _ (Ext.refl _ _) s2 ((e1.mono x2).set i r3)
    · exact p.elim
/-! ### a def without arguments, called -/
theorem oe_call0 (c : Ck g X W) {k : Nat} {f : Addr} {fd : FuncData} {φ : List D → Sto → R D} (F : FG g k f fd [] (spD g 0 φ)) (hr : Room k X.A) {x : Str} {p : Pos} (hm : g.mg x = some (.ref f)) (hk : PySem.W.keepIn g.K (.ref f) = true) (hb : Binds g.K fd [] [])
    (hg : L2.Gl X x := by rfl) (hdb : (x == ("__debug__" : Str)) = false := by decide) : OE g X W (.Call (.Name x p) [] [] pos) (eCall φ aNil) := by
  refine ⟨fun pins s σ H Q I ⟨α, env, st, hE, hS, p⟩ => ?_⟩
  have sp : spD g 0 φ [] H Q fun cls d H' => W cls d σ H' := by
    refine ⟨α, st, [], hS, RDs.nil, rfl, ?_⟩
    have q : Post g W σ α H (φ [] st) fun d _ α' H' => ∀ v, RD g α' H' d v → Q v H' := p
    cases hφ : φ [] st with
    | stuck => rw [hφ] at q; exact q.elim
    | exc cc fs st2 => rw [hφ] at q; exact q
    | ok d st2 => rw [hφ] at q; exact q
  refine wpAny_Call_Name_kw (ld_glob I hg (by rw [c.hmg]; exact hm) ?_ hdb)
  exact PySem.W.callWith_K0 I.kIn (by rw [c.hK]; exact hk) (F.call (us := []) c hr hb I .nil sp)
end
/-! ### xs[::-1] -/
def revD : D → Sto → R D
  | .obj n, st => match seqOf st n with | some ds => new (.lst ds.reverse) st | none => .stuck
  | .kl ds, st => new (.lst ds.reverse) st
  | _, _ => .stuck
theorem RDs.rev {g : Gd} {α : List Addr} {H : Hp} : ∀ {ds : List D} {vs : List V}, RDs g α H ds vs → RDs g α H ds.reverse vs.reverse
  | [], vs, h => by cases h; exact RDs.nil
  | d :: ds, vs, h => by
    obtain ⟨v, r, rfl, h1, h2⟩ := h
    rw [List.reverse_cons, List.reverse_cons]
    exact (RDs.rev h2).append (.cons h1 .nil)
theorem oe_rev {g : Gd} {X : Cx} {W : WX} (c : Ck g X W) {e : Expr} {F : DE} {k : Nat} {p1 p2 p3 pos : Pos} (h : OE g X W e F) : OE g X W (.Subscript e (.Slice none none (some (.UnaryOp .USub (.Constant (.int 1) k p1) p2)) p3) pos) (e1 revD F) :=
  ofE (pe_revL h) fun σ H Q ⟨α, env, st, hE, hS, p⟩ => by
    refine tE.run hE hS (p.bind.imp fun d1 st1 α1 H1 x1 s1 q v1 r1 => ?_)
    unfold revD at q
    split at q
    · split at q
      · rename_i n ds e'
        obtain ⟨a, vs, rfl, _, h1, r2⟩ := s1.seq r1 e'
        rw [c.hK]
        exact ⟨a, vs, rfl, h1, PD.lst q s1 r2.rev⟩
      · exact q.elim
    · obtain ⟨a, vs, rfl, h1, r2⟩ := r1
      rw [c.hK]
      exact ⟨a, vs, rfl, h1.sq, PD.lst q s1 r2.rev⟩
    · exact q.elim
/-- the levels of calls -/
def Phi (p : Fam → Fam) : Nat → Fam
  | 0 => fun _ _ _ => .stuck
  | n + 1 => p (Phi p n)
theorem Phi_succ (p : Fam → Fam) (n : Nat) : Phi p (n + 1) = p (Phi p n) := rfl
theorem fg_none {g : Gd} {k : Nat} {f : Addr} {fd : FuncData} {ps : List Str} {np : Nat} : FG g k f fd ps (spD g np fun _ _ => .stuck) :=
  ⟨fun _ _ _ _ ⟨_, _, _, _, _, _, p⟩ => p.elim, fun _ _ _ _ _ _ _ _ _ _ _ _ _ _ ⟨_, _, _, _, _, _, p⟩ => p.elim⟩
end Mi

/-! Mi: a denotation at its arguments (for simp): what comes first is reckoned first. -/
namespace Mi
open PySem L2
def seqS (r : RS) (B : DS) : RS := match r with | .nx env st => B env st | r => r
@[simp] theorem seqS_nx {env : Env} {st : Sto} {B : DS} : seqS (.nx env st) B = B env st := rfl
@[simp] theorem seqS_rt {d : D} {st : Sto} {B : DS} : seqS (.rt d st) B = .rt d st := rfl
@[simp] theorem seqS_bk {env : Env} {st : Sto} {B : DS} : seqS (.bk env st) B = .bk env st := rfl
@[simp] theorem seqS_ct {env : Env} {st : Sto} {B : DS} : seqS (.ct env st) B = .ct env st := rfl
@[simp] theorem seqS_exc {c fs} {env : Env} {st : Sto} {B : DS} : seqS (.exc c fs env st) B = .exc c fs env st := rfl
@[simp] theorem seqS_stuck {B : DS} : seqS .stuck B = .stuck := rfl
/-- a loop's turn and what follows -/
def turnS (r : RS) (B : Env → Sto → RS) : RS := match r with | .nx env st => B env st | .ct env st => B env st | .bk env st => .nx env st | r => r
@[simp] theorem turnS_nx {env : Env} {st : Sto} {B : Env → Sto → RS} : turnS (.nx env st) B = B env st := rfl
@[simp] theorem turnS_ct {env : Env} {st : Sto} {B : Env → Sto → RS} : turnS (.ct env st) B = B env st := rfl
@[simp] theorem turnS_bk {env : Env} {st : Sto} {B : Env → Sto → RS} : turnS (.bk env st) B = .nx env st := rfl
@[simp] theorem turnS_rt {d : D} {st : Sto} {B : Env → Sto → RS} : turnS (.rt d st) B = .rt d st := rfl
@[simp] theorem turnS_exc {c fs} {env : Env} {st : Sto} {B : Env → Sto → RS} : turnS (.exc c fs env st) B = .exc c fs env st := rfl
@[simp] theorem turnS_stuck {B : Env → Sto → RS} : turnS .stuck B = .stuck := rfl
def endS (r : RS) : R D := match r with | .rt d st => .ok d st | .nx _ st => .ok .non st | .exc c fs _ st => .exc c fs st | _ => .stuck
@[simp] theorem endS_rt {d : D} {st : Sto} : endS (.rt d st) = .ok d st := rfl
@[simp] theorem endS_nx {env : Env} {st : Sto} : endS (.nx env st) = .ok .non st := rfl
@[simp] theorem endS_exc {c fs} {env : Env} {st : Sto} : endS (.exc c fs env st) = .exc c fs st := rfl
theorem runB_eq {n : Nat} {B : DS} {ds : List D} {st : Sto} : runB n B ds st = endS (B (ds.map some ++ List.replicate (n - ds.length) none) st) := rfl
def varR (o : Option (Option D)) (st : Sto) : R D := match o with | some (some d) => .ok d st | _ => .stuck
@[simp] theorem varR_some {d : D} {st : Sto} : varR (some (some d)) st = .ok d st := rfl
def andT (o : Option Bool) (a : D) (Fb : DE) (env : Env) (st : Sto) : R D := match o with | some true => Fb env st | some false => .ok a st | none => .stuck
def orT (o : Option Bool) (a : D) (Fb : DE) (env : Env) (st : Sto) : R D := match o with | some true => .ok a st | some false => Fb env st | none => .stuck
def notT (o : Option Bool) (st : Sto) : R D := match o with | some b => .ok (.bl (!b)) st | none => .stuck
@[simp] theorem andT_some {b : Bool} {a : D} {Fb : DE} {env : Env} {st : Sto} : andT (some b) a Fb env st = if b = true then Fb env st else .ok a st := by cases b <;> rfl
@[simp] theorem orT_some {b : Bool} {a : D} {Fb : DE} {env : Env} {st : Sto} : orT (some b) a Fb env st = if b = true then .ok a st else Fb env st := by cases b <;> rfl
@[simp] theorem notT_some {b : Bool} {st : Sto} : notT (some b) st = .ok (.bl (!b)) st := rfl
def parS (i j : Nat) (env : Env) (ds : List D) (st : Sto) : RS := match ds with | [a, b] => .nx ((env.set i (some a)).set j (some b)) st | _ => .stuck
@[simp] theorem parS_two {i j : Nat} {env : Env} {a b : D} {st : Sto} : parS i j env [a, b] st = .nx ((env.set i (some a)).set j (some b)) st := rfl
def asB (d : D) (st : Sto) : R Bool := match d with | .bl b => .ok b st | _ => .stuck
@[simp] theorem asB_bl {b : Bool} {st : Sto} : asB (.bl b) st = .ok b st := rfl
def truR (o : Option Bool) (st : Sto) : R Bool := match o with | some b => .ok b st | none => .stuck
@[simp] theorem truR_some {b : Bool} {st : Sto} : truR (some b) st = .ok b st := rfl
def stS (o : Option Sto) (env : Env) : RS := match o with | some st => .nx env st | none => .stuck
@[simp] theorem stS_some {st : Sto} {env : Env} : stS (some st) env = .nx env st := rfl
def itR (o : Option (List D × Wat)) (st : Sto) : R (List D × Wat) := match o with | some p => .ok p st | none => .stuck
@[simp] theorem itR_some {p : List D × Wat} {st : Sto} : itR (some p) st = .ok p st := rfl
def intO (d : D) (st : Sto) : R (Option Int) := match d with | .int i => .ok (some i) st | _ => .stuck
@[simp] theorem intO_int {i : Int} {st : Sto} : intO (.int i) st = .ok (some i) st := rfl
def rng1 (ds : List D) (st : Sto) : R (List D × Wat) := match ds with
  | [.int j] => if -(2 ^ 62) ≤ j ∧ j < 2 ^ 62 then .ok (upI 0 j.toNat, []) st else .stuck
  | _ => .stuck
theorem rng1_ok {j : Int} {st : Sto} (h0 : -(2 ^ 62) ≤ j) (h : j < 2 ^ 62) : rng1 [.int j] st = .ok (upI 0 j.toNat, []) st := by
  unfold rng1; simp only; rw [if_pos ⟨h0, h⟩]
def rng2 (ds : List D) (st : Sto) : R (List D × Wat) := match ds with
  | [.int i, .int j] => if -(2 ^ 62) ≤ i ∧ i < 2 ^ 62 ∧ -(2 ^ 62) ≤ j ∧ j < 2 ^ 62 then .ok (upI i (j - i).toNat, []) st else .stuck
  | _ => .stuck
theorem rng2_ok {i j : Int} {st : Sto} (h : -(2 ^ 62) ≤ i ∧ i < 2 ^ 62 ∧ -(2 ^ 62) ≤ j ∧ j < 2 ^ 62) : rng2 [.int i, .int j] st = .ok (upI i (j - i).toNat, []) st := by
  unfold rng2; simp only; rw [if_pos h]
def enumS (d : D) (st : Sto) : R (List D × Wat) := match d with
  | .obj n => (match seqOf st n with | some ds => .ok (numb ds, [(n, ds)]) st | none => .stuck)
  | _ => .stuck
theorem enumS_ok {n : Nat} {ds : List D} {st : Sto} (h : seqOf st n = some ds) : enumS (.obj n) st = .ok (numb ds, [(n, ds)]) st := by
  unfold enumS; simp only; rw [h]
def zipS (ds : List D) (st : Sto) : R (List D × Wat) := match ds with
  | [a, b] => (match zipD a b st with | some p => .ok p st | none => .stuck)
  | _ => .stuck
@[simp] theorem zipS_tt {xs ys : List D} {st : Sto} : zipS [.tup xs, .tup ys] st = .ok (pairs xs ys, []) st := rfl
def f2b (o : D → D → Sto → R D) (a : D) (r : R D) : R D := r.bind fun b st1 => o a b st1
@[simp] theorem f2b_ok {o : D → D → Sto → R D} {a : D} {b : D} {st1 : Sto} : f2b o a (.ok b st1) = o a b st1 := rfl
@[simp] theorem f2b_st {o : D → D → Sto → R D} {a : D} : f2b o a .stuck = .stuck := rfl
@[simp] theorem f2b_ex {o : D → D → Sto → R D} {a : D} {c : Nat} {fs : List (Str × D)} {st1 : Sto} : f2b o a (.exc c fs st1) = .exc c fs st1 := rfl
def f2a (o : D → D → Sto → R D) (Fb : DE) (env : Env) (r : R D) : R D := r.bind fun b st1 => f2b o b (Fb env st1)
@[simp] theorem f2a_ok {o : D → D → Sto → R D} {Fb : DE} {env : Env} {b : D} {st1 : Sto} : f2a o Fb env (.ok b st1) = f2b o b (Fb env st1) := rfl
@[simp] theorem f2a_st {o : D → D → Sto → R D} {Fb : DE} {env : Env} : f2a o Fb env .stuck = .stuck := rfl
@[simp] theorem f2a_ex {o : D → D → Sto → R D} {Fb : DE} {env : Env} {c : Nat} {fs : List (Str × D)} {st1 : Sto} : f2a o Fb env (.exc c fs st1) = .exc c fs st1 := rfl
def f1 (o : D → Sto → R D) (r : R D) : R D := r.bind fun b st1 => o b st1
@[simp] theorem f1_ok {o : D → Sto → R D} {b : D} {st1 : Sto} : f1 o (.ok b st1) = o b st1 := rfl
@[simp] theorem f1_st {o : D → Sto → R D} : f1 o .stuck = .stuck := rfl
@[simp] theorem f1_ex {o : D → Sto → R D} {c : Nat} {fs : List (Str × D)} {st1 : Sto} : f1 o (.exc c fs st1) = .exc c fs st1 := rfl
def fEv  (r : R (List D)) : R D := r.bind fun b st1 => .ok (.ev b) st1
@[simp] theorem fEv_ok  {b : (List D)} {st1 : Sto} : fEv  (.ok b st1) = .ok (.ev b) st1 := rfl
@[simp] theorem fEv_st  : fEv  .stuck = .stuck := rfl
@[simp] theorem fEv_ex  {c : Nat} {fs : List (Str × D)} {st1 : Sto} : fEv  (.exc c fs st1) = .exc c fs st1 := rfl
def fNew  (r : R (List D)) : R D := r.bind fun b st1 => new (.lst b) st1
@[simp] theorem fNew_ok  {b : (List D)} {st1 : Sto} : fNew  (.ok b st1) = new (.lst b) st1 := rfl
@[simp] theorem fNew_st  : fNew  .stuck = .stuck := rfl
@[simp] theorem fNew_ex  {c : Nat} {fs : List (Str × D)} {st1 : Sto} : fNew  (.exc c fs st1) = .exc c fs st1 := rfl
def fDisp  (r : R (List D)) : R (List D) := r.bind fun b st1 => if b.length ≤ sizeLine then .ok b st1 else .stuck
@[simp] theorem fDisp_ok  {b : (List D)} {st1 : Sto} : fDisp  (.ok b st1) = if b.length ≤ sizeLine then .ok b st1 else .stuck := rfl
@[simp] theorem fDisp_st  : fDisp  .stuck = .stuck := rfl
@[simp] theorem fDisp_ex  {c : Nat} {fs : List (Str × D)} {st1 : Sto} : fDisp  (.exc c fs st1) = .exc c fs st1 := rfl
def fConsb (d : D) (r : R (List D)) : R (List D) := r.bind fun b st1 => .ok (d :: b) st1
@[simp] theorem fConsb_ok {d : D} {b : (List D)} {st1 : Sto} : fConsb d (.ok b st1) = .ok (d :: b) st1 := rfl
@[simp] theorem fConsb_st {d : D} : fConsb d .stuck = .stuck := rfl
@[simp] theorem fConsb_ex {d : D} {c : Nat} {fs : List (Str × D)} {st1 : Sto} : fConsb d (.exc c fs st1) = .exc c fs st1 := rfl
def fConsa (G : DA) (env : Env) (r : R D) : R (List D) := r.bind fun b st1 => fConsb b (G env st1)
@[simp] theorem fConsa_ok {G : DA} {env : Env} {b : D} {st1 : Sto} : fConsa G env (.ok b st1) = fConsb b (G env st1) := rfl
@[simp] theorem fConsa_st {G : DA} {env : Env} : fConsa G env .stuck = .stuck := rfl
@[simp] theorem fConsa_ex {G : DA} {env : Env} {c : Nat} {fs : List (Str × D)} {st1 : Sto} : fConsa G env (.exc c fs st1) = .exc c fs st1 := rfl
def fTup  (r : R (List D)) : R D := r.bind fun b st1 => if b.length ≤ sizeLine then .ok (.tup b) st1 else .stuck
@[simp] theorem fTup_ok  {b : (List D)} {st1 : Sto} : fTup  (.ok b st1) = if b.length ≤ sizeLine then .ok (.tup b) st1 else .stuck := rfl
@[simp] theorem fTup_st  : fTup  .stuck = .stuck := rfl
@[simp] theorem fTup_ex  {c : Nat} {fs : List (Str × D)} {st1 : Sto} : fTup  (.exc c fs st1) = .exc c fs st1 := rfl
def fLst  (r : R (List D)) : R D := r.bind fun b st1 => if b.length ≤ sizeLine then new (.lst b) st1 else .stuck
@[simp] theorem fLst_ok  {b : (List D)} {st1 : Sto} : fLst  (.ok b st1) = if b.length ≤ sizeLine then new (.lst b) st1 else .stuck := rfl
@[simp] theorem fLst_st  : fLst  .stuck = .stuck := rfl
@[simp] theorem fLst_ex  {c : Nat} {fs : List (Str × D)} {st1 : Sto} : fLst  (.exc c fs st1) = .exc c fs st1 := rfl
def fCall (o : List D → Sto → R D) (r : R (List D)) : R D := r.bind fun b st1 => o b st1
@[simp] theorem fCall_ok {o : List D → Sto → R D} {b : (List D)} {st1 : Sto} : fCall o (.ok b st1) = o b st1 := rfl
@[simp] theorem fCall_st {o : List D → Sto → R D} : fCall o .stuck = .stuck := rfl
@[simp] theorem fCall_ex {o : List D → Sto → R D} {c : Nat} {fs : List (Str × D)} {st1 : Sto} : fCall o (.exc c fs st1) = .exc c fs st1 := rfl
def fAnd (Fb : DE) (env : Env) (r : R D) : R D := r.bind fun b st1 => andT (truD b st1) b Fb env st1
@[simp] theorem fAnd_ok {Fb : DE} {env : Env} {b : D} {st1 : Sto} : fAnd Fb env (.ok b st1) = andT (truD b st1) b Fb env st1 := rfl
@[simp] theorem fAnd_st {Fb : DE} {env : Env} : fAnd Fb env .stuck = .stuck := rfl
@[simp] theorem fAnd_ex {Fb : DE} {env : Env} {c : Nat} {fs : List (Str × D)} {st1 : Sto} : fAnd Fb env (.exc c fs st1) = .exc c fs st1 := rfl
def fOr (Fb : DE) (env : Env) (r : R D) : R D := r.bind fun b st1 => orT (truD b st1) b Fb env st1
@[simp] theorem fOr_ok {Fb : DE} {env : Env} {b : D} {st1 : Sto} : fOr Fb env (.ok b st1) = orT (truD b st1) b Fb env st1 := rfl
@[simp] theorem fOr_st {Fb : DE} {env : Env} : fOr Fb env .stuck = .stuck := rfl
@[simp] theorem fOr_ex {Fb : DE} {env : Env} {c : Nat} {fs : List (Str × D)} {st1 : Sto} : fOr Fb env (.exc c fs st1) = .exc c fs st1 := rfl
def fNot  (r : R D) : R D := r.bind fun b st1 => notT (truD b st1) st1
@[simp] theorem fNot_ok  {b : D} {st1 : Sto} : fNot  (.ok b st1) = notT (truD b st1) st1 := rfl
@[simp] theorem fNot_st  : fNot  .stuck = .stuck := rfl
@[simp] theorem fNot_ex  {c : Nat} {fs : List (Str × D)} {st1 : Sto} : fNot  (.exc c fs st1) = .exc c fs st1 := rfl
def fTst  (r : R D) : R Bool := r.bind fun b st1 => truR (truD b st1) st1
@[simp] theorem fTst_ok  {b : D} {st1 : Sto} : fTst  (.ok b st1) = truR (truD b st1) st1 := rfl
@[simp] theorem fTst_st  : fTst  .stuck = .stuck := rfl
@[simp] theorem fTst_ex  {c : Nat} {fs : List (Str × D)} {st1 : Sto} : fTst  (.exc c fs st1) = .exc c fs st1 := rfl
def fTstB  (r : R D) : R Bool := r.bind fun b st1 => asB b st1
@[simp] theorem fTstB_ok  {b : D} {st1 : Sto} : fTstB  (.ok b st1) = asB b st1 := rfl
@[simp] theorem fTstB_st  : fTstB  .stuck = .stuck := rfl
@[simp] theorem fTstB_ex  {c : Nat} {fs : List (Str × D)} {st1 : Sto} : fTstB  (.exc c fs st1) = .exc c fs st1 := rfl
def fbAnd (C : DT) (env : Env) (r : R Bool) : R Bool := r.bind fun b st1 => if b = true then C env st1 else .ok false st1
@[simp] theorem fbAnd_ok {C : DT} {env : Env} {b : Bool} {st1 : Sto} : fbAnd C env (.ok b st1) = if b = true then C env st1 else .ok false st1 := rfl
@[simp] theorem fbAnd_st {C : DT} {env : Env} : fbAnd C env .stuck = .stuck := rfl
@[simp] theorem fbAnd_ex {C : DT} {env : Env} {c : Nat} {fs : List (Str × D)} {st1 : Sto} : fbAnd C env (.exc c fs st1) = .exc c fs st1 := rfl
def fbOr (C : DT) (env : Env) (r : R Bool) : R Bool := r.bind fun b st1 => if b = true then .ok true st1 else C env st1
@[simp] theorem fbOr_ok {C : DT} {env : Env} {b : Bool} {st1 : Sto} : fbOr C env (.ok b st1) = if b = true then .ok true st1 else C env st1 := rfl
@[simp] theorem fbOr_st {C : DT} {env : Env} : fbOr C env .stuck = .stuck := rfl
@[simp] theorem fbOr_ex {C : DT} {env : Env} {c : Nat} {fs : List (Str × D)} {st1 : Sto} : fbOr C env (.exc c fs st1) = .exc c fs st1 := rfl
def fbNot  (r : R Bool) : R Bool := r.bind fun b st1 => .ok (!b) st1
@[simp] theorem fbNot_ok  {b : Bool} {st1 : Sto} : fbNot  (.ok b st1) = .ok (!b) st1 := rfl
@[simp] theorem fbNot_st  : fbNot  .stuck = .stuck := rfl
@[simp] theorem fbNot_ex  {c : Nat} {fs : List (Str × D)} {st1 : Sto} : fbNot  (.exc c fs st1) = .exc c fs st1 := rfl
def fIf (Fa Fb : DE) (env : Env) (r : R Bool) : R D := r.bind fun b st1 => if b = true then Fa env st1 else Fb env st1
@[simp] theorem fIf_ok {Fa Fb : DE} {env : Env} {b : Bool} {st1 : Sto} : fIf Fa Fb env (.ok b st1) = if b = true then Fa env st1 else Fb env st1 := rfl
@[simp] theorem fIf_st {Fa Fb : DE} {env : Env} : fIf Fa Fb env .stuck = .stuck := rfl
@[simp] theorem fIf_ex {Fa Fb : DE} {env : Env} {c : Nat} {fs : List (Str × D)} {st1 : Sto} : fIf Fa Fb env (.exc c fs st1) = .exc c fs st1 := rfl
def fSlc (a : D) (lo : Option Int) (r : R (Option Int)) : R D := r.bind fun b st1 => slD a lo b st1
@[simp] theorem fSlc_ok {a : D} {lo : Option Int} {b : (Option Int)} {st1 : Sto} : fSlc a lo (.ok b st1) = slD a lo b st1 := rfl
@[simp] theorem fSlc_st {a : D} {lo : Option Int} : fSlc a lo .stuck = .stuck := rfl
@[simp] theorem fSlc_ex {a : D} {lo : Option Int} {c : Nat} {fs : List (Str × D)} {st1 : Sto} : fSlc a lo (.exc c fs st1) = .exc c fs st1 := rfl
def fSlb (a : D) (Fh : DO) (env : Env) (r : R (Option Int)) : R D := r.bind fun b st1 => fSlc a b (Fh env st1)
@[simp] theorem fSlb_ok {a : D} {Fh : DO} {env : Env} {b : (Option Int)} {st1 : Sto} : fSlb a Fh env (.ok b st1) = fSlc a b (Fh env st1) := rfl
@[simp] theorem fSlb_st {a : D} {Fh : DO} {env : Env} : fSlb a Fh env .stuck = .stuck := rfl
@[simp] theorem fSlb_ex {a : D} {Fh : DO} {env : Env} {c : Nat} {fs : List (Str × D)} {st1 : Sto} : fSlb a Fh env (.exc c fs st1) = .exc c fs st1 := rfl
def fSla (Fl Fh : DO) (env : Env) (r : R D) : R D := r.bind fun b st1 => fSlb b Fh env (Fl env st1)
@[simp] theorem fSla_ok {Fl Fh : DO} {env : Env} {b : D} {st1 : Sto} : fSla Fl Fh env (.ok b st1) = fSlb b Fh env (Fl env st1) := rfl
@[simp] theorem fSla_st {Fl Fh : DO} {env : Env} : fSla Fl Fh env .stuck = .stuck := rfl
@[simp] theorem fSla_ex {Fl Fh : DO} {env : Env} {c : Nat} {fs : List (Str × D)} {st1 : Sto} : fSla Fl Fh env (.exc c fs st1) = .exc c fs st1 := rfl
def fPart  (r : R D) : R (Option Int) := r.bind fun b st1 => intO b st1
@[simp] theorem fPart_ok  {b : D} {st1 : Sto} : fPart  (.ok b st1) = intO b st1 := rfl
@[simp] theorem fPart_st  : fPart  .stuck = .stuck := rfl
@[simp] theorem fPart_ex  {c : Nat} {fs : List (Str × D)} {st1 : Sto} : fPart  (.exc c fs st1) = .exc c fs st1 := rfl
def fMtb (o : D → List D → Sto → R D) (a : D) (r : R (List D)) : R D := r.bind fun b st1 => o a b st1
@[simp] theorem fMtb_ok {o : D → List D → Sto → R D} {a : D} {b : (List D)} {st1 : Sto} : fMtb o a (.ok b st1) = o a b st1 := rfl
@[simp] theorem fMtb_st {o : D → List D → Sto → R D} {a : D} : fMtb o a .stuck = .stuck := rfl
@[simp] theorem fMtb_ex {o : D → List D → Sto → R D} {a : D} {c : Nat} {fs : List (Str × D)} {st1 : Sto} : fMtb o a (.exc c fs st1) = .exc c fs st1 := rfl
def fMta (T : String) (o : D → List D → Sto → R D) (G : DA) (env : Env) (r : R D) : R D := r.bind fun b st1 => if hasT T b st1 = true then fMtb o b (G env st1) else .stuck
@[simp] theorem fMta_ok {T : String} {o : D → List D → Sto → R D} {G : DA} {env : Env} {b : D} {st1 : Sto} : fMta T o G env (.ok b st1) = if hasT T b st1 = true then fMtb o b (G env st1) else .stuck := rfl
@[simp] theorem fMta_st {T : String} {o : D → List D → Sto → R D} {G : DA} {env : Env} : fMta T o G env .stuck = .stuck := rfl
@[simp] theorem fMta_ex {T : String} {o : D → List D → Sto → R D} {G : DA} {env : Env} {c : Nat} {fs : List (Str × D)} {st1 : Sto} : fMta T o G env (.exc c fs st1) = .exc c fs st1 := rfl
def fMt0 (T : String) (o : D → List D → Sto → R D) (r : R D) : R D := r.bind fun b st1 => if hasT T b st1 = true then o b [] st1 else .stuck
@[simp] theorem fMt0_ok {T : String} {o : D → List D → Sto → R D} {b : D} {st1 : Sto} : fMt0 T o (.ok b st1) = if hasT T b st1 = true then o b [] st1 else .stuck := rfl
@[simp] theorem fMt0_st {T : String} {o : D → List D → Sto → R D} : fMt0 T o .stuck = .stuck := rfl
@[simp] theorem fMt0_ex {T : String} {o : D → List D → Sto → R D} {c : Nat} {fs : List (Str × D)} {st1 : Sto} : fMt0 T o (.exc c fs st1) = .exc c fs st1 := rfl
def fChd (o' : D → D → Sto → R D) (d : D) (r : R D) : R D := r.bind fun b st1 => o' d b st1
@[simp] theorem fChd_ok {o' : D → D → Sto → R D} {d : D} {b : D} {st1 : Sto} : fChd o' d (.ok b st1) = o' d b st1 := rfl
@[simp] theorem fChd_st {o' : D → D → Sto → R D} {d : D} : fChd o' d .stuck = .stuck := rfl
@[simp] theorem fChd_ex {o' : D → D → Sto → R D} {d : D} {c : Nat} {fs : List (Str × D)} {st1 : Sto} : fChd o' d (.exc c fs st1) = .exc c fs st1 := rfl
def fChc (o' : D → D → Sto → R D) (d : D) (Fc : DE) (env : Env) (r : R Bool) : R D := r.bind fun b st1 => if b = true then fChd o' d (Fc env st1) else .ok (.bl false) st1
@[simp] theorem fChc_ok {o' : D → D → Sto → R D} {d : D} {Fc : DE} {env : Env} {b : Bool} {st1 : Sto} : fChc o' d Fc env (.ok b st1) = if b = true then fChd o' d (Fc env st1) else .ok (.bl false) st1 := rfl
@[simp] theorem fChc_st {o' : D → D → Sto → R D} {d : D} {Fc : DE} {env : Env} : fChc o' d Fc env .stuck = .stuck := rfl
@[simp] theorem fChc_ex {o' : D → D → Sto → R D} {d : D} {Fc : DE} {env : Env} {c : Nat} {fs : List (Str × D)} {st1 : Sto} : fChc o' d Fc env (.exc c fs st1) = .exc c fs st1 := rfl
def fChb (o o' : D → D → Sto → R D) (a : D) (Fc : DE) (env : Env) (r : R D) : R D := r.bind fun b st1 => fChc o' b Fc env (fTstB (o a b st1))
@[simp] theorem fChb_ok {o o' : D → D → Sto → R D} {a : D} {Fc : DE} {env : Env} {b : D} {st1 : Sto} : fChb o o' a Fc env (.ok b st1) = fChc o' b Fc env (fTstB (o a b st1)) := rfl
@[simp] theorem fChb_st {o o' : D → D → Sto → R D} {a : D} {Fc : DE} {env : Env} : fChb o o' a Fc env .stuck = .stuck := rfl
@[simp] theorem fChb_ex {o o' : D → D → Sto → R D} {a : D} {Fc : DE} {env : Env} {c : Nat} {fs : List (Str × D)} {st1 : Sto} : fChb o o' a Fc env (.exc c fs st1) = .exc c fs st1 := rfl
def fCha (o o' : D → D → Sto → R D) (Fb Fc : DE) (env : Env) (r : R D) : R D := r.bind fun b st1 => fChb o o' b Fc env (Fb env st1)
@[simp] theorem fCha_ok {o o' : D → D → Sto → R D} {Fb Fc : DE} {env : Env} {b : D} {st1 : Sto} : fCha o o' Fb Fc env (.ok b st1) = fChb o o' b Fc env (Fb env st1) := rfl
@[simp] theorem fCha_st {o o' : D → D → Sto → R D} {Fb Fc : DE} {env : Env} : fCha o o' Fb Fc env .stuck = .stuck := rfl
@[simp] theorem fCha_ex {o o' : D → D → Sto → R D} {Fb Fc : DE} {env : Env} {c : Nat} {fs : List (Str × D)} {st1 : Sto} : fCha o o' Fb Fc env (.exc c fs st1) = .exc c fs st1 := rfl
def fIv  (r : R D) : R (List D × Wat) := r.bind fun b st1 => itR (iterD b st1) st1
@[simp] theorem fIv_ok  {b : D} {st1 : Sto} : fIv  (.ok b st1) = itR (iterD b st1) st1 := rfl
@[simp] theorem fIv_st  : fIv  .stuck = .stuck := rfl
@[simp] theorem fIv_ex  {c : Nat} {fs : List (Str × D)} {st1 : Sto} : fIv  (.exc c fs st1) = .exc c fs st1 := rfl
def fIe  (r : R (List D)) : R (List D × Wat) := r.bind fun b st1 => .ok (b, []) st1
@[simp] theorem fIe_ok  {b : (List D)} {st1 : Sto} : fIe  (.ok b st1) = .ok (b, []) st1 := rfl
@[simp] theorem fIe_st  : fIe  .stuck = .stuck := rfl
@[simp] theorem fIe_ex  {c : Nat} {fs : List (Str × D)} {st1 : Sto} : fIe  (.exc c fs st1) = .exc c fs st1 := rfl
def fR1  (r : R (List D)) : R (List D × Wat) := r.bind fun b st1 => rng1 b st1
@[simp] theorem fR1_ok  {b : (List D)} {st1 : Sto} : fR1  (.ok b st1) = rng1 b st1 := rfl
@[simp] theorem fR1_st  : fR1  .stuck = .stuck := rfl
@[simp] theorem fR1_ex  {c : Nat} {fs : List (Str × D)} {st1 : Sto} : fR1  (.exc c fs st1) = .exc c fs st1 := rfl
def fR2  (r : R (List D)) : R (List D × Wat) := r.bind fun b st1 => rng2 b st1
@[simp] theorem fR2_ok  {b : (List D)} {st1 : Sto} : fR2  (.ok b st1) = rng2 b st1 := rfl
@[simp] theorem fR2_st  : fR2  .stuck = .stuck := rfl
@[simp] theorem fR2_ex  {c : Nat} {fs : List (Str × D)} {st1 : Sto} : fR2  (.exc c fs st1) = .exc c fs st1 := rfl
def fEn  (r : R D) : R (List D × Wat) := r.bind fun b st1 => enumS b st1
@[simp] theorem fEn_ok  {b : D} {st1 : Sto} : fEn  (.ok b st1) = enumS b st1 := rfl
@[simp] theorem fEn_st  : fEn  .stuck = .stuck := rfl
@[simp] theorem fEn_ex  {c : Nat} {fs : List (Str × D)} {st1 : Sto} : fEn  (.exc c fs st1) = .exc c fs st1 := rfl
def fZp  (r : R (List D)) : R (List D × Wat) := r.bind fun b st1 => zipS b st1
@[simp] theorem fZp_ok  {b : (List D)} {st1 : Sto} : fZp  (.ok b st1) = zipS b st1 := rfl
@[simp] theorem fZp_st  : fZp  .stuck = .stuck := rfl
@[simp] theorem fZp_ex  {c : Nat} {fs : List (Str × D)} {st1 : Sto} : fZp  (.exc c fs st1) = .exc c fs st1 := rfl
def fComp (vs : List Nat) (t : Tg) (C : DT) (F : DE) (env : Env) (r : R (List D × Wat)) : R (List D) := r.bind fun b st1 => if b.1.length ≤ sizeLine then compL b.2 t C F (wipeE env vs) b.1 st1 else .stuck
@[simp] theorem fComp_ok {vs : List Nat} {t : Tg} {C : DT} {F : DE} {env : Env} {b : (List D × Wat)} {st1 : Sto} : fComp vs t C F env (.ok b st1) = if b.1.length ≤ sizeLine then compL b.2 t C F (wipeE env vs) b.1 st1 else .stuck := rfl
@[simp] theorem fComp_st {vs : List Nat} {t : Tg} {C : DT} {F : DE} {env : Env} : fComp vs t C F env .stuck = .stuck := rfl
@[simp] theorem fComp_ex {vs : List Nat} {t : Tg} {C : DT} {F : DE} {env : Env} {c : Nat} {fs : List (Str × D)} {st1 : Sto} : fComp vs t C F env (.exc c fs st1) = .exc c fs st1 := rfl
def gRet (env : Env) (r : R D) : RS := bindS r env fun b st1 => .rt b st1
@[simp] theorem gRet_ok {env : Env} {b : D} {st1 : Sto} : gRet env (.ok b st1) = .rt b st1 := rfl
@[simp] theorem gRet_st {env : Env} : gRet env .stuck = .stuck := rfl
@[simp] theorem gRet_ex {env : Env} {c : Nat} {fs : List (Str × D)} {st1 : Sto} : gRet env (.exc c fs st1) = .exc c fs env st1 := rfl
def gIf (A B : DS) (env : Env) (r : R Bool) : RS := bindS r env fun b st1 => if b = true then A env st1 else B env st1
@[simp] theorem gIf_ok {A B : DS} {env : Env} {b : Bool} {st1 : Sto} : gIf A B env (.ok b st1) = if b = true then A env st1 else B env st1 := rfl
@[simp] theorem gIf_st {A B : DS} {env : Env} : gIf A B env .stuck = .stuck := rfl
@[simp] theorem gIf_ex {A B : DS} {env : Env} {c : Nat} {fs : List (Str × D)} {st1 : Sto} : gIf A B env (.exc c fs st1) = .exc c fs env st1 := rfl
def gExpr (env : Env) (r : R D) : RS := bindS r env fun b st1 => .nx env st1
@[simp] theorem gExpr_ok {env : Env} {b : D} {st1 : Sto} : gExpr env (.ok b st1) = .nx env st1 := rfl
@[simp] theorem gExpr_st {env : Env} : gExpr env .stuck = .stuck := rfl
@[simp] theorem gExpr_ex {env : Env} {c : Nat} {fs : List (Str × D)} {st1 : Sto} : gExpr env (.exc c fs st1) = .exc c fs env st1 := rfl
def gAsg (i : Nat) (env : Env) (r : R D) : RS := bindS r env fun b st1 => .nx (env.set i (some b)) st1
@[simp] theorem gAsg_ok {i : Nat} {env : Env} {b : D} {st1 : Sto} : gAsg i env (.ok b st1) = .nx (env.set i (some b)) st1 := rfl
@[simp] theorem gAsg_st {i : Nat} {env : Env} : gAsg i env .stuck = .stuck := rfl
@[simp] theorem gAsg_ex {i : Nat} {env : Env} {c : Nat} {fs : List (Str × D)} {st1 : Sto} : gAsg i env (.exc c fs st1) = .exc c fs env st1 := rfl
def gSubc (d o : D) (env : Env) (r : R D) : RS := bindS r env fun b st1 => stS (setD o b d st1) env
@[simp] theorem gSubc_ok {d o : D} {env : Env} {b : D} {st1 : Sto} : gSubc d o env (.ok b st1) = stS (setD o b d st1) env := rfl
@[simp] theorem gSubc_st {d o : D} {env : Env} : gSubc d o env .stuck = .stuck := rfl
@[simp] theorem gSubc_ex {d o : D} {env : Env} {c : Nat} {fs : List (Str × D)} {st1 : Sto} : gSubc d o env (.exc c fs st1) = .exc c fs env st1 := rfl
def gSubb (d : D) (Fi : DE) (env : Env) (r : R D) : RS := bindS r env fun b st1 => gSubc d b env (Fi env st1)
@[simp] theorem gSubb_ok {d : D} {Fi : DE} {env : Env} {b : D} {st1 : Sto} : gSubb d Fi env (.ok b st1) = gSubc d b env (Fi env st1) := rfl
@[simp] theorem gSubb_st {d : D} {Fi : DE} {env : Env} : gSubb d Fi env .stuck = .stuck := rfl
@[simp] theorem gSubb_ex {d : D} {Fi : DE} {env : Env} {c : Nat} {fs : List (Str × D)} {st1 : Sto} : gSubb d Fi env (.exc c fs st1) = .exc c fs env st1 := rfl
def gSuba (Fo Fi : DE) (env : Env) (r : R D) : RS := bindS r env fun b st1 => gSubb b Fi env (Fo env st1)
@[simp] theorem gSuba_ok {Fo Fi : DE} {env : Env} {b : D} {st1 : Sto} : gSuba Fo Fi env (.ok b st1) = gSubb b Fi env (Fo env st1) := rfl
@[simp] theorem gSuba_st {Fo Fi : DE} {env : Env} : gSuba Fo Fi env .stuck = .stuck := rfl
@[simp] theorem gSuba_ex {Fo Fi : DE} {env : Env} {c : Nat} {fs : List (Str × D)} {st1 : Sto} : gSuba Fo Fi env (.exc c fs st1) = .exc c fs env st1 := rfl
def gPar (i j : Nat) (env : Env) (r : R (List D)) : RS := bindS r env fun b st1 => parS i j env b st1
@[simp] theorem gPar_ok {i j : Nat} {env : Env} {b : (List D)} {st1 : Sto} : gPar i j env (.ok b st1) = parS i j env b st1 := rfl
@[simp] theorem gPar_st {i j : Nat} {env : Env} : gPar i j env .stuck = .stuck := rfl
@[simp] theorem gPar_ex {i j : Nat} {env : Env} {c : Nat} {fs : List (Str × D)} {st1 : Sto} : gPar i j env (.exc c fs st1) = .exc c fs env st1 := rfl
def gFor (t : Tg) (A : DS) (env : Env) (r : R (List D × Wat)) : RS := bindS r env fun b st1 => forL b.2 t A b.1 env st1
@[simp] theorem gFor_ok {t : Tg} {A : DS} {env : Env} {b : (List D × Wat)} {st1 : Sto} : gFor t A env (.ok b st1) = forL b.2 t A b.1 env st1 := rfl
@[simp] theorem gFor_st {t : Tg} {A : DS} {env : Env} : gFor t A env .stuck = .stuck := rfl
@[simp] theorem gFor_ex {t : Tg} {A : DS} {env : Env} {c : Nat} {fs : List (Str × D)} {st1 : Sto} : gFor t A env (.exc c fs st1) = .exc c fs env st1 := rfl
@[simp] theorem ap188 {env : Env} {st : Sto} {F Fa Fb Fc Fo Fi : DE} {G : DA} {A B : DS} {C C' : DT} {I : DIt} {i j n : Nat} {d : D} {t : Tg} {vs : List Nat} {T : String} {o1 : D → Sto → R D} {o o' : D → D → Sto → R D} {oc : List D → Sto → R D} {om : D → List D → Sto → R D} {Fl Fh : DO} : eVar i env st = varR env[i]? st := rfl
@[simp] theorem ap189 {env : Env} {st : Sto} {F Fa Fb Fc Fo Fi : DE} {G : DA} {A B : DS} {C C' : DT} {I : DIt} {i j n : Nat} {d : D} {t : Tg} {vs : List Nat} {T : String} {o1 : D → Sto → R D} {o o' : D → D → Sto → R D} {oc : List D → Sto → R D} {om : D → List D → Sto → R D} {Fl Fh : DO} : eC d env st = .ok d st := rfl
@[simp] theorem ap190 {env : Env} {st : Sto} {F Fa Fb Fc Fo Fi : DE} {G : DA} {A B : DS} {C C' : DT} {I : DIt} {i j n : Nat} {d : D} {t : Tg} {vs : List Nat} {T : String} {o1 : D → Sto → R D} {o o' : D → D → Sto → R D} {oc : List D → Sto → R D} {om : D → List D → Sto → R D} {Fl Fh : DO} : e2 o Fa Fb env st = f2a o Fb env (Fa env st) := rfl
@[simp] theorem ap191 {env : Env} {st : Sto} {F Fa Fb Fc Fo Fi : DE} {G : DA} {A B : DS} {C C' : DT} {I : DIt} {i j n : Nat} {d : D} {t : Tg} {vs : List Nat} {T : String} {o1 : D → Sto → R D} {o o' : D → D → Sto → R D} {oc : List D → Sto → R D} {om : D → List D → Sto → R D} {Fl Fh : DO} : e1 o1 Fa env st = f1 o1 (Fa env st) := rfl
@[simp] theorem ap192 {env : Env} {st : Sto} {F Fa Fb Fc Fo Fi : DE} {G : DA} {A B : DS} {C C' : DT} {I : DIt} {i j n : Nat} {d : D} {t : Tg} {vs : List Nat} {T : String} {o1 : D → Sto → R D} {o o' : D → D → Sto → R D} {oc : List D → Sto → R D} {om : D → List D → Sto → R D} {Fl Fh : DO} : eEv G env st = fEv (G env st) := rfl
@[simp] theorem ap193 {env : Env} {st : Sto} {F Fa Fb Fc Fo Fi : DE} {G : DA} {A B : DS} {C C' : DT} {I : DIt} {i j n : Nat} {d : D} {t : Tg} {vs : List Nat} {T : String} {o1 : D → Sto → R D} {o o' : D → D → Sto → R D} {oc : List D → Sto → R D} {om : D → List D → Sto → R D} {Fl Fh : DO} : eNew G env st = fNew (G env st) := rfl
@[simp] theorem ap194 {env : Env} {st : Sto} {F Fa Fb Fc Fo Fi : DE} {G : DA} {A B : DS} {C C' : DT} {I : DIt} {i j n : Nat} {d : D} {t : Tg} {vs : List Nat} {T : String} {o1 : D → Sto → R D} {o o' : D → D → Sto → R D} {oc : List D → Sto → R D} {om : D → List D → Sto → R D} {Fl Fh : DO} : lDisp G env st = fDisp (G env st) := rfl
@[simp] theorem ap195 {env : Env} {st : Sto} {F Fa Fb Fc Fo Fi : DE} {G : DA} {A B : DS} {C C' : DT} {I : DIt} {i j n : Nat} {d : D} {t : Tg} {vs : List Nat} {T : String} {o1 : D → Sto → R D} {o o' : D → D → Sto → R D} {oc : List D → Sto → R D} {om : D → List D → Sto → R D} {Fl Fh : DO} : aNil env st = .ok [] st := rfl
@[simp] theorem ap196 {env : Env} {st : Sto} {F Fa Fb Fc Fo Fi : DE} {G : DA} {A B : DS} {C C' : DT} {I : DIt} {i j n : Nat} {d : D} {t : Tg} {vs : List Nat} {T : String} {o1 : D → Sto → R D} {o o' : D → D → Sto → R D} {oc : List D → Sto → R D} {om : D → List D → Sto → R D} {Fl Fh : DO} : aCons F G env st = fConsa G env (F env st) := rfl
@[simp] theorem ap197 {env : Env} {st : Sto} {F Fa Fb Fc Fo Fi : DE} {G : DA} {A B : DS} {C C' : DT} {I : DIt} {i j n : Nat} {d : D} {t : Tg} {vs : List Nat} {T : String} {o1 : D → Sto → R D} {o o' : D → D → Sto → R D} {oc : List D → Sto → R D} {om : D → List D → Sto → R D} {Fl Fh : DO} : eTup G env st = fTup (G env st) := rfl
@[simp] theorem ap198 {env : Env} {st : Sto} {F Fa Fb Fc Fo Fi : DE} {G : DA} {A B : DS} {C C' : DT} {I : DIt} {i j n : Nat} {d : D} {t : Tg} {vs : List Nat} {T : String} {o1 : D → Sto → R D} {o o' : D → D → Sto → R D} {oc : List D → Sto → R D} {om : D → List D → Sto → R D} {Fl Fh : DO} : eLst G env st = fLst (G env st) := rfl
@[simp] theorem ap199 {env : Env} {st : Sto} {F Fa Fb Fc Fo Fi : DE} {G : DA} {A B : DS} {C C' : DT} {I : DIt} {i j n : Nat} {d : D} {t : Tg} {vs : List Nat} {T : String} {o1 : D → Sto → R D} {o o' : D → D → Sto → R D} {oc : List D → Sto → R D} {om : D → List D → Sto → R D} {Fl Fh : DO} : eCall oc G env st = fCall oc (G env st) := rfl
@[simp] theorem ap200 {env : Env} {st : Sto} {F Fa Fb Fc Fo Fi : DE} {G : DA} {A B : DS} {C C' : DT} {I : DIt} {i j n : Nat} {d : D} {t : Tg} {vs : List Nat} {T : String} {o1 : D → Sto → R D} {o o' : D → D → Sto → R D} {oc : List D → Sto → R D} {om : D → List D → Sto → R D} {Fl Fh : DO} : eAnd Fa Fb env st = fAnd Fb env (Fa env st) := by
  unfold eAnd fAnd; congr
@[simp] theorem ap201 {env : Env} {st : Sto} {F Fa Fb Fc Fo Fi : DE} {G : DA} {A B : DS} {C C' : DT} {I : DIt} {i j n : Nat} {d : D} {t : Tg} {vs : List Nat} {T : String} {o1 : D → Sto → R D} {o o' : D → D → Sto → R D} {oc : List D → Sto → R D} {om : D → List D → Sto → R D} {Fl Fh : DO} : eOr Fa Fb env st = fOr Fb env (Fa env st) := by
  unfold eOr fOr; congr
@[simp] theorem ap202 {env : Env} {st : Sto} {F Fa Fb Fc Fo Fi : DE} {G : DA} {A B : DS} {C C' : DT} {I : DIt} {i j n : Nat} {d : D} {t : Tg} {vs : List Nat} {T : String} {o1 : D → Sto → R D} {o o' : D → D → Sto → R D} {oc : List D → Sto → R D} {om : D → List D → Sto → R D} {Fl Fh : DO} : eNot Fa env st = fNot (Fa env st) := rfl
@[simp] theorem ap203 {env : Env} {st : Sto} {F Fa Fb Fc Fo Fi : DE} {G : DA} {A B : DS} {C C' : DT} {I : DIt} {i j n : Nat} {d : D} {t : Tg} {vs : List Nat} {T : String} {o1 : D → Sto → R D} {o o' : D → D → Sto → R D} {oc : List D → Sto → R D} {om : D → List D → Sto → R D} {Fl Fh : DO} : tst Fa env st = fTst (Fa env st) := rfl
@[simp] theorem ap204 {env : Env} {st : Sto} {F Fa Fb Fc Fo Fi : DE} {G : DA} {A B : DS} {C C' : DT} {I : DIt} {i j n : Nat} {d : D} {t : Tg} {vs : List Nat} {T : String} {o1 : D → Sto → R D} {o o' : D → D → Sto → R D} {oc : List D → Sto → R D} {om : D → List D → Sto → R D} {Fl Fh : DO} : tstB Fa env st = fTstB (Fa env st) := rfl
@[simp] theorem ap205 {env : Env} {st : Sto} {F Fa Fb Fc Fo Fi : DE} {G : DA} {A B : DS} {C C' : DT} {I : DIt} {i j n : Nat} {d : D} {t : Tg} {vs : List Nat} {T : String} {o1 : D → Sto → R D} {o o' : D → D → Sto → R D} {oc : List D → Sto → R D} {om : D → List D → Sto → R D} {Fl Fh : DO} : bAnd C C' env st = fbAnd C' env (C env st) := rfl
@[simp] theorem ap206 {env : Env} {st : Sto} {F Fa Fb Fc Fo Fi : DE} {G : DA} {A B : DS} {C C' : DT} {I : DIt} {i j n : Nat} {d : D} {t : Tg} {vs : List Nat} {T : String} {o1 : D → Sto → R D} {o o' : D → D → Sto → R D} {oc : List D → Sto → R D} {om : D → List D → Sto → R D} {Fl Fh : DO} : bOr C C' env st = fbOr C' env (C env st) := rfl
@[simp] theorem ap207 {env : Env} {st : Sto} {F Fa Fb Fc Fo Fi : DE} {G : DA} {A B : DS} {C C' : DT} {I : DIt} {i j n : Nat} {d : D} {t : Tg} {vs : List Nat} {T : String} {o1 : D → Sto → R D} {o o' : D → D → Sto → R D} {oc : List D → Sto → R D} {om : D → List D → Sto → R D} {Fl Fh : DO} : bNot C env st = fbNot (C env st) := rfl
@[simp] theorem ap208 {env : Env} {st : Sto} {F Fa Fb Fc Fo Fi : DE} {G : DA} {A B : DS} {C C' : DT} {I : DIt} {i j n : Nat} {d : D} {t : Tg} {vs : List Nat} {T : String} {o1 : D → Sto → R D} {o o' : D → D → Sto → R D} {oc : List D → Sto → R D} {om : D → List D → Sto → R D} {Fl Fh : DO} : eIf C Fa Fb env st = fIf Fa Fb env (C env st) := rfl
@[simp] theorem ap209 {env : Env} {st : Sto} {F Fa Fb Fc Fo Fi : DE} {G : DA} {A B : DS} {C C' : DT} {I : DIt} {i j n : Nat} {d : D} {t : Tg} {vs : List Nat} {T : String} {o1 : D → Sto → R D} {o o' : D → D → Sto → R D} {oc : List D → Sto → R D} {om : D → List D → Sto → R D} {Fl Fh : DO} : eChain o o' Fa Fb Fc env st = fCha o o' Fb Fc env (Fa env st) := by
  unfold eChain fCha fChb fChc fChd fTstB; congr; funext a st1; congr; funext b st2; cases o a b st2 with
  | ok k st3 => (cases k with | bl q => cases q <;> rfl | _ => rfl)
  | _ => rfl
@[simp] theorem ap210 {env : Env} {st : Sto} {F Fa Fb Fc Fo Fi : DE} {G : DA} {A B : DS} {C C' : DT} {I : DIt} {i j n : Nat} {d : D} {t : Tg} {vs : List Nat} {T : String} {o1 : D → Sto → R D} {o o' : D → D → Sto → R D} {oc : List D → Sto → R D} {om : D → List D → Sto → R D} {Fl Fh : DO} : eSl Fa Fl Fh env st = fSla Fl Fh env (Fa env st) := rfl
@[simp] theorem ap211 {env : Env} {st : Sto} {F Fa Fb Fc Fo Fi : DE} {G : DA} {A B : DS} {C C' : DT} {I : DIt} {i j n : Nat} {d : D} {t : Tg} {vs : List Nat} {T : String} {o1 : D → Sto → R D} {o o' : D → D → Sto → R D} {oc : List D → Sto → R D} {om : D → List D → Sto → R D} {Fl Fh : DO} : eNo env st = .ok none st := rfl
@[simp] theorem ap212 {env : Env} {st : Sto} {F Fa Fb Fc Fo Fi : DE} {G : DA} {A B : DS} {C C' : DT} {I : DIt} {i j n : Nat} {d : D} {t : Tg} {vs : List Nat} {T : String} {o1 : D → Sto → R D} {o o' : D → D → Sto → R D} {oc : List D → Sto → R D} {om : D → List D → Sto → R D} {Fl Fh : DO} : ePart F env st = fPart (F env st) := rfl
@[simp] theorem ap213 {env : Env} {st : Sto} {F Fa Fb Fc Fo Fi : DE} {G : DA} {A B : DS} {C C' : DT} {I : DIt} {i j n : Nat} {d : D} {t : Tg} {vs : List Nat} {T : String} {o1 : D → Sto → R D} {o o' : D → D → Sto → R D} {oc : List D → Sto → R D} {om : D → List D → Sto → R D} {Fl Fh : DO} : eMt T om Fo G env st = fMta T om G env (Fo env st) := rfl
@[simp] theorem ap214 {env : Env} {st : Sto} {F Fa Fb Fc Fo Fi : DE} {G : DA} {A B : DS} {C C' : DT} {I : DIt} {i j n : Nat} {d : D} {t : Tg} {vs : List Nat} {T : String} {o1 : D → Sto → R D} {o o' : D → D → Sto → R D} {oc : List D → Sto → R D} {om : D → List D → Sto → R D} {Fl Fh : DO} : eMt0 T om Fo env st = fMt0 T om (Fo env st) := rfl
@[simp] theorem ap215 {env : Env} {st : Sto} {F Fa Fb Fc Fo Fi : DE} {G : DA} {A B : DS} {C C' : DT} {I : DIt} {i j n : Nat} {d : D} {t : Tg} {vs : List Nat} {T : String} {o1 : D → Sto → R D} {o o' : D → D → Sto → R D} {oc : List D → Sto → R D} {om : D → List D → Sto → R D} {Fl Fh : DO} : sSeq A B env st = seqS (A env st) B := rfl
@[simp] theorem ap216 {env : Env} {st : Sto} {F Fa Fb Fc Fo Fi : DE} {G : DA} {A B : DS} {C C' : DT} {I : DIt} {i j n : Nat} {d : D} {t : Tg} {vs : List Nat} {T : String} {o1 : D → Sto → R D} {o o' : D → D → Sto → R D} {oc : List D → Sto → R D} {om : D → List D → Sto → R D} {Fl Fh : DO} : sNil env st = .nx env st := rfl
@[simp] theorem ap217 {env : Env} {st : Sto} {F Fa Fb Fc Fo Fi : DE} {G : DA} {A B : DS} {C C' : DT} {I : DIt} {i j n : Nat} {d : D} {t : Tg} {vs : List Nat} {T : String} {o1 : D → Sto → R D} {o o' : D → D → Sto → R D} {oc : List D → Sto → R D} {om : D → List D → Sto → R D} {Fl Fh : DO} : sBreak env st = .bk env st := rfl
@[simp] theorem ap218 {env : Env} {st : Sto} {F Fa Fb Fc Fo Fi : DE} {G : DA} {A B : DS} {C C' : DT} {I : DIt} {i j n : Nat} {d : D} {t : Tg} {vs : List Nat} {T : String} {o1 : D → Sto → R D} {o o' : D → D → Sto → R D} {oc : List D → Sto → R D} {om : D → List D → Sto → R D} {Fl Fh : DO} : sCont env st = .ct env st := rfl
@[simp] theorem ap219 {env : Env} {st : Sto} {F Fa Fb Fc Fo Fi : DE} {G : DA} {A B : DS} {C C' : DT} {I : DIt} {i j n : Nat} {d : D} {t : Tg} {vs : List Nat} {T : String} {o1 : D → Sto → R D} {o o' : D → D → Sto → R D} {oc : List D → Sto → R D} {om : D → List D → Sto → R D} {Fl Fh : DO} : sRet F env st = gRet env (F env st) := rfl
@[simp] theorem ap220 {env : Env} {st : Sto} {F Fa Fb Fc Fo Fi : DE} {G : DA} {A B : DS} {C C' : DT} {I : DIt} {i j n : Nat} {d : D} {t : Tg} {vs : List Nat} {T : String} {o1 : D → Sto → R D} {o o' : D → D → Sto → R D} {oc : List D → Sto → R D} {om : D → List D → Sto → R D} {Fl Fh : DO} : sRetN env st = .rt .non st := rfl
@[simp] theorem ap221 {env : Env} {st : Sto} {F Fa Fb Fc Fo Fi : DE} {G : DA} {A B : DS} {C C' : DT} {I : DIt} {i j n : Nat} {d : D} {t : Tg} {vs : List Nat} {T : String} {o1 : D → Sto → R D} {o o' : D → D → Sto → R D} {oc : List D → Sto → R D} {om : D → List D → Sto → R D} {Fl Fh : DO} : sIf C A B env st = gIf A B env (C env st) := rfl
@[simp] theorem ap222 {env : Env} {st : Sto} {F Fa Fb Fc Fo Fi : DE} {G : DA} {A B : DS} {C C' : DT} {I : DIt} {i j n : Nat} {d : D} {t : Tg} {vs : List Nat} {T : String} {o1 : D → Sto → R D} {o o' : D → D → Sto → R D} {oc : List D → Sto → R D} {om : D → List D → Sto → R D} {Fl Fh : DO} : sExpr F env st = gExpr env (F env st) := rfl
@[simp] theorem ap223 {env : Env} {st : Sto} {F Fa Fb Fc Fo Fi : DE} {G : DA} {A B : DS} {C C' : DT} {I : DIt} {i j n : Nat} {d : D} {t : Tg} {vs : List Nat} {T : String} {o1 : D → Sto → R D} {o o' : D → D → Sto → R D} {oc : List D → Sto → R D} {om : D → List D → Sto → R D} {Fl Fh : DO} : sAsg (.nm i) F env st = gAsg i env (F env st) := rfl
@[simp] theorem ap224 {env : Env} {st : Sto} {F Fa Fb Fc Fo Fi : DE} {G : DA} {A B : DS} {C C' : DT} {I : DIt} {i j n : Nat} {d : D} {t : Tg} {vs : List Nat} {T : String} {o1 : D → Sto → R D} {o o' : D → D → Sto → R D} {oc : List D → Sto → R D} {om : D → List D → Sto → R D} {Fl Fh : DO} : sSub F Fo Fi env st = gSuba Fo Fi env (F env st) := rfl
@[simp] theorem ap225 {env : Env} {st : Sto} {F Fa Fb Fc Fo Fi : DE} {G : DA} {A B : DS} {C C' : DT} {I : DIt} {i j n : Nat} {d : D} {t : Tg} {vs : List Nat} {T : String} {o1 : D → Sto → R D} {o o' : D → D → Sto → R D} {oc : List D → Sto → R D} {om : D → List D → Sto → R D} {Fl Fh : DO} : sPar i j G env st = gPar i j env (G env st) := rfl
@[simp] theorem ap226 {env : Env} {st : Sto} {F Fa Fb Fc Fo Fi : DE} {G : DA} {A B : DS} {C C' : DT} {I : DIt} {i j n : Nat} {d : D} {t : Tg} {vs : List Nat} {T : String} {o1 : D → Sto → R D} {o o' : D → D → Sto → R D} {oc : List D → Sto → R D} {om : D → List D → Sto → R D} {Fl Fh : DO} : sFor t I A env st = gFor t A env (I env st) := rfl
@[simp] theorem ap227 {env : Env} {st : Sto} {F Fa Fb Fc Fo Fi : DE} {G : DA} {A B : DS} {C C' : DT} {I : DIt} {i j n : Nat} {d : D} {t : Tg} {vs : List Nat} {T : String} {o1 : D → Sto → R D} {o o' : D → D → Sto → R D} {oc : List D → Sto → R D} {om : D → List D → Sto → R D} {Fl Fh : DO} : lComp vs t I C F env st = fComp vs t C F env (I env st) := rfl
@[simp] theorem ap228 {env : Env} {st : Sto} {F Fa Fb Fc Fo Fi : DE} {G : DA} {A B : DS} {C C' : DT} {I : DIt} {i j n : Nat} {d : D} {t : Tg} {vs : List Nat} {T : String} {o1 : D → Sto → R D} {o o' : D → D → Sto → R D} {oc : List D → Sto → R D} {om : D → List D → Sto → R D} {Fl Fh : DO} : iVal F env st = fIv (F env st) := rfl
@[simp] theorem ap229 {env : Env} {st : Sto} {F Fa Fb Fc Fo Fi : DE} {G : DA} {A B : DS} {C C' : DT} {I : DIt} {i j n : Nat} {d : D} {t : Tg} {vs : List Nat} {T : String} {o1 : D → Sto → R D} {o o' : D → D → Sto → R D} {oc : List D → Sto → R D} {om : D → List D → Sto → R D} {Fl Fh : DO} : iEph G env st = fIe (G env st) := rfl
@[simp] theorem ap230 {env : Env} {st : Sto} {F Fa Fb Fc Fo Fi : DE} {G : DA} {A B : DS} {C C' : DT} {I : DIt} {i j n : Nat} {d : D} {t : Tg} {vs : List Nat} {T : String} {o1 : D → Sto → R D} {o o' : D → D → Sto → R D} {oc : List D → Sto → R D} {om : D → List D → Sto → R D} {Fl Fh : DO} : iRange1 G env st = fR1 (G env st) := rfl
@[simp] theorem ap231 {env : Env} {st : Sto} {F Fa Fb Fc Fo Fi : DE} {G : DA} {A B : DS} {C C' : DT} {I : DIt} {i j n : Nat} {d : D} {t : Tg} {vs : List Nat} {T : String} {o1 : D → Sto → R D} {o o' : D → D → Sto → R D} {oc : List D → Sto → R D} {om : D → List D → Sto → R D} {Fl Fh : DO} : iRange2 G env st = fR2 (G env st) := rfl
@[simp] theorem ap232 {env : Env} {st : Sto} {F Fa Fb Fc Fo Fi : DE} {G : DA} {A B : DS} {C C' : DT} {I : DIt} {i j n : Nat} {d : D} {t : Tg} {vs : List Nat} {T : String} {o1 : D → Sto → R D} {o o' : D → D → Sto → R D} {oc : List D → Sto → R D} {om : D → List D → Sto → R D} {Fl Fh : DO} : iEnum' F env st = fEn (F env st) := rfl
@[simp] theorem ap233 {env : Env} {st : Sto} {F Fa Fb Fc Fo Fi : DE} {G : DA} {A B : DS} {C C' : DT} {I : DIt} {i j n : Nat} {d : D} {t : Tg} {vs : List Nat} {T : String} {o1 : D → Sto → R D} {o o' : D → D → Sto → R D} {oc : List D → Sto → R D} {om : D → List D → Sto → R D} {Fl Fh : DO} : iZip' G env st = fZp (G env st) := rfl
@[simp] theorem ap234 {env : Env} {st : Sto} {F Fa Fb Fc Fo Fi : DE} {G : DA} {A B : DS} {C C' : DT} {I : DIt} {i j n : Nat} {d : D} {t : Tg} {vs : List Nat} {T : String} {o1 : D → Sto → R D} {o o' : D → D → Sto → R D} {oc : List D → Sto → R D} {om : D → List D → Sto → R D} {Fl Fh : DO} : cYes env st = .ok true st := rfl
section
variable {a b : D} {st : Sto} {i j : Int} {x y : Str}
@[simp] theorem add_int : addD (.int i) (.int j) st = .ok (.int (i + j)) st := rfl
@[simp] theorem sub_int : subD (.int i) (.int j) st = .ok (.int (i - j)) st := rfl
theorem mul_int (h : i.natAbs.log2 + j.natAbs.log2 < 1000000) : mulD (.int i) (.int j) st = .ok (.int (i * j)) st := by show (if _ then _ else _) = _; rw [if_pos h]
theorem mod_int (h : 0 < j) : modD (.int i) (.int j) st = .ok (.int (i % j)) st := by show (if _ then _ else _) = _; rw [if_pos h]
theorem fdiv_int (h : 0 < j) (h2 : j.natAbs.log2 < 9000) : fdivD (.int i) (.int j) st = .ok (.int (i / j)) st := by show (if _ then _ else _) = _; rw [if_pos ⟨h, h2⟩]
@[simp] theorem neg_int' : negD (.int i) st = .ok (.int (-i)) st := rfl
@[simp] theorem lt_int' : ltD (.int i) (.int j) st = .ok (.bl (decide (i < j))) st := rfl
@[simp] theorem le_int' : leD (.int i) (.int j) st = .ok (.bl (decide (i ≤ j))) st := rfl
@[simp] theorem gt_int' : gtD (.int i) (.int j) st = .ok (.bl (decide (j < i))) st := rfl
@[simp] theorem ge_int' : geD (.int i) (.int j) st = .ok (.bl (decide (j ≤ i))) st := rfl
@[simp] theorem eq_int' : eqD (.int i) (.int j) st = .ok (.bl (decide (i = j))) st := rfl
@[simp] theorem ne_int' : neD (.int i) (.int j) st = .ok (.bl (!decide (i = j))) st := rfl
@[simp] theorem eq_str' : eqD (.str x) (.str y) st = .ok (.bl (decide (x = y))) st := rfl
@[simp] theorem ne_str' : neD (.str x) (.str y) st = .ok (.bl (!decide (x = y))) st := rfl
@[simp] theorem ofO_some {d : D} : ofO (some d) st = .ok d st := rfl
@[simp] theorem ix_tup' {ds : List D} : ixD (.tup ds) (.int i) st = ofO (atI ds i) st := rfl
@[simp] theorem ix_ev' {ds : List D} : ixD (.ev ds) (.int i) st = ofO (atI ds i) st := rfl
@[simp] theorem ix_kl' {ds : List D} : ixD (.kl ds) (.int i) st = ofO (atI ds i) st := rfl
theorem ix_obj' {n : Nat} {ds : List D} (h : st[n]? = some (.lst ds)) : ixD (.obj n) (.int i) st = ofO (atI ds i) st := by
  show (match seqOf st n with | some ds => ofO (atI ds i) st | none => .stuck) = _
  have : seqOf st n = some ds := by unfold seqOf; rw [h]
  rw [this]
theorem seq_lst {n : Nat} {ds : List D} (h : st[n]? = some (.lst ds)) : seqOf st n = some ds := by unfold seqOf; rw [h]
theorem set_lst {n : Nat} {ds : List D} {k : Nat} {d : D} (h : st[n]? = some (.lst ds)) (hk : k < ds.length) : setD (.obj n) (.int (k : Int)) d st = some (st.set n (.lst (ds.set k d))) := by
  unfold setD
  simp only [h]
  have : ixN ds.length (k : Int) = some k := by unfold ixN; rw [if_pos (by omega), if_pos (by omega)]; simp
  rw [this]
theorem atI_nat' {β : Type} {xs : List β} {k : Nat} (h : k < xs.length) : atI xs (k : Int) = xs[k]? := by
  unfold atI ixN
  rw [if_pos (by omega), if_pos (by omega)]
  simp
end
/-! what stands at a place of the store -/
def seqB (o : Option Ob) : Option (List D) := match o with | some (.lst ds) => some ds | some (.frz ds) => some ds | _ => none
@[simp] theorem seqOf_at {st : Sto} {n : Nat} : seqOf st n = seqB st[n]? := rfl
@[simp] theorem seqB_lst {ds : List D} : seqB (some (.lst ds)) = some ds := rfl
def ixS (o : Option (List D)) (i : Int) (st : Sto) : R D := match o with | some ds => ofO (atI ds i) st | none => .stuck
@[simp] theorem ixS_some {ds : List D} {i : Int} {st : Sto} : ixS (some ds) i st = ofO (atI ds i) st := rfl
@[simp] theorem ix_at {n : Nat} {i : Int} {st : Sto} : ixD (.obj n) (.int i) st = ixS (seqOf st n) i st := rfl
def setB (o : Option Ob) (n : Nat) (k : Int) (d : D) (st : Sto) : Option Sto := match o with
  | some (.lst ds) => (match ixN ds.length k with | some j => some (st.set n (.lst (ds.set j d))) | none => none)
  | _ => none
@[simp] theorem set_at {n : Nat} {k : Int} {d : D} {st : Sto} : setD (.obj n) (.int k) d st = setB st[n]? n k d st := by
  unfold setD setB; rfl
theorem setB_lst {ds : List D} {n : Nat} {k : Int} {j : Nat} {d : D} {st : Sto} (h : ixN ds.length k = some j) : setB (some (.lst ds)) n k d st = some (st.set n (.lst (ds.set j d))) := by
  unfold setB; simp only [h]
@[simp] theorem setB0 {x y z : D} {n : Nat} {d : D} {st : Sto} : setB (some (.lst [x, y, z])) n 0 d st = some (st.set n (.lst [d, y, z])) := rfl
@[simp] theorem setB2 {x y z : D} {n : Nat} {d : D} {st : Sto} : setB (some (.lst [x, y, z])) n 2 d st = some (st.set n (.lst [x, y, d])) := rfl
@[simp] theorem atI0 {β : Type} {x : β} {xs : List β} : atI (x :: xs) 0 = some x := by
  unfold atI ixN; simp
@[simp] theorem atI3_1 {β : Type} {x y z : β} : atI [x, y, z] 1 = some y := rfl
@[simp] theorem atI3_2 {β : Type} {x y z : β} : atI [x, y, z] 2 = some z := rfl
@[simp] theorem new_eq {o : Ob} {st : Sto} : new o st = .ok (.obj st.length) (st ++ [o]) := rfl
theorem szL : (sizeLine : Nat) = 16777216 := by rw [sizeLine_eq]
theorem log_le {a b : Nat} (h : a < 2 ^ b) (h0 : 0 < b) : a.log2 < b := PySem.Flt.log2_lt_of h0 h
/-- a product of small ones -/
theorem mul_ok {i j : Int} (st : Sto) (a b : Nat) (h1 : i.natAbs < 2 ^ a) (h2 : j.natAbs < 2 ^ b) (ha : 0 < a) (hb : 0 < b) (h : a + b ≤ 1000000) : mulD (.int i) (.int j) st = .ok (.int (i * j)) st :=
  mul_int (by have := log_le h1 ha; have := log_le h2 hb; omega)
theorem forL_nil {w : Wat} {t : Tg} {B : DS} {env : Env} {st : Sto} (h : okW w st = true) : forL w t B [] env st = .nx env st := by rw [forL, if_pos h]
theorem forL_cons {w : Wat} {t : Tg} {B : DS} {d : D} {ds : List D} {env env1 : Env} {st : Sto} (h : okW w st = true) (hb : bindT t d env = some env1) : forL w t B (d :: ds) env st = turnS (B env1 st) (forL w t B ds) := by
  rw [forL, if_pos h, hb]
  dsimp only
  unfold turnS
  cases B env1 st <;> rfl
theorem compL_nil {w : Wat} {t : Tg} {C : DT} {F : DE} {env : Env} {st : Sto} (h : okW w st = true) : compL w t C F env [] st = .ok [] st := by rw [compL, if_pos h]
theorem compL_yes {w : Wat} {t : Tg} {F : DE} {env env1 : Env} {d y : D} {ds ys : List D} {st st1 st2 : Sto} (h : okW w st = true) (hb : bindT t d env = some env1) (hF : F env1 st = .ok y st1) (hr : compL w t cYes F env ds st1 = .ok ys st2) :
    compL w t cYes F env (d :: ds) st = .ok (y :: ys) st2 := by
  rw [compL, if_pos h, hb]
  simp [hF, hr]
end Mi

namespace Mi
open PySem L2
/-! ### a < b of data: the first pair that differs alone is asked -/
section
open PySem.SeqAt PySem.MeetsSeq PySem.MeetsSeq2 PySem.MeetsSeq3
open PySem.AutoSeq1 (wpAny_loadPart')
def LxP (A : Around) (s : Shared) (z : Bool) : List (Value × Value) → Bool → Prop
  | [], k => k = z
  | (x, y) :: r, k => (EqAt A s x y true ∧ LxP A s z r k) ∨ (EqAt A s x y false ∧ RcLt A s x y k)
theorem tupLt_meets (l b : Addr) (xs ys : Array Value) (n m : Nat) (d1 d2 : Option Addr) (o1 o2 : Array (Option Value)) (k : Bool) :
    Meets (Builtin.«tuple.__lt__» ⟨[.ref l, .ref b], []⟩) (fun A R s =>
      s.heap.get? l = some { cls := .type "tuple", dict := d1, data := .seq xs n, slots := o1 } ∧
      s.heap.get? b = some { cls := .type "tuple", dict := d2, data := .seq ys m, slots := o2 } ∧
      LxP A.in1 s (decide (xs.size < ys.size)) (xs.toList.zip ys.toList) k ∧ R (.ok (.ret (.bool k))) s) :=
  .of_wp fun prog w A R s hh => by
    obtain ⟨hp, g, d, tk, os⟩ := s; obtain ⟨e1, e2, lx, fin⟩ := hh
    have f2 := AutoSeq1.sub_tuple_tuple
    wp_walk using wpAny_loadPart' e1, wpAny_loadPart' e2, wpAny_forIn_list _ (fun rest c s' => c.1 = none ∧ s' = ⟨hp, g, d, tk, os⟩ ∧ LxP A.in1 ⟨hp, g, d, tk, os⟩ (decide (xs.size < ys.size)) rest k) _
    case turn =>
      rintro ⟨y, x⟩ rest c s' ⟨hc, rfl, lx'⟩
      rcases lx' with ⟨a1, a2⟩ | ⟨a1, a2⟩
      · refine wpAny_bind (a1 prog w _ _ ?_)
        wp_walk
        exact ⟨rfl, rfl, a2⟩
      · refine wpAny_bind (a1 prog w _ _ ?_)
        have a3 := a2 prog w
        generalize richCompare CmpOp.Lt y x = act at a3 ⊢
        wp_walk
        refine a3 _ _ ?_
        wp_walk
        exact ⟨_, rfl, fin⟩
    case fin =>
      rintro ⟨c1, c2⟩ s' ⟨hc, rfl, lx'⟩
      simp only at hc
      subst hc
      have lx' : k = decide (xs.size < ys.size) := lx'
      rw [lx'] at fin
      wp_walk
      exact ⟨_, rfl, by simpa [Builtin.Tuple.tupleCompareSizes] using fin⟩
    case h =>
      exact ⟨rfl, rfl, lx⟩
theorem rcLt_tup {A : Around} {s : Shared} {l b : Addr} {xs ys : Array Value} {k : Bool} (hl : s.heap.IsTuple l xs) (hb : s.heap.IsTuple b ys) (hu : A.units < cLine)
    (h : LxP A.in1 s (decide (xs.size < ys.size)) (xs.toList.zip ys.toList) k) : RcLt A s (.ref l) (.ref b) k := fun prog w E Q q => by
  obtain ⟨⟨c1, d1, t1, o1⟩, g1, e1, n1, z1⟩ := id hl
  obtain ⟨⟨c2, d2, t2, o2⟩, g2, e2, n2, z2⟩ := id hb
  simp only at e1 z1 e2 z2
  subst e1 z1 e2 z2
  refine richCompare_meets_room (op := .Lt) ⟨_, g1, rfl⟩ ⟨_, g2, rfl⟩ F.slot_tuple_lt F.entry_tuple_lt (F.args_tuple_lt_2 _ _) (tupLt_meets l b xs ys n1 n2 d1 d2 o1 o2 k) ⟨g1, g2, h, ?_⟩ hu
  exact (⟨(fun x => nomatch x), q⟩ : Value.bool k ≠ Value.notImplemented ∧ Q (.bool k) s)
mutual
def pyLt : PyData → PyData → Option Bool
  | .int i, .int j => some (decide (i < j))
  | .bool p, .bool q => some (decide (PyProof.Rows.b2i p < PyProof.Rows.b2i q))
  | .str x, .str y => some (decide (x.cps.toList < y.cps.toList))
  | .tuple xs, .tuple ys => pyLts xs ys
  | _, _ => none
def pyLts : List PyData → List PyData → Option Bool
  | [], ys => some (decide (0 < ys.length))
  | _ :: _, [] => some false
  | x :: xs, y :: ys => if PyData.eqv x y = true then pyLts xs ys else pyLt x y
end
mutual
theorem pyLt_ok : ∀ (p q : PyData) (A : Around) (s : Shared) (a b : Value) (as bs : List Addr) (k : Bool), Reads s.heap a p as → Reads s.heap b q bs → p.canLay0 = true → q.canLay0 = true → pyLt p q = some k →
    A.units + min p.depth q.depth < cLine → RcLt A s a b k
  | .none, q, A, s, a, b, as, bs, k, ra, rb, hp, hq, h, hu => by cases q <;> simp [pyLt] at h
  | .list _, q, A, s, a, b, as, bs, k, ra, rb, hp, hq, h, hu => by cases q <;> simp [pyLt] at h
  | .dict _, q, A, s, a, b, as, bs, k, ra, rb, hp, hq, h, hu => by cases q <;> simp [pyLt] at h
  | .bool x, q, A, s, a, b, as, bs, k, ra, rb, hp, hq, h, hu => by
    cases q <;> try (simp [pyLt] at h; done)
    rename_i y
    cases ra
    cases rb
    intro prog w E Q z
    rw [pyLt] at h
    injection h with h
    rw [← h] at z
    exact PyProof.Rows.lt_bool z
  | .int x, q, A, s, a, b, as, bs, k, ra, rb, hp, hq, h, hu => by
    cases q <;> try (simp [pyLt] at h; done)
    rename_i y
    cases ra
    cases rb
    intro prog w E Q z
    rw [pyLt] at h
    injection h with h
    rw [← h] at z
    exact PyProof.Rows.lt_int z
  | .str x, q, A, s, a, b, as, bs, k, ra, rb, hp, hq, h, hu => by
    cases q <;> try (simp [pyLt] at h; done)
    rename_i y
    cases ra
    cases rb
    intro prog w E Q z
    rw [pyLt] at h
    injection h with h
    rw [← h] at z
    exact PyProof.Rows.lt_str z
  | .tuple xs, q, A, s, a, b, as, bs, k, ra, rb, hp, hq, h, hu => by
    cases q <;> try (simp [pyLt] at h; done)
    rename_i ys
    rw [pyLt] at h
    rw [PyData.canLay0] at hp hq
    cases ra with
    | @tuple l o vs n _ as1 h1 h2 h3 h4 =>
      cases rb with
      | @tuple l2 o2 ws m _ bs1 k1 k2 k3 k4 =>
        have e1 : vs.toList.length = xs.length := ReadsAll.length _ _ _ h4
        have e2 : ws.toList.length = ys.length := ReadsAll.length _ _ _ k4
        rw [PyData.depth, PyData.depth] at hu
        refine rcLt_tup ⟨_, h1, h2, _, h3⟩ ⟨_, k1, k2, _, k3⟩ (room_here hu) ?_
        have z : decide (vs.size < ws.size) = decide (vs.toList.length < ws.toList.length) := by simp
        rw [z]
        exact pyLts_ok xs ys A.in1 s vs.toList ws.toList _ _ k h4 k4 hp hq h (room_in hu)
theorem pyLts_ok : ∀ (xs ys : List PyData) (A : Around) (s : Shared) (vs ws : List Value) (as bs : List Addr) (k : Bool), ReadsAll s.heap vs xs as → ReadsAll s.heap ws ys bs → PyData.canLayAll0 xs = true → PyData.canLayAll0 ys = true → pyLts xs ys = some k →
    A.units + min (PyData.depthAll xs) (PyData.depthAll ys) < cLine → LxP A s (decide (vs.length < ws.length)) (vs.zip ws) k
  | [], ys, A, s, vs, ws, as, bs, k, ra, rb, hp, hq, h, hu => by
    have e2 : ws.length = ys.length := ReadsAll.length _ _ _ rb
    cases ra
    rw [pyLts] at h
    injection h with h
    show k = _
    rw [← h, e2]
    simp
  | x :: xs, [], A, s, vs, ws, as, bs, k, ra, rb, hp, hq, h, hu => by
    cases rb
    rw [pyLts] at h
    injection h with h
    rw [List.zip_nil_right]
    show k = _
    rw [← h]
    simp
  | x :: xs, y :: ys, A, s, vs, ws, as, bs, k, ra, rb, hp, hq, h, hu => by
    rw [PyData.canLayAll0, Bool.and_eq_true] at hp hq
    rw [PyData.depthAll, PyData.depthAll] at hu
    cases ra with
    | cons r rs =>
      cases rb with
      | cons r2 rs2 =>
        have e := eqAt_reads x y A s _ _ _ _ r r2 hp.1 hq.1 (room_head hu)
        rw [pyLts] at h
        by_cases c : PyData.eqv x y = true
        · rw [if_pos c] at h
          rw [c] at e
          have := pyLts_ok xs ys A s _ _ _ _ k rs rs2 hp.2 hq.2 h (room_tail hu)
          refine .inl ⟨e, ?_⟩
          rw [List.length_cons, List.length_cons]
          simp only [Nat.add_lt_add_iff_right]
          exact this
        · rw [if_neg c] at h
          rw [Bool.eq_false_iff.mpr c] at e
          exact .inr ⟨e, pyLt_ok x y A s _ _ _ _ k r r2 hp.1 hq.1 h (room_head hu)⟩
end
end
def ltP (a b : D) (st : Sto) : Option Bool := match toP st 66 a, toP st 66 b with
  | some p, some q => if (SeqAt.shaped p && SeqAt.shaped q) = true then pyLt p q else none
  | _, _ => none
def ltQ : D → D → Sto → R D
  | .tup xs, .tup ys, st => (match ltP (.tup xs) (.tup ys) st with | some k => .ok (.bl k) st | none => .stuck)
  | a, b, st => ltD a b st
section
variable {g : Gd} {X : Cx} {W : WX}
abbrev rLtP (K : PySem.W.Frag) : V → V → Hp → VK → Prop := fun x y H Q => ∃ p q k, Dp K H x p ∧ Dp K H y q ∧ SeqAt.shaped p = true ∧ SeqAt.shaped q = true ∧ pyLt p q = some k ∧ Q (.bl k) H
theorem op_ltP (hu : X.A.units + 64 < cLine) : OpR X (compareOp .Lt) (rLtP X.K) := by
  intro pins s σ H x y v u Q I rx ry h
  obtain ⟨p, q, k, hp, hq, sp, sq, e, z⟩ := h
  obtain ⟨as, r1⟩ := Dp.reads I p x v hp rx
  obtain ⟨bs, r2⟩ := Dp.reads I q y u hq ry
  exact pyLt_ok p q X.A s v u as bs k r1 r2 (SeqAt.canLay_of_shaped sp) (SeqAt.canLay_of_shaped sq) e (SeqAt.room_of_shaped sp hu) _ _ _ _ ⟨.bl _, H, I, rfl, z⟩
theorem op_ltQ (c : Ck g X W) : Op2 g X W (compareOp .Lt) ltQ := by
  intro σ α H st a b x y Q s ra rb p
  cases a <;> cases b <;> first
    | exact op_ltD σ α H st _ _ x y Q s ra rb p
    | skip
  rename_i xs ys
  unfold ltQ at p
  dsimp only at p
  split at p
  · rename_i k e
    unfold ltP at e
    split at e
    · rename_i p1 q1 e1 e2
      split at e
      · rename_i hs
        rw [Bool.and_eq_true] at hs
        have d1 := dpV s _ _ _ _ e1 ra
        have d2 := dpV s _ _ _ _ e2 rb
        rw [← c.hK] at d1 d2
        exact ⟨_, op_ltP (by have := c.hu; omega), p1, q1, k, d1, d2, hs.1, hs.2, e, p.ok s rfl⟩
      · cases e
    · cases e
  · exact p.elim
end
@[simp] theorem ltQ_int {i j : Int} {st : Sto} : ltQ (.int i) (.int j) st = .ok (.bl (decide (i < j))) st := rfl
@[simp] theorem ltQ_str {x y : Str} {st : Sto} : ltQ (.str x) (.str y) st = .ok (.bl (strLt x y)) st := rfl
theorem ltQ_bl {x y : Bool} {st : Sto} : ltQ (.bl x) (.bl y) st = .ok (.bl (!x && y)) st := by cases x <;> cases y <;> rfl
@[simp] theorem ap_chain {o o' : D → D → Sto → R D} {Fa Fb Fc : DE} {env : Env} {st : Sto} : eChain o o' Fa Fb Fc env st = fCha o o' Fb Fc env (Fa env st) :=
  ap209 (F := eC .non) (Fo := eC .non) (Fi := eC .non) (G := aNil) (A := sNil) (B := sNil) (C := cYes) (C' := cYes) (I := iVal (eC .non)) (i := 0) (j := 0) (n := 0) (d := .non) (t := .nm 0) (vs := []) (T := "") (o1 := negD) (oc := lenB) (om := findM) (Fl := eNo) (Fh := eNo)
@[simp] theorem ap_and {Fa Fb : DE} {env : Env} {st : Sto} : eAnd Fa Fb env st = fAnd Fb env (Fa env st) :=
  ap200 (F := eC .non) (Fc := eC .non) (Fo := eC .non) (Fi := eC .non) (G := aNil) (A := sNil) (B := sNil) (C := cYes) (C' := cYes) (I := iVal (eC .non)) (i := 0) (j := 0) (n := 0) (d := .non) (t := .nm 0) (vs := []) (T := "") (o1 := negD) (o := addD) (o' := addD) (oc := lenB) (om := findM) (Fl := eNo) (Fh := eNo)
@[simp] theorem ap_or {Fa Fb : DE} {env : Env} {st : Sto} : eOr Fa Fb env st = fOr Fb env (Fa env st) :=
  ap201 (F := eC .non) (Fc := eC .non) (Fo := eC .non) (Fi := eC .non) (G := aNil) (A := sNil) (B := sNil) (C := cYes) (C' := cYes) (I := iVal (eC .non)) (i := 0) (j := 0) (n := 0) (d := .non) (t := .nm 0) (vs := []) (T := "") (o1 := negD) (o := addD) (o' := addD) (oc := lenB) (om := findM) (Fl := eNo) (Fh := eNo)
end Mi

namespace Mi
open PySem L2
/-! ### instances: fields -/
def fldD (T : Nat → Bool) (f : Str) (d : D) (st : Sto) : R D := match d with
  | .obj n => (match st[n]? with
    | some (.ins c fs) => if T c = true then ofO (fs.lookup f) st else .stuck
    | _ => .stuck)
  | _ => .stuck
def putD (f : Str) (d : D) : List (Str × D) → List (Str × D)
  | [] => [(f, d)]
  | p :: ps => if p.1 = f then (f, d) :: ps else p :: putD f d ps
def sFldD (T : Nat → Bool) (f : Str) (Fv Fo : DE) : DS := fun env st => bindS (Fv env st) env fun d st1 => bindS (Fo env st1) env fun o st2 => match o with
  | .obj n => (match st2[n]? with
    | some (.ins c fs) => if T c = true ∧ fs.length < 1000 then .nx env (st2.set n (.ins c (putD f d fs))) else .stuck
    | _ => .stuck)
  | _ => .stuck
section
variable {g : Gd} {X : Cx} {W : WX} {α : List Addr} {H : Hp} {st : Sto} {pos : Pos}
theorem RFs.at {f : Str} {d : D} : ∀ {ds : List (Str × D)} {vs : List (Str × V)}, RFs g α H ds vs → ds.lookup f = some d → ∃ v, vs.lookup f = some v ∧ RD g α H d v
  | [], vs, _, e => by cases e
  | p :: ps, vs, h, e => by
    obtain ⟨v, r, rfl, h1, h2⟩ := h
    rw [List.lookup_cons] at e ⊢
    cases q : f == p.1 with
    | true => rw [q] at e; cases e; exact ⟨v, rfl, h1⟩
    | false => rw [q] at e; obtain ⟨u, e1, e2⟩ := RFs.at h2 e; exact ⟨u, e1, e2⟩
theorem RFs.length : ∀ {ds : List (Str × D)} {vs : List (Str × V)}, RFs g α H ds vs → ds.length = vs.length
  | [], vs, h => by cases h; rfl
  | p :: ps, vs, h => by
    obtain ⟨v, r, rfl, h1, h2⟩ := h
    rw [List.length_cons, List.length_cons, RFs.length h2]
theorem StR.ins (s : StR g α st H) {n : Nat} {v : V} {c : Nat} {fs : List (Str × D)} (r : RD g α H (.obj n) v) (e : st[n]? = some (.ins c fs)) :
    ∃ a C dx vs, v = .ref a ∧ α[n]? = some a ∧ g.ca c = some C ∧ H a = some (.ins C dx vs) ∧ RFs g α H fs vs := by
  obtain ⟨a, rfl, ha⟩ := r
  obtain ⟨C, dx, vs, h1, h2, h3⟩ := s.ob n a _ ha e
  exact ⟨a, C, dx, vs, rfl, ha, h1, h2, h3⟩
theorem oe_fld (c : Ck g X W) {o : Expr} {f : Str} {Fo : DE} {T : Nat → Bool} (ho : OE g X W o Fo) (hT : ∀ k C, T k = true → g.ca k = some C → Cls g.K C ∧ NoAttr g.K C f)
    (hb : attributeBase o f X.env (eval o X.env) = eval o X.env := by rfl) : OE g X W (.Attribute o f pos) (e1 (fldD T f) Fo) :=
  ofE (pe_fld ho hb) fun σ H Q ⟨α, env, st, hE, hS, p⟩ => by
    refine tE.run hE hS (p.bind.imp fun d st1 α1 H1 x1 s1 q v r => ?_)
    cases d <;> first | exact q.elim | skip
    rename_i n
    unfold fldD at q
    dsimp only at q
    split at q
    · rename_i k fs e
      split at q
      · rename_i ht
        obtain ⟨a, C, dx, vs, rfl, ha, hc, h1, h2⟩ := s1.ins r e
        cases l : fs.lookup f with
        | none => rw [l] at q; exact q.elim
        | some d =>
          rw [l] at q
          obtain ⟨u, e1, e2⟩ := h2.at l
          obtain ⟨t1, t2⟩ := hT k C ht hc
          exact ⟨a, C, dx, vs, u, rfl, h1, by rw [c.hK]; exact t1, by rw [c.hK]; exact t2, e1, q.ok s1 u e2⟩
      · exact q.elim
    · exact q.elim
theorem RFs.put {f : Str} {d : D} {v : V} (r : RD g α H d v) : ∀ {ds : List (Str × D)} {vs : List (Str × V)}, RFs g α H ds vs → RFs g α H (putD f d ds) (putF f v vs)
  | [], vs, h => by cases h; exact ⟨v, [], rfl, r, rfl⟩
  | p :: ps, vs, h => by
    obtain ⟨u, w, rfl, h1, h2⟩ := h
    rw [putD, putF]
    by_cases c : p.1 = f
    · rw [if_pos c, if_pos c]
      exact ⟨v, w, by rw [c], r, h2⟩
    · rw [if_neg c, if_neg c]
      exact ⟨u, _, rfl, h1, RFs.put r h2⟩
theorem os_fld (c : Ck g X W) {o e : Expr} {f : Str} {Fv Fo : DE} {T : Nat → Bool} {pos' : Pos} (hv : OE g X W e Fv) (ho : OE g X W o Fo) (hT : ∀ k C, T k = true → g.ca k = some C → Cls g.K C ∧ NoAttr g.K C f)
    (hs : swapsWith e (some (.Attribute o f pos')) pos.line X.env = pure false := by rfl) : OS g X W (.Assign [.Attribute o f pos'] e pos) (sFldD T f Fv Fo) :=
  ofS (ps_fld ho hv hs) fun E σ H ⟨α, env, st, hE, hS, p⟩ => by
    refine tE.run hE hS ((p.bind hE).imp fun d st1 α1 H1 x1 s1 q v r => ?_)
    have e1 := hE.mono x1
    refine tE.run e1 s1 ((q.bind e1).imp fun o st2 α2 H2 x2 s2 q2 v2 r2 => ?_)
    cases o <;> first | exact q2.elim | skip
    rename_i n
    dsimp only at q2
    split at q2
    · rename_i k fs ee
      split at q2
      · rename_i ht
        obtain ⟨a, C, dx, vs, rfl, ha, hc, h1, h2⟩ := s2.ins r2 ee
        obtain ⟨t1, t2⟩ := hT k C ht.1 hc
        have ex : Ext α2 H2 α2 (upd H2 a (.ins C dx (putF f v vs))) := ext_write s2 ha ⟨_, h1, fun _ z => (nomatch z), fun _ _ z => (nomatch z)⟩
        exact ⟨a, C, dx, vs, rfl, h1, by rw [c.hK]; exact t1, by rw [c.hK]; exact t2, by rw [← h2.length]; exact ht.2, q2 α2 _ σ ex (s2.write ha ex ⟨C, dx, _, hc, upd_same, (h2.put (r.mono x2)).mono ex⟩) ((e1.mono x2).mono ex)⟩
      · exact q2.elim
    · exact q2.elim
end
end Mi

namespace Mi
open PySem L2
/-! ### instances: methods, making -/
def clsD (tb : Nat → Option Nat) (m : Str) (o : D) (st : Sto) : Option Nat := match o with
  | .obj n => (match st[n]? with
    | some (.ins c fs) => if (fs.lookup m).isNone = true then tb c else none
    | _ => none)
  | _ => none
def eMeth (tb : Nat → Option Nat) (m : Str) (Φ : Fam) (Fo : DE) (G : DA) : DE := fun env st => (Fo env st).bind fun o st1 => match clsD tb m o st1 with
  | some i => (G env st1).bind fun ds st2 => Φ i (o :: ds) st2
  | none => .stuck
/-- the defs that answer to a method's name, by classes -/
def MtT (g : Gd) (k : Nat) (m : Str) (np : Nat) (tb : Nat → Option Nat) (Φ : Fam) : Prop :=
  ∀ c C i, tb c = some i → g.ca c = some C → Cls g.K C ∧ ∃ f fd ps, Meth g.K C m f ∧ FG g k f fd ps (spD g (np + 1) (Φ i)) ∧ Binds g.K fd ps []
section
variable {g : Gd} {X : Cx} {W : WX} {pos apos : Pos} {k : Nat}
theorem RFs.none {α : List Addr} {H : Hp} {f : Str} : ∀ {ds : List (Str × D)} {vs : List (Str × V)}, RFs g α H ds vs → ds.lookup f = none → vs.lookup f = none
  | [], vs, h, _ => by cases h; rfl
  | p :: ps, vs, h, e => by
    obtain ⟨v, r, rfl, h1, h2⟩ := h
    rw [List.lookup_cons] at e ⊢
    cases q : f == p.1 with
    | true => rw [q] at e; cases e
    | false => rw [q] at e; exact RFs.none h2 e
theorem sp_of {np : Nat} {φ : List D → Sto → R D} {α : List Addr} {H : Hp} {st : Sto} {ds : List D} {vs : List V} {σ : L2.St} {Q : VK} (s : StR g α st H) (r : RDs g α H ds vs) (hl : ds.length = np)
    (q : Post g W σ α H (φ ds st) fun d _ α' H' => ∀ v, RD g α' H' d v → Q v H') : spD g np φ vs H Q fun cls d H' => W cls d σ H' := by
  refine ⟨α, st, ds, s, r, hl, ?_⟩
  cases hφ : φ ds st with
  | stuck => rw [hφ] at q; exact q.elim
  | exc cc fs st2 => rw [hφ] at q; exact q
  | ok d st2 => rw [hφ] at q; exact q
theorem oe_meth (c : Ck g X W) {tb : Nat → Option Nat} {m : Str} {np : Nat} {Φ : Fam} {o e : Expr} {es : List Expr} {Fo : DE} {G : DA} (T : MtT g k m np tb Φ) (hr : Room k X.A) (ho : OE g X W o Fo) (ha : OA g X W (e :: es) G)
    (hgl : ∀ env st ds st1, G env st = .ok ds st1 → ds.length = np) {pl : Sem Bool}
    (hst : starEach (e :: es) X.env = (false, eval e X.env) :: starEach es X.env := by rfl) (hpl : (backTo pos (starEach es X.env)).any (·.1) = false := by rfl)
    (ht : eval (.Call (.Attribute o m apos) (e :: es) [] pos) X.env = (do
      let ov ← eval o X.env
      standAt apos.atName
      let (f, first) ← holding [ov] (getMethod ov m pl)
      callWith pos f first (backTo pos (starEach (e :: es) X.env)) (backToKw pos (keywordEach [] X.env))) := by rfl) :
    OE g X W (.Call (.Attribute o m apos) (e :: es) [] pos) (eMeth tb m Φ Fo G) := by
  refine ⟨fun pins s σ H Q I ⟨α, env, st, hE, hS, p⟩ => ?_⟩
  have step : tE g W Fo σ H fun x H1 => ∃ a C dx fs i f fd ps, x = .ref a ∧ H1 a = some (.ins C dx fs) ∧ fs.lookup m = none ∧ Cls g.K C ∧ Meth g.K C m f ∧ FG g k f fd ps (spD g (np + 1) (Φ i)) ∧ Binds g.K fd ps [] ∧
      tA g W G σ H1 fun vs H2 => spD g (np + 1) (Φ i) (x :: vs) H2 Q fun cls d H' => W cls d σ H' := by
    refine tE.run hE hS (p.bind.imp fun d st1 α1 H1 x1 s1 q v r => ?_)
    cases d <;> first | exact q.elim | skip
    rename_i n
    cases hc : clsD tb m (.obj n) st1 with
    | none => simp only [hc] at q; exact q.elim
    | some i =>
      simp only [hc] at q
      unfold clsD at hc
      dsimp only at hc
      split at hc
      · rename_i cc fs ee
        split at hc
        · rename_i hn
          obtain ⟨a, C, dx, vs, rfl, hα, hC, h1, h2⟩ := s1.ins r ee
          obtain ⟨t1, f, fd, ps, t2, t3, t4⟩ := T cc C i hc hC
          refine ⟨a, C, dx, vs, i, f, fd, ps, rfl, h1, h2.none (Option.isNone_iff_eq_none.mp hn), t1, t2, t3, t4, ?_⟩
          have e1 := hE.mono x1
          refine tA.run e1 s1 ?_
          have pb := q.bind
          cases hG : G env st1 with
          | stuck => rw [hG] at pb; exact pb.elim
          | exc c1 fs1 st2 => rw [hG] at pb; exact pb
          | ok ds st2 =>
            rw [hG] at pb
            intro α2 H2 x2 s2 us r2
            exact sp_of s2 (RDs.cons (r.mono x2) r2) (by rw [List.length_cons, hgl _ _ _ _ hG]) (pb α2 H2 x2 s2)
        · cases hc
      · cases hc
  refine PySem.W.methodCall_KW (pl := pl) (thn (PE.run ho pins s σ H _ I step) fun u s1 ⟨x, H1, I1, rx, a, C, dx, fs, i, f, fd, ps, ex, ea, l, t1, t2, t3, t4, q⟩ => ?_) ht
  subst ex
  obtain rfl : u = Value.ref a := rx
  rw [← c.hK] at t1 t2
  refine getmeth_ok I1 ea t1 t2 l ?_
  refine PySem.W.callWith_K (first := [.ref a]) (h₀ := X.base) I.ok.mod.kin t2.kp (thn (L2.PA.run ha pos pins s1 σ H1 _ I1 q) fun us s2 ⟨vs, H2, I2, r, q2⟩ => ⟨I2.kIn, ?_⟩) hst hpl
  exact t3.call (us := .ref a :: us) (vs := .ref a :: vs) c hr t4 I2 (.cons rfl r) q2
theorem oe_meth0 (c : Ck g X W) {tb : Nat → Option Nat} {m : Str} {Φ : Fam} {o : Expr} {Fo : DE} (T : MtT g k m 0 tb Φ) (hr : Room k X.A) (ho : OE g X W o Fo) {pl : Sem Bool}
    (ht : eval (.Call (.Attribute o m apos) [] [] pos) X.env = (do
      let ov ← eval o X.env
      standAt apos.atName
      let (f, first) ← holding [ov] (getMethod ov m pl)
      callWith pos f first (backTo pos (starEach [] X.env)) (backToKw pos (keywordEach [] X.env))) := by rfl) :
    OE g X W (.Call (.Attribute o m apos) [] [] pos) (eMeth tb m Φ Fo aNil) := by
  refine ⟨fun pins s σ H Q I ⟨α, env, st, hE, hS, p⟩ => ?_⟩
  have step : tE g W Fo σ H fun x H1 => ∃ a C dx fs i f fd ps, x = .ref a ∧ H1 a = some (.ins C dx fs) ∧ fs.lookup m = none ∧ Cls g.K C ∧ Meth g.K C m f ∧ FG g k f fd ps (spD g (0 + 1) (Φ i)) ∧ Binds g.K fd ps [] ∧
      spD g (0 + 1) (Φ i) [x] H1 Q fun cls d H' => W cls d σ H' := by
    refine tE.run hE hS (p.bind.imp fun d st1 α1 H1 x1 s1 q v r => ?_)
    cases d <;> first | exact q.elim | skip
    rename_i n
    cases hc : clsD tb m (.obj n) st1 with
    | none => simp only [hc] at q; exact q.elim
    | some i =>
      simp only [hc] at q
      unfold clsD at hc
      dsimp only at hc
      split at hc
      · rename_i cc fs ee
        split at hc
        · rename_i hn
          obtain ⟨a, C, dx, vs, rfl, hα, hC, h1, h2⟩ := s1.ins r ee
          obtain ⟨t1, f, fd, ps, t2, t3, t4⟩ := T cc C i hc hC
          exact ⟨a, C, dx, vs, i, f, fd, ps, rfl, h1, h2.none (Option.isNone_iff_eq_none.mp hn), t1, t2, t3, t4, sp_of s1 (RDs.cons r RDs.nil) rfl q⟩
        · cases hc
      · cases hc
  refine PySem.W.methodCall_KW (pl := pl) (thn (PE.run ho pins s σ H _ I step) fun u s1 ⟨x, H1, I1, rx, a, C, dx, fs, i, f, fd, ps, ex, ea, l, t1, t2, t3, t4, q⟩ => ?_) ht
  subst ex
  obtain rfl : u = Value.ref a := rx
  rw [← c.hK] at t1 t2
  refine getmeth_ok I1 ea t1 t2 l ?_
  exact PySem.W.callWith_K0 (first := [.ref a]) I1.kIn t2.kp (t3.call (us := [.ref a]) (vs := [.ref a]) c hr t4 I1 (.cons rfl .nil) q)
end
end Mi

namespace Mi
open PySem L2
/-! ### making an instance by its __init__ -/
def initR (n : Nat) (r : R D) : R D := r.bind fun d st => match d with | .non => .ok (.obj n) st | _ => .stuck
def makeD (c i : Nat) (Φ : Fam) (ds : List D) (st : Sto) : R D := initR st.length (Φ i (.obj st.length :: ds) (st ++ [.ins c []]))
section
variable {g : Gd} {X : Cx} {W : WX} {k : Nat} {C f : Addr} {fd : FuncData} {ps : List Str} {sp : Sp} {pos : Pos}
theorem FG.make (c : Ck g X W) {pins : List (Addr × Obj)} {σ : L2.St} {H : Hp} {s : Shared} {Q : VK} {us : List Value} {vs : List V} (M : L2.Mk g.K C f) (F : FG g k f fd ps sp) (hr : Room (k + 1) X.A) (hb : Binds g.K fd ps []) (I : L2.Inv X pins σ H s) (r : Vals vs us)
    (h : ∀ x dx, H x = none → H dx = none → dx ≠ x → sp (.ref x :: vs) (upd (upd H dx (.own x)) x (.ins C dx [])) (fun v H2 => v = .non ∧ Q (.ref x) H2) fun cls d H' => W cls d σ H') : wpAny (model X.prog X.w) X.A (PySem.call (.ref C) us) (EP X pins σ Q) X.xe s := by
  have hq := h (s.heap.objs.size + 1) s.heap.objs.size (I.hok.fresh (Nat.le_succ _)) (I.hok.fresh (Nat.le_refl _)) (Nat.ne_of_lt (Nat.lt_succ_self _))
  have I2 := L2.Inv.made (C := C) I
  have r2 : Vals (V.ref (s.heap.objs.size + 1) :: vs) (Value.ref (s.heap.objs.size + 1) :: us) := .cons rfl r
  have hl : (Value.ref (s.heap.objs.size + 1) :: us).length = ps.length := r2.length.symm.trans (F.len _ _ _ _ hq)
  have hk := I2.kIn
  rw [c.hK] at hk
  have bb := hb _ (Value.ref (s.heap.objs.size + 1) :: us) hk (by rw [List.append_nil]; exact hl)
  rw [List.append_nil] at bb
  have M' : L2.Mk X.K C f := by rw [c.hK]; exact M
  have e0 := I2.env0.make C us []
  have go := F.run _ X.stack _ _ ⟨Value.ref (s.heap.objs.size + 1) :: us, []⟩ (Value.ref (s.heap.objs.size + 1) :: us) _ _ (fun cls d H' => W cls d σ H') (hr.make C us []) c.gd
    (by rw [← c.hP, ← c.hw, ← c.hK, ← c.hmg, ← c.hb]; exact e0) bb r2 hq
  rw [← c.hP, ← c.hw] at go
  refine wpAny_call (make_map (f := f) I.kIn M'.makes M'.init (beq_iff_eq.mp M'.fn) (codeAny_mono go fun res s' hq' => ?_))
  match res, hq' with
  | .error e, hq' => exact c.tk e s' (XE.of_call I2 (fun _ _ _ z => z) hq')
  | .ok (.ret u), hq' =>
    obtain ⟨v, H', I3, rv, ev, q3⟩ := I2.after hq'
    subst ev
    exact ⟨rv, ⟨V.ref (s.heap.objs.size + 1), H', I3, rfl, q3⟩⟩
  | .ok .next, hq' => exact False.elim hq'
  | .ok .brk, hq' => exact False.elim hq'
  | .ok .cont, hq' => exact False.elim hq'
theorem sp_make {np cc i : Nat} {Φ : Fam} {α : List Addr} {H : Hp} {st : Sto} {ds : List D} {vs : List V} {σ : L2.St} {Q : VK} (hC : g.ca cc = some C) (s : StR g α st H) (r : RDs g α H ds vs) (hl : ds.length = np)
    (q : Post g W σ α H (makeD cc i Φ ds st) fun d _ α' H' => ∀ v, RD g α' H' d v → Q v H') :
    ∀ x dx, H x = none → H dx = none → dx ≠ x → spD g (np + 1) (Φ i) (.ref x :: vs) (upd (upd H dx (.own x)) x (.ins C dx [])) (fun v H2 => v = .non ∧ Q (.ref x) H2) fun cls d H' => W cls d σ H' := by
  intro x dx hx hdx hne
  have s1 := s.temp hdx (.own x)
  have x1 := ext_new s hdx (.own x)
  have hx' : upd H dx (.own x) x = none := by rw [upd_ne (Ne.symm hne)]; exact hx
  have x2 := x1.trans (ext_alloc s1 hx' (.ins C dx []))
  have s2 : StR g (α ++ [x]) (st ++ [.ins cc []]) (upd (upd H dx (.own x)) x (.ins C dx [])) := s1.alloc hx' ⟨C, dx, [], hC, upd_same, rfl⟩
  have rx : RD g (α ++ [x]) (upd (upd H dx (.own x)) x (.ins C dx [])) (.obj st.length) (.ref x) := ⟨x, rfl, alloc_at s x⟩
  refine sp_of s2 (RDs.cons rx (r.mono x2)) (by rw [List.length_cons, hl]) ?_
  have q1 : Post g W σ (α ++ [x]) _ (makeD cc i Φ ds st) _ := q.mono x2
  unfold makeD initR at q1
  cases hφ : Φ i (.obj st.length :: ds) (st ++ [.ins cc []]) with
  | stuck => rw [hφ] at q1; exact q1.elim
  | exc c1 fs st2 => rw [hφ] at q1; exact q1
  | ok d st2 =>
    rw [hφ] at q1
    cases d <;> first | exact q1.elim | skip
    intro α' H' x3 s3 v rv
    refine ⟨rv, q1 α' H' x3 s3 (.ref x) ⟨x, rfl, ?_⟩⟩
    exact x3.at (alloc_at s x)
theorem oe_make (c : Ck g X W) {cc i np : Nat} {Φ : Fam} (hC : g.ca cc = some C) (M : L2.Mk g.K C f) (F : FG g k f fd ps (spD g (np + 1) (Φ i))) (hr : Room (k + 1) X.A) {x : Str} {p : Pos} {e : Expr} {es : List Expr} {G : DA} (hm : g.mg x = some (.ref C)) (hb : Binds g.K fd ps [])
    (ha : OA g X W (e :: es) G) (hgl : ∀ env st ds st1, G env st = .ok ds st1 → ds.length = np) (hg : L2.Gl X x := by rfl) (hdb : (x == ("__debug__" : Str)) = false := by decide) (he : starEach (e :: es) X.env = (false, eval e X.env) :: starEach es X.env := by rfl)
    (hpl : (backTo pos (starEach es X.env)).any (·.1) = false := by rfl) : OE g X W (.Call (.Name x p) (e :: es) [] pos) (eCall (makeD cc i Φ) G) := by
  refine ⟨fun pins s σ H Q I ⟨α, env, st, hE, hS, p⟩ => ?_⟩
  have step : tA g W G σ H fun vs H1 => ∀ x dx, H1 x = none → H1 dx = none → dx ≠ x → spD g (np + 1) (Φ i) (.ref x :: vs) (upd (upd H1 dx (.own x)) x (.ins C dx [])) (fun v H2 => v = .non ∧ Q (.ref x) H2) fun cls d H' => W cls d σ H' := by
    refine tA.run hE hS ?_
    have pb := p.bind
    cases hG : G env st with
    | stuck => rw [hG] at pb; exact pb.elim
    | exc c1 fs st1 => rw [hG] at pb; exact pb
    | ok ds st1 =>
      rw [hG] at pb
      intro α1 H1 x1 s1 vs r
      exact sp_make hC s1 r (hgl _ _ _ _ hG) (pb α1 H1 x1 s1)
  have M' : L2.Mk X.K C f := by rw [c.hK]; exact M
  refine wpAny_Call_Name_kw (ld_glob I hg (by rw [c.hmg]; exact hm) ?_ hdb)
  refine PySem.W.callWith_K (h₀ := X.base) I.ok.mod.kin M'.kp (thn (L2.PA.run ha pos pins s σ H _ I step) fun us s1 ⟨vs, H1, I1, r, q⟩ => ⟨I1.kIn, ?_⟩) he hpl
  exact F.make c M hr hb I1 r q
theorem oe_make0 (c : Ck g X W) {cc i : Nat} {Φ : Fam} (hC : g.ca cc = some C) (M : L2.Mk g.K C f) (F : FG g k f fd ps (spD g (0 + 1) (Φ i))) (hr : Room (k + 1) X.A) {x : Str} {p : Pos} (hm : g.mg x = some (.ref C)) (hb : Binds g.K fd ps [])
    (hg : L2.Gl X x := by rfl) (hdb : (x == ("__debug__" : Str)) = false := by decide) : OE g X W (.Call (.Name x p) [] [] pos) (eCall (makeD cc i Φ) aNil) := by
  refine ⟨fun pins s σ H Q I ⟨α, env, st, hE, hS, p⟩ => ?_⟩
  have M' : L2.Mk X.K C f := by rw [c.hK]; exact M
  refine wpAny_Call_Name_kw (ld_glob I hg (by rw [c.hmg]; exact hm) ?_ hdb)
  exact PySem.W.callWith_K0 I.kIn M'.kp (F.make (us := []) c M hr hb I .nil (sp_make hC hS RDs.nil rfl p))
end
end Mi

namespace Mi
open PySem L2
/-! ### defs as values, calls of a local name that holds one -/
def eCallV (ok : Nat → Bool) (i : Nat) (Φ : Fam) (G : DA) : DE := fun env st => match env[i]? with
  | some (some (.fn j)) => if ok j = true then (G env st).bind fun ds st1 => Φ j ds st1 else .stuck
  | _ => .stuck
/-- the defs that may be held -/
def FnT (g : Gd) (k np : Nat) (ok : Nat → Bool) (Φ : Fam) : Prop :=
  ∀ j f, ok j = true → g.fa j = some f → PySem.W.keepIn g.K (.ref f) = true ∧ ∃ fd ps, FG g k f fd ps (spD g np (Φ j)) ∧ Binds g.K fd ps []
section
variable {g : Gd} {X : Cx} {W : WX} {k : Nat} {pos : Pos}
theorem oe_fn (c : Ck g X W) {x : Str} {f : Addr} {j : Nat} (hm : g.mg x = some (.ref f)) (hf : g.fa j = some f) (hg : L2.Gl X x := by rfl) (hd : (x == ("__debug__" : Str)) = false := by decide) : OE g X W (.Name x pos) (eC (.fn j)) :=
  oe_glob c (v := .ref f) hm rfl (fun _ _ => ⟨f, rfl, hf⟩) hg hd
theorem oe_callV (c : Ck g X W) {ok : Nat → Bool} {i np : Nat} {Φ : Fam} (T : FnT g k np ok Φ) (hr : Room k X.A) {x : Str} {p : Pos} {e : Expr} {es : List Expr} {G : DA} (ha : OA g X W (e :: es) G) (hgl : ∀ env st ds st1, G env st = .ok ds st1 → ds.length = np)
    (hN : X.N[i]? = some x := by rfl) (hv : Vis X.env.scope x := by first | exact Or.inl rfl | exact Or.inr (Or.inl rfl) | exact Or.inr (Or.inr rfl))
    (hdb : (x == ("__debug__" : Str)) = false := by decide) (hcd : (x == ("__classdict__" : Str)) = false := by decide)
    (he : starEach (e :: es) X.env = (false, eval e X.env) :: starEach es X.env := by rfl) (hpl : (backTo pos (starEach es X.env)).any (·.1) = false := by rfl) : OE g X W (.Call (.Name x p) (e :: es) [] pos) (eCallV ok i Φ G) := by
  refine ⟨fun pins s σ H Q I ⟨α, env, st, hE, hS, q⟩ => ?_⟩
  unfold eCallV at q
  split at q
  · rename_i j hj
    split at q
    · rename_i hok
      obtain ⟨v, hs, f, rfl, hf⟩ := hE.val i _ hj
      obtain ⟨hk, fd, ps, F, hb⟩ := T j f hok hf
      have step : tA g W G σ H fun vs H1 => spD g np (Φ j) vs H1 Q fun cls d H' => W cls d σ H' := by
        refine tA.run hE hS ?_
        have pb := q.bind
        cases hG : G env st with
        | stuck => rw [hG] at pb; exact pb.elim
        | exc c1 fs st1 => rw [hG] at pb; exact pb
        | ok ds st1 =>
          rw [hG] at pb
          intro α1 H1 x1 s1 vs r
          exact sp_of s1 r (hgl _ _ _ _ hG) (pb α1 H1 x1 s1)
      refine wpAny_Call_Name_kw (thn ((pe_var (pos := p) hN hv hdb hcd).run pins s σ H (fun v H1 => v = .ref f ∧ H1 = H) I ⟨.ref f, hs, rfl, rfl⟩) fun u s1 ⟨v, H1, I1, r1, q1⟩ => ?_)
      obtain ⟨rfl, rfl⟩ := q1
      cases r1
      refine PySem.W.callWith_K (h₀ := X.base) I.ok.mod.kin (by rw [c.hK]; exact hk) (thn (L2.PA.run ha pos pins s1 σ _ _ I1 step) fun us s2 ⟨vs, H2, I2, r, q⟩ => ⟨I2.kIn, ?_⟩) he hpl
      exact F.call c hr hb I2 r q
    · exact q.elim
  · exact q.elim
end
end Mi

namespace Mi
open PySem PySem.Spec PyProof.Rows L2
/-! ### keywords and defaults: gD puts the positional and the keywords' values in the parameters' order -/
structure KBd (g : Gd) (fd : FuncData) (ps : List Str) (n : Nat) (ks : List Str) (gD : List D → List D → List D) : Prop where
  ex : ∃ (gU : List Value → List Value → List Value) (gV : List V → List V → List V), KBn g.K fd ps n ks gU gV ∧ ∀ (α : List Addr) (H : Hp) (ds es : List D) (vs zs : List V), RDs g α H ds vs → RDs g α H es zs → RDs g α H (gD ds es) (gV vs zs)
def OKw (g : Gd) (X : Cx) (W : WX) (kws : List Keyword) (G : DA) : Prop := PK X kws (tA g W G)
def eCallK (φ : List D → Sto → R D) (gD : List D → List D → List D) (G G' : DA) : DE := fun env st => (G env st).bind fun ds st1 => (G' env st1).bind fun es st2 => φ (gD ds es) st2
section
variable {g : Gd} {X : Cx} {W : WX} {k : Nat} {C f : Addr} {fd : FuncData} {ps ks : List Str} {sp : Sp} {pos kpos : Pos}
theorem ok_nil : OKw g X W [] aNil := ⟨fun pos pins s σ H Q I ⟨α, env, st, hE, hS, p⟩ => PK.run pk_nil pos pins s σ H Q I (p.ok hS [] RDs.nil)⟩
theorem ok_cons {nm : Option Str} {e : Expr} {kws : List Keyword} {F : DE} {G : DA} (h : OE g X W e F) (k : OKw g X W kws G) : OKw g X W (⟨nm, e, kpos⟩ :: kws) (aCons F G) :=
  ⟨fun pos pins s σ H Q I ⟨α, env, st, hE, hS, p⟩ => (pk_cons h k).run pos pins s σ H Q I (by
    refine tE.run hE hS (p.bind.imp fun d1 st1 α1 H1 x1 s1 q v1 r1 => ?_)
    refine tA.run (hE.mono x1) s1 (q.bind.imp fun d2 st2 α2 H2 x2 s2 q2 v2 r2 => ?_)
    exact q2.ok s2 _ (.cons (r1.mono x2) r2))⟩
theorem FG.callA (c : Ck g X W) {pins : List (Addr × Obj)} {σ : L2.St} {H : Hp} {s : Shared} {Q : VK} {us as : List Value} {kw : List (Str × Value)} {vs : List V} (F : FG g k f fd ps sp) (hr : Room k X.A) (hb : g.K.In s.heap → BindsTo s fd ⟨as, kw⟩ (ps.zip us)) (I : L2.Inv X pins σ H s) (r : Vals vs us)
    (h : sp vs H Q fun cls d H' => W cls d σ H') : wpAny (model X.prog X.w) X.A (PySem.call (.ref f) as kw) (EP X pins σ Q) X.xe s := by
  have hk : g.K.In s.heap := by rw [← c.hK]; exact I.kIn
  have bb := hb hk
  have e0 := I.env0
  have go := F.run X.A X.stack s H ⟨as, kw⟩ us vs Q (fun cls d H' => W cls d σ H') hr c.gd (by rw [← c.hP, ← c.hw, ← c.hK, ← c.hmg, ← c.hb]; exact e0) bb r h
  rw [← c.hP, ← c.hw] at go
  refine wpAny_call (codeAny_mono go fun res s' hq => ?_)
  match res, hq with
  | .error e, hq => exact c.tk e s' (XE.of_call I (fun _ _ _ z => z) hq)
  | .ok (.ret u), hq => exact I.after hq
  | .ok .next, hq => exact False.elim hq
  | .ok .brk, hq => exact False.elim hq
  | .ok .cont, hq => exact False.elim hq
theorem FG.makeA (c : Ck g X W) {pins : List (Addr × Obj)} {σ : L2.St} {H : Hp} {s : Shared} {Q : VK} {ws : List Value} {us : List Value} {vs zs : List V} {n : Nat} {gU : List Value → List Value → List Value} {gV : List V → List V → List V} (M : L2.Mk g.K C f) (F : FG g k f fd ps sp) (hr : Room (k + 1) X.A) (hb : KBn g.K fd ps (n + 1) ks gU gV)
    (I : L2.Inv X pins σ H s) (r : Vals vs us) (rz : Vals zs ws) (l1 : vs.length = n) (l2 : zs.length = ks.length)
    (h : ∀ x dx, H x = none → H dx = none → dx ≠ x → sp (gV (.ref x :: vs) zs) (upd (upd H dx (.own x)) x (.ins C dx [])) (fun v H2 => v = .non ∧ Q (.ref x) H2) fun cls d H' => W cls d σ H') : wpAny (model X.prog X.w) X.A (PySem.call (.ref C) us (ks.zip ws)) (EP X pins σ Q) X.xe s := by
  have hq := h (s.heap.objs.size + 1) s.heap.objs.size (I.hok.fresh (Nat.le_succ _)) (I.hok.fresh (Nat.le_refl _)) (Nat.ne_of_lt (Nat.lt_succ_self _))
  have I2 := L2.Inv.made (C := C) I
  have r1 : Vals (V.ref (s.heap.objs.size + 1) :: vs) (Value.ref (s.heap.objs.size + 1) :: us) := .cons rfl r
  have r2 := hb.rel r1 rz
  have n1 : (Value.ref (s.heap.objs.size + 1) :: us).length = n + 1 := by rw [List.length_cons, ← r.length, l1]
  have hk := I2.kIn
  rw [c.hK] at hk
  have bb := hb.to _ (Value.ref (s.heap.objs.size + 1) :: us) ws hk n1 (rz.length.symm.trans l2)
  have M' : L2.Mk X.K C f := by rw [c.hK]; exact M
  have e0 := I2.env0.make C us (ks.zip ws)
  have go := F.run _ X.stack _ _ ⟨Value.ref (s.heap.objs.size + 1) :: us, ks.zip ws⟩ (gU (Value.ref (s.heap.objs.size + 1) :: us) ws) _ _ (fun cls d H' => W cls d σ H') (hr.make C us (ks.zip ws)) c.gd
    (by rw [← c.hP, ← c.hw, ← c.hK, ← c.hmg, ← c.hb]; exact e0) bb r2 hq
  rw [← c.hP, ← c.hw] at go
  refine wpAny_call (make_map (f := f) I.kIn M'.makes M'.init (beq_iff_eq.mp M'.fn) (codeAny_mono go fun res s' hq' => ?_))
  match res, hq' with
  | .error e, hq' => exact c.tk e s' (XE.of_call I2 (fun _ _ _ z => z) hq')
  | .ok (.ret u), hq' =>
    obtain ⟨v, H', I3, rv, ev, q3⟩ := I2.after hq'
    subst ev
    exact ⟨rv, ⟨V.ref (s.heap.objs.size + 1), H', I3, rfl, q3⟩⟩
  | .ok .next, hq' => exact False.elim hq'
  | .ok .brk, hq' => exact False.elim hq'
  | .ok .cont, hq' => exact False.elim hq'
/-- a call by keywords -/
theorem oe_callK (c : Ck g X W) {np n : Nat} {φ : List D → Sto → R D} {gD : List D → List D → List D} (F : FG g k f fd ps (spD g np φ)) (hr : Room k X.A) {x : Str} {p : Pos} {e : Expr} {es : List Expr} {kws : List Keyword} {G G' : DA} (hm : g.mg x = some (.ref f)) (hk : PySem.W.keepIn g.K (.ref f) = true) (hb : KBd g fd ps n ks gD)
    (ha : OA g X W (e :: es) G) (hkw : OKw g X W kws G') (hgl : ∀ env st ds st1, G env st = .ok ds st1 → ds.length = n) (hgl' : ∀ env st ds st1, G' env st = .ok ds st1 → ds.length = ks.length) (hgd : ∀ ds es : List D, ds.length = n → es.length = ks.length → (gD ds es).length = np)
    (hall : (backToKw pos (keywordEach kws X.env)).all (·.1.isSome) = true := by rfl) (hks : (backToKw pos (keywordEach kws X.env)).filterMap (·.1) = ks := by rfl)
    (hg : L2.Gl X x := by rfl) (hdb : (x == ("__debug__" : Str)) = false := by decide) (he : starEach (e :: es) X.env = (false, eval e X.env) :: starEach es X.env := by rfl)
    (hpl : ((backTo pos (starEach (e :: es) X.env)).any (·.1) || (backToKw pos (keywordEach kws X.env)).any (·.1.isNone)) = false := by rfl) : OE g X W (.Call (.Name x p) (e :: es) kws pos) (eCallK φ gD G G') := by
  obtain ⟨gU, gV, hb, hrd⟩ := hb.ex
  refine ⟨fun pins s σ H Q I ⟨α, env, st, hE, hS, p⟩ => ?_⟩
  have step : tA g W G σ H fun vs H1 => vs.length = n ∧ tA g W G' σ H1 fun zs H2 => zs.length = ks.length ∧ spD g np φ (gV vs zs) H2 Q fun cls d H' => W cls d σ H' := by
    refine tA.run hE hS ?_
    have pb := p.bind
    cases hG : G env st with
    | stuck => rw [hG] at pb; exact pb.elim
    | exc c1 fs st1 => rw [hG] at pb; exact pb
    | ok ds st1 =>
      rw [hG] at pb
      intro α1 H1 x1 s1 vs r
      refine ⟨by rw [← r.length, hgl _ _ _ _ hG], ?_⟩
      refine tA.run (hE.mono x1) s1 ?_
      have pb2 := Post.bind (pb α1 H1 x1 s1)
      cases hG' : G' env st1 with
      | stuck => rw [hG'] at pb2; exact pb2.elim
      | exc c1 fs st2 => rw [hG'] at pb2; exact pb2
      | ok es2 st2 =>
        rw [hG'] at pb2
        intro α2 H2 x2 s2 zs rz
        exact ⟨by rw [← rz.length, hgl' _ _ _ _ hG'], sp_of s2 (hrd α2 H2 ds es2 vs zs (r.mono x2) rz) (hgd _ _ (hgl _ _ _ _ hG) (hgl' _ _ _ _ hG')) (pb2 α2 H2 x2 s2)⟩
  refine wpAny_Call_Name_kw (ld_glob I hg (by rw [c.hmg]; exact hm) ?_ hdb)
  refine PySem.W.callWith_KW (h₀ := X.base) I.ok.mod.kin (by rw [c.hK]; exact hk) hall (thn (L2.PA.run ha pos pins s σ H _ I step) fun us s1 ⟨vs, H1, I1, r, l1, q⟩ => ?_) hpl he
  refine thn (L2.PK.run hkw pos pins s1 σ H1 _ I1 q) fun ws s2 ⟨zs, H2, I2, rz, l2, q2⟩ => ⟨I2.kIn, ?_⟩
  rw [hks]
  exact F.callA c hr (fun hk => hb.to s2 us ws hk (by rw [← r.length, l1]) (rz.length.symm.trans l2)) I2 (hb.rel r rz) q2
/-- making by keywords -/
theorem sp_makeK {np n cc i : Nat} {Φ : Fam} {gD : List D → List D → List D} {gV : List V → List V → List V} {α : List Addr} {H : Hp} {st : Sto} {ds es : List D} {vs zs : List V} {σ : L2.St} {Q : VK} (hC : g.ca cc = some C)
    (hrd : ∀ (α : List Addr) (H : Hp) (ds es : List D) (vs zs : List V), RDs g α H ds vs → RDs g α H es zs → RDs g α H (gD ds es) (gV vs zs)) (hgd : ∀ d : D, (gD (d :: ds) es).length = np) (s : StR g α st H) (r : RDs g α H ds vs) (rz : RDs g α H es zs)
    (q : Post g W σ α H (initR st.length (Φ i (gD (.obj st.length :: ds) es) (st ++ [.ins cc []]))) fun d _ α' H' => ∀ v, RD g α' H' d v → Q v H') :
    ∀ x dx, H x = none → H dx = none → dx ≠ x → spD g np (Φ i) (gV (.ref x :: vs) zs) (upd (upd H dx (.own x)) x (.ins C dx [])) (fun v H2 => v = .non ∧ Q (.ref x) H2) fun cls d H' => W cls d σ H' := by
  intro x dx hx hdx hne
  have s1 := s.temp hdx (.own x)
  have x1 := ext_new s hdx (.own x)
  have hx' : upd H dx (.own x) x = none := by rw [upd_ne (Ne.symm hne)]; exact hx
  have x2 := x1.trans (ext_alloc s1 hx' (.ins C dx []))
  have s2 : StR g (α ++ [x]) (st ++ [.ins cc []]) (upd (upd H dx (.own x)) x (.ins C dx [])) := s1.alloc hx' ⟨C, dx, [], hC, upd_same, rfl⟩
  have rx : RD g (α ++ [x]) (upd (upd H dx (.own x)) x (.ins C dx [])) (.obj st.length) (.ref x) := ⟨x, rfl, alloc_at s x⟩
  refine sp_of s2 (hrd _ _ _ _ _ _ (RDs.cons rx (r.mono x2)) (rz.mono x2)) (hgd _) ?_
  have q1 : Post g W σ (α ++ [x]) _ (initR st.length (Φ i (gD (.obj st.length :: ds) es) (st ++ [.ins cc []]))) _ := q.mono x2
  unfold initR at q1
  cases hφ : Φ i (gD (.obj st.length :: ds) es) (st ++ [.ins cc []]) with
  | stuck => rw [hφ] at q1; exact q1.elim
  | exc c1 fs st2 => rw [hφ] at q1; exact q1
  | ok d st2 =>
    rw [hφ] at q1
    cases d <;> first | exact q1.elim | skip
    intro α' H' x3 s3 v rv
    exact ⟨rv, q1 α' H' x3 s3 (.ref x) ⟨x, rfl, x3.at (alloc_at s x)⟩⟩
def makeKD (c i : Nat) (Φ : Fam) (gD : List D → List D → List D) (ds es : List D) (st : Sto) : R D := initR st.length (Φ i (gD (.obj st.length :: ds) es) (st ++ [.ins c []]))
def eMakeK (c i : Nat) (Φ : Fam) (gD : List D → List D → List D) (G G' : DA) : DE := fun env st => (G env st).bind fun ds st1 => (G' env st1).bind fun es st2 => makeKD c i Φ gD ds es st2
theorem oe_makeK (c : Ck g X W) {cc i np n : Nat} {Φ : Fam} {gD : List D → List D → List D} (hC : g.ca cc = some C) (M : L2.Mk g.K C f) (F : FG g k f fd ps (spD g np (Φ i))) (hr : Room (k + 1) X.A) {x : Str} {p : Pos} {e : Expr} {es : List Expr} {kws : List Keyword} {G G' : DA} (hm : g.mg x = some (.ref C)) (hb : KBd g fd ps (n + 1) ks gD)
    (ha : OA g X W (e :: es) G) (hkw : OKw g X W kws G') (hgl : ∀ env st ds st1, G env st = .ok ds st1 → ds.length = n) (hgl' : ∀ env st ds st1, G' env st = .ok ds st1 → ds.length = ks.length) (hgd : ∀ ds es : List D, ds.length = n + 1 → es.length = ks.length → (gD ds es).length = np)
    (hall : (backToKw pos (keywordEach kws X.env)).all (·.1.isSome) = true := by rfl) (hks : (backToKw pos (keywordEach kws X.env)).filterMap (·.1) = ks := by rfl)
    (hg : L2.Gl X x := by rfl) (hdb : (x == ("__debug__" : Str)) = false := by decide) (he : starEach (e :: es) X.env = (false, eval e X.env) :: starEach es X.env := by rfl)
    (hpl : ((backTo pos (starEach (e :: es) X.env)).any (·.1) || (backToKw pos (keywordEach kws X.env)).any (·.1.isNone)) = false := by rfl) : OE g X W (.Call (.Name x p) (e :: es) kws pos) (eMakeK cc i Φ gD G G') := by
  obtain ⟨gU, gV, hb, hrd⟩ := hb.ex
  refine ⟨fun pins s σ H Q I ⟨α, env, st, hE, hS, p⟩ => ?_⟩
  have step : tA g W G σ H fun vs H1 => vs.length = n ∧ tA g W G' σ H1 fun zs H2 => zs.length = ks.length ∧ ∀ x dx, H2 x = none → H2 dx = none → dx ≠ x → spD g np (Φ i) (gV (.ref x :: vs) zs) (upd (upd H2 dx (.own x)) x (.ins C dx [])) (fun v H3 => v = .non ∧ Q (.ref x) H3) fun cls d H' => W cls d σ H' := by
    refine tA.run hE hS ?_
    have pb := p.bind
    cases hG : G env st with
    | stuck => rw [hG] at pb; exact pb.elim
    | exc c1 fs st1 => rw [hG] at pb; exact pb
    | ok ds st1 =>
      rw [hG] at pb
      intro α1 H1 x1 s1 vs r
      refine ⟨by rw [← r.length, hgl _ _ _ _ hG], ?_⟩
      refine tA.run (hE.mono x1) s1 ?_
      have pb2 := Post.bind (pb α1 H1 x1 s1)
      cases hG' : G' env st1 with
      | stuck => rw [hG'] at pb2; exact pb2.elim
      | exc c1 fs st2 => rw [hG'] at pb2; exact pb2
      | ok es2 st2 =>
        rw [hG'] at pb2
        intro α2 H2 x2 s2 zs rz
        exact ⟨by rw [← rz.length, hgl' _ _ _ _ hG'], sp_makeK (n := n) hC hrd (fun d => hgd _ _ (by rw [List.length_cons, hgl _ _ _ _ hG]) (hgl' _ _ _ _ hG')) s2 (r.mono x2) rz (pb2 α2 H2 x2 s2)⟩
  have M' : L2.Mk X.K C f := by rw [c.hK]; exact M
  refine wpAny_Call_Name_kw (ld_glob I hg (by rw [c.hmg]; exact hm) ?_ hdb)
  refine PySem.W.callWith_KW (h₀ := X.base) I.ok.mod.kin M'.kp hall (thn (L2.PA.run ha pos pins s σ H _ I step) fun us s1 ⟨vs, H1, I1, r, l1, q⟩ => ?_) hpl he
  refine thn (L2.PK.run hkw pos pins s1 σ H1 _ I1 q) fun ws s2 ⟨zs, H2, I2, rz, l2, q2⟩ => ⟨I2.kIn, ?_⟩
  rw [hks]
  exact F.makeA c M hr hb I2 r rz l1 l2 q2
theorem oe_makeK0 (c : Ck g X W) {cc i np : Nat} {Φ : Fam} {gD : List D → List D → List D} (hC : g.ca cc = some C) (M : L2.Mk g.K C f) (F : FG g k f fd ps (spD g np (Φ i))) (hr : Room (k + 1) X.A) {x : Str} {p : Pos} {kws : List Keyword} {G' : DA} (hm : g.mg x = some (.ref C)) (hb : KBd g fd ps 1 ks gD)
    (hkw : OKw g X W kws G') (hgl' : ∀ env st ds st1, G' env st = .ok ds st1 → ds.length = ks.length) (hgd : ∀ ds es : List D, ds.length = 1 → es.length = ks.length → (gD ds es).length = np)
    (hall : (backToKw pos (keywordEach kws X.env)).all (·.1.isSome) = true := by rfl) (hks : (backToKw pos (keywordEach kws X.env)).filterMap (·.1) = ks := by rfl)
    (hg : L2.Gl X x := by rfl) (hdb : (x == ("__debug__" : Str)) = false := by decide)
    (hpl : ((backTo pos (starEach [] X.env)).any (·.1) || (backToKw pos (keywordEach kws X.env)).any (·.1.isNone)) = false := by rfl) : OE g X W (.Call (.Name x p) [] kws pos) (eMakeK cc i Φ gD aNil G') := by
  obtain ⟨gU, gV, hb, hrd⟩ := hb.ex
  refine ⟨fun pins s σ H Q I ⟨α, env, st, hE, hS, p⟩ => ?_⟩
  have step : tA g W G' σ H fun zs H2 => zs.length = ks.length ∧ ∀ x dx, H2 x = none → H2 dx = none → dx ≠ x → spD g np (Φ i) (gV (.ref x :: []) zs) (upd (upd H2 dx (.own x)) x (.ins C dx [])) (fun v H3 => v = .non ∧ Q (.ref x) H3) fun cls d H' => W cls d σ H' := by
    refine tA.run hE hS ?_
    have pb2 := Post.bind (r := G' env st) (k := fun es st2 => makeKD cc i Φ gD [] es st2) p
    cases hG' : G' env st with
    | stuck => rw [hG'] at pb2; exact pb2.elim
    | exc c1 fs st2 => rw [hG'] at pb2; exact pb2
    | ok es2 st2 =>
      rw [hG'] at pb2
      intro α2 H2 x2 s2 zs rz
      exact ⟨by rw [← rz.length, hgl' _ _ _ _ hG'], sp_makeK (n := 0) hC hrd (fun d => hgd _ _ rfl (hgl' _ _ _ _ hG')) s2 RDs.nil rz (pb2 α2 H2 x2 s2)⟩
  have M' : L2.Mk X.K C f := by rw [c.hK]; exact M
  refine wpAny_Call_Name_kw (ld_glob I hg (by rw [c.hmg]; exact hm) ?_ hdb)
  refine PySem.W.callWith_KW0 (h₀ := X.base) I.ok.mod.kin M'.kp hall ?_ hpl
  refine thn (L2.PK.run hkw pos pins s σ H _ I step) fun ws s2 ⟨zs, H2, I2, rz, l2, q2⟩ => ⟨I2.kIn, ?_⟩
  rw [hks]
  exact F.makeA (us := []) (vs := []) (n := 0) c M hr hb I2 .nil rz rfl l2 q2
/-- defaults alone, no keywords -/
theorem oe_makeD (c : Ck g X W) {cc i np n : Nat} {Φ : Fam} {gD : List D → List D → List D} (hC : g.ca cc = some C) (M : L2.Mk g.K C f) (F : FG g k f fd ps (spD g np (Φ i))) (hr : Room (k + 1) X.A) {x : Str} {p : Pos} {e : Expr} {es : List Expr} {G : DA} (hm : g.mg x = some (.ref C)) (hb : KBd g fd ps (n + 1) [] gD)
    (ha : OA g X W (e :: es) G) (hgl : ∀ env st ds st1, G env st = .ok ds st1 → ds.length = n) (hgd : ∀ ds es : List D, ds.length = n + 1 → es.length = 0 → (gD ds es).length = np)
    (hg : L2.Gl X x := by rfl) (hdb : (x == ("__debug__" : Str)) = false := by decide) (he : starEach (e :: es) X.env = (false, eval e X.env) :: starEach es X.env := by rfl)
    (hpl : (backTo pos (starEach es X.env)).any (·.1) = false := by rfl) : OE g X W (.Call (.Name x p) (e :: es) [] pos) (eMakeK cc i Φ gD G aNil) := by
  obtain ⟨gU, gV, hb, hrd⟩ := hb.ex
  refine ⟨fun pins s σ H Q I ⟨α, env, st, hE, hS, p⟩ => ?_⟩
  have step : tA g W G σ H fun vs H1 => vs.length = n ∧ ∀ x dx, H1 x = none → H1 dx = none → dx ≠ x → spD g np (Φ i) (gV (.ref x :: vs) []) (upd (upd H1 dx (.own x)) x (.ins C dx [])) (fun v H3 => v = .non ∧ Q (.ref x) H3) fun cls d H' => W cls d σ H' := by
    refine tA.run hE hS ?_
    have pb := p.bind
    cases hG : G env st with
    | stuck => rw [hG] at pb; exact pb.elim
    | exc c1 fs st1 => rw [hG] at pb; exact pb
    | ok ds st1 =>
      rw [hG] at pb
      intro α1 H1 x1 s1 vs r
      exact ⟨by rw [← r.length, hgl _ _ _ _ hG], sp_makeK (n := n) hC hrd (fun d => hgd _ _ (by rw [List.length_cons, hgl _ _ _ _ hG]) rfl) s1 r RDs.nil (pb α1 H1 x1 s1)⟩
  have M' : L2.Mk X.K C f := by rw [c.hK]; exact M
  refine wpAny_Call_Name_kw (ld_glob I hg (by rw [c.hmg]; exact hm) ?_ hdb)
  refine PySem.W.callWith_K (h₀ := X.base) I.ok.mod.kin M'.kp (thn (L2.PA.run ha pos pins s σ H _ I step) fun us s1 ⟨vs, H1, I1, r, l1, q⟩ => ⟨I1.kIn, ?_⟩) he hpl
  exact F.makeA (ws := []) (zs := []) (ks := []) c M hr hb I1 r .nil l1 rfl q
theorem oe_makeD0 (c : Ck g X W) {cc i np : Nat} {Φ : Fam} {gD : List D → List D → List D} (hC : g.ca cc = some C) (M : L2.Mk g.K C f) (F : FG g k f fd ps (spD g np (Φ i))) (hr : Room (k + 1) X.A) {x : Str} {p : Pos} (hm : g.mg x = some (.ref C)) (hb : KBd g fd ps 1 [] gD)
    (hgd : ∀ ds es : List D, ds.length = 1 → es.length = 0 → (gD ds es).length = np) (hg : L2.Gl X x := by rfl) (hdb : (x == ("__debug__" : Str)) = false := by decide) : OE g X W (.Call (.Name x p) [] [] pos) (eMakeK cc i Φ gD aNil aNil) := by
  obtain ⟨gU, gV, hb, hrd⟩ := hb.ex
  refine ⟨fun pins s σ H Q I ⟨α, env, st, hE, hS, p⟩ => ?_⟩
  have M' : L2.Mk X.K C f := by rw [c.hK]; exact M
  refine wpAny_Call_Name_kw (ld_glob I hg (by rw [c.hmg]; exact hm) ?_ hdb)
  exact PySem.W.callWith_K0 I.kIn M'.kp (F.makeA (us := []) (vs := []) (ws := []) (zs := []) (ks := []) (n := 0) c M hr hb I .nil .nil rfl rfl (sp_makeK (n := 0) hC hrd (fun d => hgd _ _ rfl rfl) hS RDs.nil RDs.nil p))
theorem oe_callD (c : Ck g X W) {np n : Nat} {φ : List D → Sto → R D} {gD : List D → List D → List D} (F : FG g k f fd ps (spD g np φ)) (hr : Room k X.A) {x : Str} {p : Pos} {e : Expr} {es : List Expr} {G : DA} (hm : g.mg x = some (.ref f)) (hk : PySem.W.keepIn g.K (.ref f) = true) (hb : KBd g fd ps n [] gD)
    (ha : OA g X W (e :: es) G) (hgl : ∀ env st ds st1, G env st = .ok ds st1 → ds.length = n) (hgd : ∀ ds es : List D, ds.length = n → es.length = 0 → (gD ds es).length = np)
    (hg : L2.Gl X x := by rfl) (hdb : (x == ("__debug__" : Str)) = false := by decide) (he : starEach (e :: es) X.env = (false, eval e X.env) :: starEach es X.env := by rfl)
    (hpl : (backTo pos (starEach es X.env)).any (·.1) = false := by rfl) : OE g X W (.Call (.Name x p) (e :: es) [] pos) (eCallK φ gD G aNil) := by
  obtain ⟨gU, gV, hb, hrd⟩ := hb.ex
  refine ⟨fun pins s σ H Q I ⟨α, env, st, hE, hS, p⟩ => ?_⟩
  have step : tA g W G σ H fun vs H1 => vs.length = n ∧ spD g np φ (gV vs []) H1 Q fun cls d H' => W cls d σ H' := by
    refine tA.run hE hS ?_
    have pb := p.bind
    cases hG : G env st with
    | stuck => rw [hG] at pb; exact pb.elim
    | exc c1 fs st1 => rw [hG] at pb; exact pb
    | ok ds st1 =>
      rw [hG] at pb
      intro α1 H1 x1 s1 vs r
      exact ⟨by rw [← r.length, hgl _ _ _ _ hG], sp_of s1 (hrd α1 H1 ds [] vs [] r RDs.nil) (hgd _ _ (hgl _ _ _ _ hG) rfl) (pb α1 H1 x1 s1)⟩
  refine wpAny_Call_Name_kw (ld_glob I hg (by rw [c.hmg]; exact hm) ?_ hdb)
  refine PySem.W.callWith_K (h₀ := X.base) I.ok.mod.kin (by rw [c.hK]; exact hk) (thn (L2.PA.run ha pos pins s σ H _ I step) fun us s1 ⟨vs, H1, I1, r, l1, q⟩ => ⟨I1.kIn, ?_⟩) he hpl
  exact F.callA c hr (fun hk => hb.to s1 us [] hk (by rw [← r.length, l1]) rfl) I1 (hb.rel r .nil) q
/-- a def with defaults, by its body -/
theorem fg_ofD {x qual : Str} {params : Arguments} {body' : List Stmt} {scope : Scope} {dvs : List V} {kws : List (Str × V)} {f : Addr} {fd : FuncData} {N ps : List Str} {k np : Nat} {B : DS} (F : FunD g.K x qual params body' scope dvs kws f fd) (S : FnScope N ps scope) (hnp : ps.length = np) (hN : np ≤ N.length)
    (body : ∀ (cdv : Value) (A : Around) (fr : List PySem.Env) (s : Shared) (H : Hp) (E : XK), Ck g (cxD g N qual scope f cdv A fr s H E) (wE E) → Room k (cxD g N qual scope f cdv A fr s H E).A →
      OSs g (cxD g N qual scope f cdv A fr s H E) (wE E) body' B) : FG g (k + 1) f fd ps (spD g np (runB N.length B)) := by
  obtain ⟨oc, od, dV, kV, doc, pm, an, cdv, ct, osl, rfl, lk, hcd, _, _⟩ := F.ex
  have ln : ∀ vs H Q E, spD g np (runB N.length B) vs H Q E → vs.length = ps.length := fun vs H Q E ⟨α, st, ds, _, r, e, _⟩ => by rw [← r.length, e, hnp]
  refine ⟨ln, fun A fr s H as us vs Q E hr hgd e0 hb r hsp => ?_⟩
  have hl := ln _ _ _ _ hsp
  have kin : g.K.In s.heap := e0.mod.kin.keeps fun b o e => (e0.bs b o e).1
  have lim : s.heap.NoLimit := e0.mod.nolimit.keeps fun b o e => (e0.bs b o e).1
  have kinds : ∀ y ∈ ps.zip us, scope.names.lookup y.1 = some .local ∨ (scope.names.lookup y.1 = some .cell ∧ ((cellsFrom (s.heap.objs.size + 1) scope.names []).lookup y.1).isSome = true) := by
    rintro ⟨n, v⟩ hy
    rcases S.par n (List.of_mem_zip hy).1 with q | q
    · exact .inl q
    · exact .inr ⟨q, PySem.W.cellsFrom_some _ _ _ (.inl q)⟩
  refine codeAny_call_function hr.depth (kin _ _ lk) rfl S.co S.gen rfl (PySem.W.codeRec_of kin hcd) (hb _ _ _ _ ?_)
  refine wpAny_newFunctionEnv_cells S.kind kinds fun env he s1 xx => ?_
  subst he
  refine ⟨lim.keeps xx.toInCall.keep, codeAny_func ?_⟩
  have rm := hr.deeper (envOfC qual scope s.heap.objs.size f cdv)
  have ck : Ck g (cxD g N qual scope f cdv A fr s H E) (wE E) :=
    ⟨rfl, rfl, rfl, rfl, rfl, rfl, S.nd, takes_of rfl rfl rfl rfl, hgd, by have := rm.un; show (A.deeper (envOfC qual scope s.heap.objs.size f cdv)).units + 200 < cLine; omega, passes_of rfl⟩
  have ob := body cdv A fr s H E ck rm
  have I : L2.Inv (cxD g N qual scope f cdv A fr s H E) [] (L2.start N vs) H s1 := inv_start S hr.hd e0 hl r xx
  have fin : ∀ {σ' : L2.St} {H' : Hp} {s' : Shared} {v : V} {u : Value}, L2.Inv (cxD g N qual scope f cdv A fr s H E) [] σ' H' s' → RelV v u → Q v H' → CE fr g.P g.w H s Q u s' :=
    fun {σ' H' s' v u} J rv q => ⟨v, H', J.os, J.bare, J.base, J.hok, rv, q⟩
  obtain ⟨α, sto, ds, hS, rd, el, post⟩ := hsp
  have goal : tS g (wE E) B { nx := fun _ H' => Q .non H', rt := Q } (L2.start N vs) H := by
    refine ⟨α, _, sto, start_r rd (by rw [el]; exact hN), hS, ?_⟩
    unfold runB at post
    cases hB : B (ds.map some ++ List.replicate (N.length - ds.length) none) sto with
    | nx env1 st1 => rw [hB] at post; exact fun α' H' σ' e s r => post α' H' e s .non rfl
    | rt d st1 => rw [hB] at post; exact fun α' H' v e s r => post α' H' e s v r
    | bk env1 st1 => rw [hB] at post; exact post.elim
    | ct env1 st1 => rw [hB] at post; exact post.elim
    | exc c fs env1 st1 => rw [hB] at post; exact fun α' H' cls dx σ' e s _ x => post α' H' cls dx e s x
    | stuck => rw [hB] at post; exact post.elim
  refine wpAny_mono (ob.run [] s1 (L2.start N vs) H _ I goal) (fun fl s' hs => ?_) fun e s' hs => hs
  match fl, hs with
  | .ret u, hs => obtain ⟨v, σ', H', J, rv, q⟩ := hs; exact fin J rv q
  | .next, hs => obtain ⟨σ', H', J, q⟩ := hs; exact fin (v := V.non) (u := Value.none) J rfl q
  | .brk, hs => obtain ⟨_, _, _, q⟩ := hs; exact q.elim
  | .cont, hs => obtain ⟨_, _, _, q⟩ := hs; exact q.elim
end
end Mi

namespace Mi
open PySem PySem.Spec PyProof.Rows L2
/-! ### raise -/
def sRaise0 (c : Nat) : DS := fun env st => .exc c [] env st
section
variable {g : Gd} {X : Cx} {W : WX} {pos : Pos} {C : Addr} {B newId initId : String} {bmB : List Value}
theorem os_raise0 (c : Ck g X W) {cc : Nat} (hC : g.ca cc = some C) {x m : Str} {j : Nat} {p p2 p3 : Pos} (F : ExcBaseFacts B newId initId bmB) (q : PySem.W.excIn g.K C bmB newId = true) (gC : g.mg x = some (.ref C)) (kC : PySem.W.keepIn g.K (.ref C) = true) (r : Raises X (.ref C)) (hg : L2.Gl X x := by rfl)
    (hdb : (x == ("__debug__" : Str)) = false := by decide) : OS g X W (.Raise (some (.Call (.Name x p) [.Constant (.str m) j p2] [] p3)) none pos) (sRaise0 cc) :=
  ofS (ps_raise c.calm c.tk (pmk_own F (by rw [c.hK]; exact q) (by rw [c.hmg]; exact gC) (by rw [c.hK]; exact kC) r hg hdb)) fun E σ H ⟨α, env, st, hE, hS, p⟩ => by
    exact p α H (.ref C) none σ (Ext.refl α H) hS hE ⟨C, hC, rfl, .inl ⟨rfl, rfl⟩⟩
end
end Mi

namespace Mi
open PySem PySem.Spec PyProof.Rows L2
/-! ### the parameters' order, by places -/
def pick {β : Type} (idx : List Nat) (l : List β) : List β := idx.filterMap fun i => l[i]?
theorem vals_at : ∀ {vs : List V} {us : List Value}, Vals vs us → ∀ i : Nat, (vs[i]? = none ∧ us[i]? = none) ∨ ∃ v u, vs[i]? = some v ∧ us[i]? = some u ∧ RelV v u
  | _, _, .nil, i => .inl ⟨rfl, rfl⟩
  | _, _, .cons a b, 0 => .inr ⟨_, _, rfl, rfl, a⟩
  | _, _, .cons a b, i + 1 => vals_at b i
theorem pick_vals {vs : List V} {us : List Value} (h : Vals vs us) : ∀ idx : List Nat, Vals (pick idx vs) (pick idx us)
  | [] => .nil
  | i :: r => by
    unfold pick
    rcases vals_at h i with ⟨a, b⟩ | ⟨v, u, a, b, c⟩
    · rw [List.filterMap_cons_none a, List.filterMap_cons_none b]; exact pick_vals h r
    · rw [List.filterMap_cons_some a, List.filterMap_cons_some b]; exact .cons c (pick_vals h r)
theorem rds_at {g : Gd} {α : List Addr} {H : Hp} : ∀ {ds : List D} {vs : List V}, RDs g α H ds vs → ∀ i : Nat, (ds[i]? = none ∧ vs[i]? = none) ∨ ∃ d v, ds[i]? = some d ∧ vs[i]? = some v ∧ RD g α H d v
  | [], vs, h, i => by cases h; exact .inl ⟨rfl, rfl⟩
  | d :: ds, vs, h, 0 => by obtain ⟨v, r, rfl, h1, h2⟩ := h; exact .inr ⟨d, v, rfl, rfl, h1⟩
  | d :: ds, vs, h, i + 1 => by obtain ⟨v, r, rfl, h1, h2⟩ := h; exact rds_at h2 i
theorem pick_rds {g : Gd} {α : List Addr} {H : Hp} {ds : List D} {vs : List V} (h : RDs g α H ds vs) : ∀ idx : List Nat, RDs g α H (pick idx ds) (pick idx vs)
  | [] => rfl
  | i :: r => by
    unfold pick
    rcases rds_at h i with ⟨a, b⟩ | ⟨v, u, a, b, c⟩
    · rw [List.filterMap_cons_none a, List.filterMap_cons_none b]; exact pick_rds h r
    · rw [List.filterMap_cons_some a, List.filterMap_cons_some b]; exact RDs.cons c (pick_rds h r)
theorem RDs.append' {g : Gd} {α : List Addr} {H : Hp} : ∀ {ds es : List D} {vs zs : List V}, RDs g α H ds vs → RDs g α H es zs → RDs g α H (ds ++ es) (vs ++ zs)
  | [], es, vs, zs, h, k => by cases h; exact k
  | d :: ds, es, vs, zs, h, k => by obtain ⟨v, r, rfl, h1, h2⟩ := h; exact RDs.cons h1 (RDs.append' h2 k)
theorem kbd_of {g : Gd} {x qual : Str} {params : Arguments} {body : List Stmt} {scope : Scope} {kws : List (Str × V)} {f : Addr} {fd : FuncData} {ps : List Str} (F : FunD g.K x qual params body scope [] kws f fd) (n : Nat) (ks : List Str) (ms : List (Str × V)) (idx : List Nat) (cs : List D)
    (hk : kws ≠ []) (hms : ∀ q ∈ ms, q ∈ kws) (hc : ∀ (α : List Addr) (H : Hp), RDs g α H cs (ms.map (·.2)))
    (h : ∀ (D : Addr) (doc pm : Value) (an : Option Addr) (cdv ct : Value) (us mv ws : List Value), us.length = n → mv.length = ms.length → ws.length = ks.length →
      KwChain D ((ms.map (·.1)).zip mv) (bindArgs (PySem.W.fnOf x qual params body scope .none (.ref D) doc pm an cdv ct) ⟨us, ks.zip ws⟩) (ps.zip (pick idx (us ++ mv ++ ws)))) : KBd g fd ps n ks fun ds es => pick idx (ds ++ cs ++ es) := by
  obtain ⟨mv, hb⟩ := F.kbinds0 (ps := ps) n ks ms (fun us mv ws => pick idx (us ++ mv ++ ws)) hk hms (fun r1 r2 r3 => pick_vals ((r1.append r2).append r3) idx) h
  exact ⟨_, _, hb, fun α H ds es vs zs r1 r2 => pick_rds ((r1.append' (hc α H)).append' r2) idx⟩
end Mi

namespace Mi
open PySem PySem.Spec PyProof.Rows L2
theorem ofS_inj {a b : String} : (Str.ofString a = Str.ofString b) ↔ a = b := by
  constructor
  · intro h
    rw [Str.ofString_eq_toList, Str.ofString_eq_toList] at h
    have h1 : (a.toList.map Char.toNat).toArray = (b.toList.map Char.toNat).toArray := by injection h
    have h2 : a.toList.map Char.toNat = b.toList.map Char.toNat := by simpa using h1
    have h3 : a.toList = b.toList := by
      refine List.map_inj_right (fun x y hxy => ?_) |>.mp h2
      exact Char.toNat_inj.mp hxy
    exact String.toList_inj.mp h3
  · rintro rfl; rfl
@[simp] theorem ofS_eq {a b : String} : (Str.ofString a = Str.ofString b) = (a = b) := propext ofS_inj
@[simp] theorem ofS_beq {a b : String} : (Str.ofString a == Str.ofString b) = (a == b) := by
  rw [Bool.eq_iff_iff]; simp [ofS_inj]
/-! ### simp frames for instances, methods, defs as values -/
def fldO (o : Option Ob) (T : Nat → Bool) (f : Str) (st : Sto) : R D := match o with
  | some (.ins c fs) => if T c = true then ofO (fs.lookup f) st else .stuck
  | _ => .stuck
@[simp] theorem fldO_ins {c : Nat} {fs : List (Str × D)} {T : Nat → Bool} {f : Str} {st : Sto} : fldO (some (.ins c fs)) T f st = if T c = true then ofO (fs.lookup f) st else .stuck := rfl
@[simp] theorem fld_at {T : Nat → Bool} {f : Str} {n : Nat} {st : Sto} : fldD T f (.obj n) st = fldO st[n]? T f st := by
  unfold fldD fldO; rfl
def sfO (o : Option Ob) (n : Nat) (T : Nat → Bool) (f : Str) (d : D) (env : Env) (st : Sto) : RS := match o with
  | some (.ins c fs) => if T c = true ∧ fs.length < 1000 then .nx env (st.set n (.ins c (putD f d fs))) else .stuck
  | _ => .stuck
@[simp] theorem sfO_ins {c n : Nat} {fs : List (Str × D)} {T : Nat → Bool} {f : Str} {d : D} {env : Env} {st : Sto} : sfO (some (.ins c fs)) n T f d env st = if T c = true ∧ fs.length < 1000 then .nx env (st.set n (.ins c (putD f d fs))) else .stuck := rfl
def sfD (T : Nat → Bool) (f : Str) (d o : D) (env : Env) (st : Sto) : RS := match o with
  | .obj n => sfO st[n]? n T f d env st
  | _ => .stuck
@[simp] theorem sfD_obj {T : Nat → Bool} {f : Str} {d : D} {n : Nat} {env : Env} {st : Sto} : sfD T f d (.obj n) env st = sfO st[n]? n T f d env st := rfl
def gFldb (T : Nat → Bool) (f : Str) (d : D) (env : Env) (r : R D) : RS := bindS r env fun o st => sfD T f d o env st
def gFlda (T : Nat → Bool) (f : Str) (Fo : DE) (env : Env) (r : R D) : RS := bindS r env fun d st => gFldb T f d env (Fo env st)
@[simp] theorem gFldb_ok {T : Nat → Bool} {f : Str} {d o : D} {env : Env} {st : Sto} : gFldb T f d env (.ok o st) = sfD T f d o env st := rfl
@[simp] theorem gFldb_ex {T : Nat → Bool} {f : Str} {d : D} {env : Env} {c : Nat} {fs : List (Str × D)} {st : Sto} : gFldb T f d env (.exc c fs st) = .exc c fs env st := rfl
@[simp] theorem gFldb_st {T : Nat → Bool} {f : Str} {d : D} {env : Env} : gFldb T f d env .stuck = .stuck := rfl
@[simp] theorem gFlda_ok {T : Nat → Bool} {f : Str} {Fo : DE} {d : D} {env : Env} {st : Sto} : gFlda T f Fo env (.ok d st) = gFldb T f d env (Fo env st) := rfl
@[simp] theorem gFlda_ex {T : Nat → Bool} {f : Str} {Fo : DE} {env : Env} {c : Nat} {fs : List (Str × D)} {st : Sto} : gFlda T f Fo env (.exc c fs st) = .exc c fs env st := rfl
@[simp] theorem gFlda_st {T : Nat → Bool} {f : Str} {Fo : DE} {env : Env} : gFlda T f Fo env .stuck = .stuck := rfl
@[simp] theorem ap_fld {T : Nat → Bool} {f : Str} {Fv Fo : DE} {env : Env} {st : Sto} : sFldD T f Fv Fo env st = gFlda T f Fo env (Fv env st) := rfl
/-- methods -/
def clsO (o : Option Ob) (tb : Nat → Option Nat) (m : Str) : Option Nat := match o with
  | some (.ins c fs) => if (fs.lookup m).isNone = true then tb c else none
  | _ => none
@[simp] theorem clsO_ins {c : Nat} {fs : List (Str × D)} {tb : Nat → Option Nat} {m : Str} : clsO (some (.ins c fs)) tb m = if (fs.lookup m).isNone = true then tb c else none := rfl
@[simp] theorem cls_at {tb : Nat → Option Nat} {m : Str} {n : Nat} {st : Sto} : clsD tb m (.obj n) st = clsO st[n]? tb m := by
  unfold clsD clsO; rfl
def fMeb (Φ : Fam) (i : Nat) (o : D) (r : R (List D)) : R D := r.bind fun ds st => Φ i (o :: ds) st
@[simp] theorem fMeb_ok {Φ : Fam} {i : Nat} {o : D} {ds : List D} {st : Sto} : fMeb Φ i o (.ok ds st) = Φ i (o :: ds) st := rfl
@[simp] theorem fMeb_ex {Φ : Fam} {i : Nat} {o : D} {c : Nat} {fs : List (Str × D)} {st : Sto} : fMeb Φ i o (.exc c fs st) = .exc c fs st := rfl
@[simp] theorem fMeb_st {Φ : Fam} {i : Nat} {o : D} : fMeb Φ i o .stuck = .stuck := rfl
def meO (x : Option Nat) (Φ : Fam) (o : D) (G : DA) (env : Env) (st : Sto) : R D := match x with | some i => fMeb Φ i o (G env st) | none => .stuck
@[simp] theorem meO_some {i : Nat} {Φ : Fam} {o : D} {G : DA} {env : Env} {st : Sto} : meO (some i) Φ o G env st = fMeb Φ i o (G env st) := rfl
def fMea (tb : Nat → Option Nat) (m : Str) (Φ : Fam) (G : DA) (env : Env) (r : R D) : R D := r.bind fun o st => meO (clsD tb m o st) Φ o G env st
@[simp] theorem fMea_ok {tb : Nat → Option Nat} {m : Str} {Φ : Fam} {G : DA} {env : Env} {o : D} {st : Sto} : fMea tb m Φ G env (.ok o st) = meO (clsD tb m o st) Φ o G env st := rfl
@[simp] theorem fMea_ex {tb : Nat → Option Nat} {m : Str} {Φ : Fam} {G : DA} {env : Env} {c : Nat} {fs : List (Str × D)} {st : Sto} : fMea tb m Φ G env (.exc c fs st) = .exc c fs st := rfl
@[simp] theorem fMea_st {tb : Nat → Option Nat} {m : Str} {Φ : Fam} {G : DA} {env : Env} : fMea tb m Φ G env .stuck = .stuck := rfl
@[simp] theorem ap_meth {tb : Nat → Option Nat} {m : Str} {Φ : Fam} {Fo : DE} {G : DA} {env : Env} {st : Sto} : eMeth tb m Φ Fo G env st = fMea tb m Φ G env (Fo env st) := rfl
/-- a local name that holds a def -/
def cvR (ok : Nat → Bool) (o : Option (Option D)) (Φ : Fam) (r : R (List D)) : R D := match o with
  | some (some (.fn j)) => if ok j = true then r.bind fun ds st1 => Φ j ds st1 else .stuck
  | _ => .stuck
@[simp] theorem cvR_fn {ok : Nat → Bool} {j : Nat} {Φ : Fam} {ds : List D} {st : Sto} : cvR ok (some (some (.fn j))) Φ (.ok ds st) = if ok j = true then Φ j ds st else .stuck := rfl
@[simp] theorem ap_callV {ok : Nat → Bool} {i : Nat} {Φ : Fam} {G : DA} {env : Env} {st : Sto} : eCallV ok i Φ G env st = cvR ok env[i]? Φ (G env st) := by
  unfold eCallV cvR; rfl
/-- making -/
@[simp] theorem initR_ok {n : Nat} {st : Sto} : initR n (.ok .non st) = .ok (.obj n) st := rfl
@[simp] theorem initR_ex {n c : Nat} {fs : List (Str × D)} {st : Sto} : initR n (.exc c fs st) = .exc c fs st := rfl
@[simp] theorem makeD_eq {c i : Nat} {Φ : Fam} {ds : List D} {st : Sto} : makeD c i Φ ds st = initR st.length (Φ i (.obj st.length :: ds) (st ++ [.ins c []])) := rfl
def fMkb (c i : Nat) (Φ : Fam) (gD : List D → List D → List D) (ds : List D) (r : R (List D)) : R D := r.bind fun es st => initR st.length (Φ i (gD (.obj st.length :: ds) es) (st ++ [.ins c []]))
@[simp] theorem fMkb_ok {c i : Nat} {Φ : Fam} {gD : List D → List D → List D} {ds es : List D} {st : Sto} : fMkb c i Φ gD ds (.ok es st) = initR st.length (Φ i (gD (.obj st.length :: ds) es) (st ++ [.ins c []])) := rfl
def fMka (c i : Nat) (Φ : Fam) (gD : List D → List D → List D) (G' : DA) (env : Env) (r : R (List D)) : R D := r.bind fun ds st => fMkb c i Φ gD ds (G' env st)
@[simp] theorem fMka_ok {c i : Nat} {Φ : Fam} {gD : List D → List D → List D} {G' : DA} {env : Env} {ds : List D} {st : Sto} : fMka c i Φ gD G' env (.ok ds st) = fMkb c i Φ gD ds (G' env st) := rfl
@[simp] theorem ap_makeK {c i : Nat} {Φ : Fam} {gD : List D → List D → List D} {G G' : DA} {env : Env} {st : Sto} : eMakeK c i Φ gD G G' env st = fMka c i Φ gD G' env (G env st) := rfl
def fKb (φ : List D → Sto → R D) (gD : List D → List D → List D) (ds : List D) (r : R (List D)) : R D := r.bind fun es st => φ (gD ds es) st
@[simp] theorem fKb_ok {φ : List D → Sto → R D} {gD : List D → List D → List D} {ds es : List D} {st : Sto} : fKb φ gD ds (.ok es st) = φ (gD ds es) st := rfl
def fKa (φ : List D → Sto → R D) (gD : List D → List D → List D) (G' : DA) (env : Env) (r : R (List D)) : R D := r.bind fun ds st => fKb φ gD ds (G' env st)
@[simp] theorem fKa_ok {φ : List D → Sto → R D} {gD : List D → List D → List D} {G' : DA} {env : Env} {ds : List D} {st : Sto} : fKa φ gD G' env (.ok ds st) = fKb φ gD ds (G' env st) := rfl
@[simp] theorem ap_callK {φ : List D → Sto → R D} {gD : List D → List D → List D} {G G' : DA} {env : Env} {st : Sto} : eCallK φ gD G G' env st = fKa φ gD G' env (G env st) := rfl
end Mi

namespace Mi
open PySem L2
@[simp] theorem isi_non_non : isi .non .non = true := rfl
@[simp] theorem isi_non_bool : isi .non .bool = false := rfl
@[simp] theorem isi_non_int : isi .non .int = false := rfl
@[simp] theorem isi_non_str : isi .non .str = false := rfl
@[simp] theorem isi_non_tuple : isi .non .tuple = false := rfl
@[simp] theorem isi_non_list : isi .non .list = false := rfl
@[simp] theorem isi_non_dict : isi .non .dict = false := rfl
@[simp] theorem isi_bool_non : isi .bool .non = false := rfl
@[simp] theorem isi_bool_bool : isi .bool .bool = true := rfl
@[simp] theorem isi_bool_int : isi .bool .int = true := rfl
@[simp] theorem isi_bool_str : isi .bool .str = false := rfl
@[simp] theorem isi_bool_tuple : isi .bool .tuple = false := rfl
@[simp] theorem isi_bool_list : isi .bool .list = false := rfl
@[simp] theorem isi_bool_dict : isi .bool .dict = false := rfl
@[simp] theorem isi_int_non : isi .int .non = false := rfl
@[simp] theorem isi_int_bool : isi .int .bool = false := rfl
@[simp] theorem isi_int_int : isi .int .int = true := rfl
@[simp] theorem isi_int_str : isi .int .str = false := rfl
@[simp] theorem isi_int_tuple : isi .int .tuple = false := rfl
@[simp] theorem isi_int_list : isi .int .list = false := rfl
@[simp] theorem isi_int_dict : isi .int .dict = false := rfl
@[simp] theorem isi_str_non : isi .str .non = false := rfl
@[simp] theorem isi_str_bool : isi .str .bool = false := rfl
@[simp] theorem isi_str_int : isi .str .int = false := rfl
@[simp] theorem isi_str_str : isi .str .str = true := rfl
@[simp] theorem isi_str_tuple : isi .str .tuple = false := rfl
@[simp] theorem isi_str_list : isi .str .list = false := rfl
@[simp] theorem isi_str_dict : isi .str .dict = false := rfl
@[simp] theorem isi_tuple_non : isi .tuple .non = false := rfl
@[simp] theorem isi_tuple_bool : isi .tuple .bool = false := rfl
@[simp] theorem isi_tuple_int : isi .tuple .int = false := rfl
@[simp] theorem isi_tuple_str : isi .tuple .str = false := rfl
@[simp] theorem isi_tuple_tuple : isi .tuple .tuple = true := rfl
@[simp] theorem isi_tuple_list : isi .tuple .list = false := rfl
@[simp] theorem isi_tuple_dict : isi .tuple .dict = false := rfl
@[simp] theorem isi_list_non : isi .list .non = false := rfl
@[simp] theorem isi_list_bool : isi .list .bool = false := rfl
@[simp] theorem isi_list_int : isi .list .int = false := rfl
@[simp] theorem isi_list_str : isi .list .str = false := rfl
@[simp] theorem isi_list_tuple : isi .list .tuple = false := rfl
@[simp] theorem isi_list_list : isi .list .list = true := rfl
@[simp] theorem isi_list_dict : isi .list .dict = false := rfl
@[simp] theorem isi_dict_non : isi .dict .non = false := rfl
@[simp] theorem isi_dict_bool : isi .dict .bool = false := rfl
@[simp] theorem isi_dict_int : isi .dict .int = false := rfl
@[simp] theorem isi_dict_str : isi .dict .str = false := rfl
@[simp] theorem isi_dict_tuple : isi .dict .tuple = false := rfl
@[simp] theorem isi_dict_list : isi .dict .list = false := rfl
@[simp] theorem isi_dict_dict : isi .dict .dict = true := rfl
@[simp] theorem ty_obj {n : Nat} {st : Sto} : tyD (.obj n) st = (match st[n]? with | some (.lst _) => some .list | some (.frz _) => some .list | some (.dic _) => some .dict | _ => none) := rfl
@[simp] theorem isiD_non {T : Ty} {b : Bool} {i : Int} {x : Str} {ds : List D} {st : Sto} : isiD T .non st = .ok (.bl (isi .non T)) st := rfl
@[simp] theorem isiD_bool {T : Ty} {b : Bool} {i : Int} {x : Str} {ds : List D} {st : Sto} : isiD T (.bl b) st = .ok (.bl (isi .bool T)) st := rfl
@[simp] theorem isiD_int {T : Ty} {b : Bool} {i : Int} {x : Str} {ds : List D} {st : Sto} : isiD T (.int i) st = .ok (.bl (isi .int T)) st := rfl
@[simp] theorem isiD_str {T : Ty} {b : Bool} {i : Int} {x : Str} {ds : List D} {st : Sto} : isiD T (.str x) st = .ok (.bl (isi .str T)) st := rfl
@[simp] theorem isiD_tuple {T : Ty} {b : Bool} {i : Int} {x : Str} {ds : List D} {st : Sto} : isiD T (.tup ds) st = .ok (.bl (isi .tuple T)) st := rfl
@[simp] theorem isiD_list {T : Ty} {b : Bool} {i : Int} {x : Str} {ds : List D} {st : Sto} : isiD T (.kl ds) st = .ok (.bl (isi .list T)) st := rfl
@[simp] theorem truD_bl {b : Bool} {st : Sto} : truD (.bl b) st = some b := rfl
theorem atI_n {β : Type} (xs : List β) (k : Nat) : atI xs (k : Int) = xs[k]? := by
  by_cases h : k < xs.length
  · exact atI_nat' h
  · unfold atI ixN
    rw [if_pos (by omega), if_neg (by omega), List.getElem?_eq_none (by omega)]
    rfl
@[simp] theorem atI_1 {β : Type} {xs : List β} : atI xs 1 = xs[1]? := atI_n xs 1
@[simp] theorem atI_2 {β : Type} {xs : List β} : atI xs 2 = xs[2]? := atI_n xs 2
@[simp] theorem atI_3 {β : Type} {xs : List β} : atI xs 3 = xs[3]? := atI_n xs 3
@[simp] theorem atI_4 {β : Type} {xs : List β} : atI xs 4 = xs[4]? := atI_n xs 4
@[simp] theorem atI_5 {β : Type} {xs : List β} : atI xs 5 = xs[5]? := atI_n xs 5
@[simp] theorem atI_6 {β : Type} {xs : List β} : atI xs 6 = xs[6]? := atI_n xs 6
@[simp] theorem atI_7 {β : Type} {xs : List β} : atI xs 7 = xs[7]? := atI_n xs 7
@[simp] theorem atI_8 {β : Type} {xs : List β} : atI xs 8 = xs[8]? := atI_n xs 8
@[simp] theorem atI_9 {β : Type} {xs : List β} : atI xs 9 = xs[9]? := atI_n xs 9
@[simp] theorem atI_10 {β : Type} {xs : List β} : atI xs 10 = xs[10]? := atI_n xs 10
@[simp] theorem atI_11 {β : Type} {xs : List β} : atI xs 11 = xs[11]? := atI_n xs 11
@[simp] theorem atI_12 {β : Type} {xs : List β} : atI xs 12 = xs[12]? := atI_n xs 12
end Mi

namespace Mi
open PySem L2
/-! ### one of two readings of an expression -/
def altR {β : Type} (r s : R β) : R β := match r with | .stuck => s | r => r
@[simp] theorem altR_ok {β : Type} {b : β} {st : Sto} {s : R β} : altR (.ok b st) s = .ok b st := rfl
@[simp] theorem altR_exc {β : Type} {c : Nat} {fs : List (Str × D)} {st : Sto} {s : R β} : altR (.exc c fs st) s = .exc c fs st := rfl
@[simp] theorem altR_stuck {β : Type} {s : R β} : altR .stuck s = s := rfl
def eAlt (F G : DE) : DE := fun env st => altR (F env st) (G env st)
@[simp] theorem ap_alt {F G : DE} {env : Env} {st : Sto} : eAlt F G env st = altR (F env st) (G env st) := rfl
section
variable {g : Gd} {X : Cx} {W : WX}
theorem oe_alt {e : Expr} {F G : DE} (h : OE g X W e F) (k : OE g X W e G) : OE g X W e (eAlt F G) := by
  refine ⟨fun pins s σ H Q I ⟨α, env, st, hE, hS, p⟩ => ?_⟩
  unfold eAlt altR at p
  cases hF : F env st with
  | ok d st1 => rw [hF] at p; exact L2.PE.run h pins s σ H Q I ⟨α, env, st, hE, hS, by rw [hF]; exact p⟩
  | exc c fs st1 => rw [hF] at p; exact L2.PE.run h pins s σ H Q I ⟨α, env, st, hE, hS, by rw [hF]; exact p⟩
  | stuck => rw [hF] at p; exact L2.PE.run k pins s σ H Q I ⟨α, env, st, hE, hS, p⟩
end
/-! ### more methods -/
def sindexM : D → List D → Sto → R D
  | .str a, [.str b], st => (match Builtin.Str.occurrences a b 0 a.length 1 with | i :: _ => .ok (.int (i : Nat)) st | [] => .stuck)
  | _, _, _ => .stuck
def insertM : D → List D → Sto → R D
  | .obj n, [.int i, d], st => match st[n]? with
    | some (.lst ds) => if ds.length < sizeLine ∧ 0 ≤ i ∧ i < 2 ^ 63 then .ok .non (st.set n (.lst (ds.take i.toNat ++ [d] ++ ds.drop i.toNat))) else .stuck
    | _ => .stuck
  | _, _, _ => .stuck
def popAtM : D → List D → Sto → R D
  | .obj n, [.int i], st => match st[n]? with
    | some (.lst ds) => if 0 ≤ i ∧ i < 2 ^ 63 then (match ds[i.toNat]? with | some d => .ok d (st.set n (.lst (ds.eraseIdx i.toNat))) | none => .stuck) else .stuck
    | _ => .stuck
  | _, _, _ => .stuck
def popM : D → List D → Sto → R D
  | .obj n, [], st => match st[n]? with
    | some (.lst ds) => (match ds[ds.length - 1]? with | some d => .ok d (st.set n (.lst ds.dropLast)) | none => .stuck)
    | _ => .stuck
  | _, _, _ => .stuck
def clearM : D → List D → Sto → R D
  | .obj n, [], st => match st[n]? with | some (.lst ds) => .ok .non (st.set n (.lst [])) | _ => .stuck
  | _, _, _ => .stuck
def reverseM : D → List D → Sto → R D
  | .obj n, [], st => match st[n]? with | some (.lst ds) => .ok .non (st.set n (.lst ds.reverse)) | _ => .stuck
  | _, _, _ => .stuck
section
variable {g : Gd} {X : Cx} {W : WX}
theorem mt_sindexD : Mt g X W "str.index" sindexM := by
  intro σ α H st a x ds vs Q s ra rs p
  unfold sindexM at p
  split at p
  · cases ra
    obtain ⟨v, rfl, rv⟩ := rs.one
    cases rv
    split at p
    · rename_i i rest e
      exact ⟨_, mt_sindex, _, _, i, rest, rfl, rfl, e, PD.ok p s rfl⟩
    · exact p.elim
  · exact p.elim
theorem RDs.two' {α : List Addr} {H : Hp} {a b : D} {vs : List V} (h : RDs g α H [a, b] vs) : ∃ v w, vs = [v, w] ∧ RD g α H a v ∧ RD g α H b w := by
  obtain ⟨v, r, rfl, h1, h2⟩ := h
  obtain ⟨w, r, rfl, h3, h4⟩ := h2
  cases h4
  exact ⟨v, w, rfl, h1, h3⟩
theorem RDs.dropLast {α : List Addr} {H : Hp} {ds : List D} {vs : List V} (h : RDs g α H ds vs) : RDs g α H ds.dropLast vs.dropLast := by
  rw [List.dropLast_eq_take, List.dropLast_eq_take, h.length]
  exact h.take _
theorem RDs.reverse {α : List Addr} {H : Hp} : ∀ {ds : List D} {vs : List V}, RDs g α H ds vs → RDs g α H ds.reverse vs.reverse
  | [], vs, h => by cases h; exact RDs.nil
  | d :: ds, vs, h => by
    obtain ⟨v, r, rfl, h1, h2⟩ := h
    rw [List.reverse_cons, List.reverse_cons]
    exact (RDs.reverse h2).append (.cons h1 .nil)
theorem RDs.erase {α : List Addr} {H : Hp} {ds : List D} {vs : List V} (k : Nat) (h : RDs g α H ds vs) : RDs g α H (ds.eraseIdx k) (vs.eraseIdx k) := by
  rw [List.eraseIdx_eq_take_drop_succ, List.eraseIdx_eq_take_drop_succ]
  exact (h.take k).append (h.drop (k + 1))
theorem mt_insertD : Mt g X W "list.insert" insertM := by
  intro σ α H st a x ds vs Q s ra rs p
  unfold insertM at p
  split at p
  · split at p
    · split at p
      · rename_i n i d _ xs e hl
        obtain ⟨a1, ws, rfl, ha, h1, r1⟩ := s.lst ra e
        obtain ⟨v1, v2, rfl, rv1, rv2⟩ := rs.two'
        cases rv1
        have ex : Ext α H α (upd H a1 (.lst (ws.take i.toNat ++ [v2] ++ ws.drop i.toNat))) := ext_write s ha ⟨_, h1, fun _ z => (nomatch z), fun _ _ z => (nomatch z)⟩
        refine ⟨_, mt_insert, a1, ws, i, v2, rfl, rfl, h1, by rw [← r1.length]; exact hl.1, hl.2.1, hl.2.2, ?_⟩
        exact p α _ ex (s.write ha ex ⟨_, upd_same, (((r1.take _).append (.cons rv2 .nil)).append (r1.drop _)).mono ex⟩) _ rfl
      · exact p.elim
    · exact p.elim
  · exact p.elim
theorem mt_popAtD : Mt g X W "list.pop" popAtM := by
  intro σ α H st a x ds vs Q s ra rs p
  unfold popAtM at p
  split at p
  · split at p
    · split at p
      · split at p
        · rename_i n i _ xs e hl _ d ed
          obtain ⟨a1, ws, rfl, ha, h1, r1⟩ := s.lst ra e
          obtain ⟨v1, rfl, rv1⟩ := rs.one
          cases rv1
          obtain ⟨y, ey, ry⟩ := r1.get ed
          have hk : i.toNat < ws.length := (List.getElem?_eq_some_iff.mp ey).1
          have ex : Ext α H α (upd H a1 (.lst (ws.eraseIdx i.toNat))) := ext_write s ha ⟨_, h1, fun _ z => (nomatch z), fun _ _ z => (nomatch z)⟩
          refine ⟨_, mtr mt_popAt, a1, ws, i, i.toNat, y, rfl, rfl, h1, by omega, hl.2, ?_, ey, ?_⟩
          · have := hl.1
            have hn : ¬ i < 0 := by omega
            unfold seqIndex?
            simp only [if_neg hn]
            rw [if_pos (by simp; omega)]
          · exact p α _ ex (s.write ha ex ⟨_, upd_same, (r1.erase _).mono ex⟩) _ (ry.mono ex)
        · exact p.elim
      · exact p.elim
    · exact p.elim
  · exact p.elim
theorem mt_popD : Mt g X W "list.pop" popM := by
  intro σ α H st a x ds vs Q s ra rs p
  unfold popM at p
  split at p
  · split at p
    · split at p
      · rename_i n _ xs e _ d ed
        obtain ⟨a1, ws, rfl, ha, h1, r1⟩ := s.lst ra e
        cases rs
        obtain ⟨y, ey, ry⟩ := r1.get ed
        rw [r1.length] at ey
        have ex : Ext α H α (upd H a1 (.lst ws.dropLast)) := ext_write s ha ⟨_, h1, fun _ z => (nomatch z), fun _ _ z => (nomatch z)⟩
        refine ⟨_, mtr mt_pop, a1, ws, y, rfl, rfl, h1, ey, ?_⟩
        exact p α _ ex (s.write ha ex ⟨_, upd_same, r1.dropLast.mono ex⟩) _ (ry.mono ex)
      · exact p.elim
    · exact p.elim
  · exact p.elim
theorem mt_clearD : Mt g X W "list.clear" clearM := by
  intro σ α H st a x ds vs Q s ra rs p
  unfold clearM at p
  split at p
  · split at p
    · rename_i n xs e
      obtain ⟨a1, ws, rfl, ha, h1, r1⟩ := s.lst ra e
      cases rs
      have ex : Ext α H α (upd H a1 (.lst [])) := ext_write s ha ⟨_, h1, fun _ z => (nomatch z), fun _ _ z => (nomatch z)⟩
      refine ⟨_, mtr mt_clear, a1, ws, rfl, rfl, h1, ?_⟩
      exact p α _ ex (s.write ha ex ⟨_, upd_same, RDs.nil⟩) _ rfl
    · exact p.elim
  · exact p.elim
theorem mt_reverseD : Mt g X W "list.reverse" reverseM := by
  intro σ α H st a x ds vs Q s ra rs p
  unfold reverseM at p
  split at p
  · split at p
    · rename_i n xs e
      obtain ⟨a1, ws, rfl, ha, h1, r1⟩ := s.lst ra e
      cases rs
      have ex : Ext α H α (upd H a1 (.lst ws.reverse)) := ext_write s ha ⟨_, h1, fun _ z => (nomatch z), fun _ _ z => (nomatch z)⟩
      refine ⟨_, mtr mt_reverse, a1, ws, rfl, rfl, h1, ?_⟩
      exact p α _ ex (s.write ha ex ⟨_, upd_same, (RDs.reverse r1).mono ex⟩) _ rfl
    · exact p.elim
  · exact p.elim
end
end Mi

namespace Mi
open PySem L2

/-! the defs of the text (printed by wip/gen2.py) -/
abbrev FUEL : Nat := 1000000
abbrev i_sort_of : Nat := 0
abbrev i_rank_of : Nat := 1
abbrev i_plain_like : Nat := 2
abbrev i_plain_less : Nat := 3
abbrev i_stirred_on : Nat := 4
abbrev i_plain_digest : Nat := 5
abbrev i_Manner____init__ : Nat := 6
abbrev i_Manner__is_like : Nat := 7
abbrev i_Manner__is_less : Nat := 8
abbrev i_Manner__digest_of : Nat := 9
abbrev i_widened : Nat := 10
abbrev i_folded : Nat := 11
abbrev i_wide_like : Nat := 12
abbrev i_wide_less : Nat := 13
abbrev i_wide_digest : Nat := 14
abbrev i_turned_less : Nat := 15
abbrev i_folded_like : Nat := 16
abbrev i_folded_less : Nat := 17
abbrev i_folded_digest : Nat := 18
abbrev i_manner_of : Nat := 19
abbrev i__law_feed : Nat := 20
abbrev i__law_take : Nat := 21
abbrev i__law_thing : Nat := 22
abbrev i__law_signs : Nat := 23
abbrev i__law_full : Nat := 24
abbrev i__law_fit : Nat := 25
abbrev i__law_many_within : Nat := 26
abbrev i__law_sort : Nat := 27
abbrev i__law_order : Nat := 28
abbrev i__law_near : Nat := 29
abbrev i__law_taken_for : Nat := 30
abbrev i__law_great : Nat := 31
abbrev i__law_right : Nat := 32
abbrev i_law : Nat := 33
abbrev c_Manner : Nat := 0
def T_held_digest : Nat → Bool := fun c => match c with
  | 0 => true
  | _ => false
def T_held_less : Nat → Bool := fun c => match c with
  | 0 => true
  | _ => false
def T_held_like : Nat → Bool := fun c => match c with
  | 0 => true
  | _ => false
def tb_digest_of_1 : Nat → Option Nat := fun c => match c with
  | 0 => some i_Manner__digest_of
  | _ => none
def tb_is_less_2 : Nat → Option Nat := fun c => match c with
  | 0 => some i_Manner__is_less
  | _ => none
def tb_is_like_2 : Nat → Option Nat := fun c => match c with
  | 0 => some i_Manner__is_like
  | _ => none
def ok_1 : Nat → Bool := fun j => match j with
  | 0 => true
  | 1 => true
  | 5 => true
  | 10 => true
  | 11 => true
  | 14 => true
  | 18 => true
  | 19 => true
  | 25 => true
  | 26 => true
  | 27 => true
  | 31 => true
  | 33 => true
  | _ => false
def ok_2 : Nat → Bool := fun j => match j with
  | 2 => true
  | 3 => true
  | 4 => true
  | 12 => true
  | 13 => true
  | 15 => true
  | 16 => true
  | 17 => true
  | 20 => true
  | 21 => true
  | 22 => true
  | 23 => true
  | 24 => true
  | 28 => true
  | 29 => true
  | 30 => true
  | 32 => true
  | _ => false
def gd_Manner____init___ : List D → List D → List D := fun ds es => pick [0, 1, 2, 3] (ds ++ [.non, .non, .non] ++ es)
theorem gl_Manner____init___ : ∀ ds es : List D, ds.length = 1 → es.length = 0 → (gd_Manner____init___ ds es).length = 4 := fun ds es h1 h2 => match ds, es, h1, h2 with | [_], [], _, _ => rfl
def gd_Manner____init___less : List D → List D → List D := fun ds es => pick [0, 1, 3, 2] (ds ++ [.non, .non] ++ es)
theorem gl_Manner____init___less : ∀ ds es : List D, ds.length = 1 → es.length = 1 → (gd_Manner____init___less ds es).length = 4 := fun ds es h1 h2 => match ds, es, h1, h2 with | [_], [_], _, _ => rfl
def gd_Manner____init___like_less_digest : List D → List D → List D := fun ds es => pick [0, 1, 2, 3] (ds ++ [] ++ es)
theorem gl_Manner____init___like_less_digest : ∀ ds es : List D, ds.length = 1 → es.length = 3 → (gd_Manner____init___like_less_digest ds es).length = 4 := fun ds es h1 h2 => match ds, es, h1, h2 with | [_], [_, _, _], _, _ => rfl
def b_sort_of (Φ : Fam) : DS :=
  sSeq (sIf (tstB (e2 isD (eVar 0) (eC .non))) (sSeq (sRet (eC (.int 0)))
    (sNil)) (sNil))
    (sSeq (sIf (tst (e1 (isiD .bool) (eVar 0))) (sSeq (sRet (eC (.int 1)))
    (sNil)) (sNil))
    (sSeq (sIf (tst (e1 (isiD .int) (eVar 0))) (sSeq (sRet (eC (.int 2)))
    (sNil)) (sNil))
    (sSeq (sRet (eIf (tst (e1 (isiD .str) (eVar 0))) (eC (.int 3)) (eC (.int 4))))
    (sNil))))
def b_rank_of (Φ : Fam) : DS :=
  sSeq (sIf (tstB (e2 isD (eVar 0) (eC .non))) (sSeq (sRet (eTup (aCons (eC (.int 0)) (aCons (eC (.int 0)) (aNil)))))
    (sNil)) (sNil))
    (sSeq (sIf (tst (e1 (isiD .tuple) (eVar 0))) (sSeq (sRet (eTup (aCons (eC (.int 4)) (aCons (eCall tupleL (lComp [1] (.nm 1) (iVal (eVar 0)) (cYes) (eCall (Φ i_rank_of) (aCons (eVar 1) (aNil))))) (aNil)))))
    (sNil)) (sNil))
    (sSeq (sRet (eTup (aCons (eCall (Φ i_sort_of) (aCons (eVar 0) (aNil))) (aCons (eVar 0) (aNil)))))
    (sNil)))
def b_plain_like (Φ : Fam) : DS :=
  sSeq (sRet (e2 eqD (eCall (Φ i_rank_of) (aCons (eVar 0) (aNil))) (eCall (Φ i_rank_of) (aCons (eVar 1) (aNil)))))
    (sNil)
def b_plain_less (Φ : Fam) : DS :=
  sSeq (sRet (e2 ltQ (eCall (Φ i_rank_of) (aCons (eVar 0) (aNil))) (eCall (Φ i_rank_of) (aCons (eVar 1) (aNil)))))
    (sNil)
def b_stirred_on (Φ : Fam) : DS :=
  sSeq (sRet (e2 modD (e2 addD (e2 addD (e2 mulD (eVar 0) (eC (.int 1103))) (e2 mulD (eVar 1) (eC (.int 7919)))) (eC (.int 104729))) (eC (.int (2147483648)))))
    (sNil)
def L1_plain_digest (Φ : Fam) : DS :=
  sSeq (sAsg (.nm 1) (eCall (Φ i_stirred_on) (aCons (eVar 1) (aCons (eIf (tst (e1 (isiD .str) (eVar 0))) (eMt "str" findM (eC (.str " !\"#$&'()*+,-./0123456789:;<=>?@ABCDEFGHIJKLMNOPQRSTUVWXYZ[\\]^_`abcdefghijklmnopqrstuvwxyz{|}~")) (aCons (eVar 2) (aNil))) (eCall (Φ i_plain_digest) (aCons (eVar 2) (aNil)))) (aNil)))))
    (sNil)
def b_plain_digest (Φ : Fam) : DS :=
  sSeq (sAsg (.nm 1) (eCall (Φ i_stirred_on) (aCons (eC (.int 17)) (aCons (eCall (Φ i_sort_of) (aCons (eVar 0) (aNil))) (aNil)))))
    (sSeq (sIf (tstB (e2 isD (eVar 0) (eC .non))) (sSeq (sRet (eVar 1))
    (sNil)) (sNil))
    (sSeq (sIf (tst (e1 (isiD .int) (eVar 0))) (sSeq (sRet (eCall (Φ i_stirred_on) (aCons (eVar 1) (aCons (eCall intB (aCons (eVar 0) (aNil))) (aNil)))))
    (sNil)) (sNil))
    (sSeq (sFor (.nm 2) (iVal (eVar 0)) (L1_plain_digest Φ))
    (sSeq (sRet (eCall (Φ i_stirred_on) (aCons (eVar 1) (aCons (eCall lenB (aCons (eVar 0) (aNil))) (aNil)))))
    (sNil)))))
def b_Manner____init__ (Φ : Fam) : DS :=
  sSeq (sFldD T_held_like "held_like" (eIf (tstB (e2 isD (eVar 1) (eC .non))) (eC (.fn i_plain_like)) (eVar 1)) (eVar 0))
    (sSeq (sFldD T_held_less "held_less" (eIf (tstB (e2 isD (eVar 2) (eC .non))) (eC (.fn i_plain_less)) (eVar 2)) (eVar 0))
    (sSeq (sFldD T_held_digest "held_digest" (eIf (tstB (e2 isD (eVar 3) (eC .non))) (eC (.fn i_plain_digest)) (eVar 3)) (eVar 0))
    (sNil)))
def b_Manner__is_like (Φ : Fam) : DS :=
  sSeq (sAsg (.nm 3) (e1 (fldD T_held_like "held_like") (eVar 0)))
    (sSeq (sRet (eCallV ok_2 3 Φ (aCons (eVar 1) (aCons (eVar 2) (aNil)))))
    (sNil))
def b_Manner__is_less (Φ : Fam) : DS :=
  sSeq (sAsg (.nm 3) (e1 (fldD T_held_less "held_less") (eVar 0)))
    (sSeq (sRet (eCallV ok_2 3 Φ (aCons (eVar 1) (aCons (eVar 2) (aNil)))))
    (sNil))
def b_Manner__digest_of (Φ : Fam) : DS :=
  sSeq (sAsg (.nm 2) (e1 (fldD T_held_digest "held_digest") (eVar 0)))
    (sSeq (sRet (eCallV ok_1 2 Φ (aCons (eVar 1) (aNil))))
    (sNil))
def b_widened (Φ : Fam) : DS :=
  sSeq (sIf (tst (e1 (isiD .bool) (eVar 0))) (sSeq (sRet (eCall intB (aCons (eVar 0) (aNil))))
    (sNil)) (sNil))
    (sSeq (sRet (eIf (tst (e1 (isiD .tuple) (eVar 0))) (eCall tupleL (lComp [1] (.nm 1) (iVal (eVar 0)) (cYes) (eCall (Φ i_widened) (aCons (eVar 1) (aNil))))) (eVar 0)))
    (sNil))
def b_folded (Φ : Fam) : DS :=
  sSeq (sIf (tst (e1 (isiD .str) (eVar 0))) (sSeq (sRet (eMt0 "str" lowerM (eVar 0)))
    (sNil)) (sNil))
    (sSeq (sRet (eIf (tst (e1 (isiD .tuple) (eVar 0))) (eCall tupleL (lComp [1] (.nm 1) (iVal (eVar 0)) (cYes) (eCall (Φ i_folded) (aCons (eVar 1) (aNil))))) (eVar 0)))
    (sNil))
def b_wide_like (Φ : Fam) : DS :=
  sSeq (sRet (eCall (Φ i_plain_like) (aCons (eCall (Φ i_widened) (aCons (eVar 0) (aNil))) (aCons (eCall (Φ i_widened) (aCons (eVar 1) (aNil))) (aNil)))))
    (sNil)
def b_wide_less (Φ : Fam) : DS :=
  sSeq (sRet (eCall (Φ i_plain_less) (aCons (eCall (Φ i_widened) (aCons (eVar 0) (aNil))) (aCons (eCall (Φ i_widened) (aCons (eVar 1) (aNil))) (aNil)))))
    (sNil)
def b_wide_digest (Φ : Fam) : DS :=
  sSeq (sRet (eCall (Φ i_plain_digest) (aCons (eCall (Φ i_widened) (aCons (eVar 0) (aNil))) (aNil))))
    (sNil)
def b_turned_less (Φ : Fam) : DS :=
  sSeq (sRet (eCall (Φ i_plain_less) (aCons (eVar 1) (aCons (eVar 0) (aNil)))))
    (sNil)
def b_folded_like (Φ : Fam) : DS :=
  sSeq (sRet (eCall (Φ i_plain_like) (aCons (eCall (Φ i_folded) (aCons (eVar 0) (aNil))) (aCons (eCall (Φ i_folded) (aCons (eVar 1) (aNil))) (aNil)))))
    (sNil)
def b_folded_less (Φ : Fam) : DS :=
  sSeq (sRet (eCall (Φ i_plain_less) (aCons (eCall (Φ i_folded) (aCons (eVar 0) (aNil))) (aCons (eCall (Φ i_folded) (aCons (eVar 1) (aNil))) (aNil)))))
    (sNil)
def b_folded_digest (Φ : Fam) : DS :=
  sSeq (sRet (eCall (Φ i_plain_digest) (aCons (eCall (Φ i_folded) (aCons (eVar 0) (aNil))) (aNil))))
    (sNil)
def b_manner_of (Φ : Fam) : DS :=
  sSeq (sIf (tstB (e2 eqD (eVar 0) (eC (.str "wide")))) (sSeq (sRet (eMakeK 0 i_Manner____init__ Φ gd_Manner____init___like_less_digest (aNil) (aCons (eC (.fn i_wide_like)) (aCons (eC (.fn i_wide_less)) (aCons (eC (.fn i_wide_digest)) (aNil))))))
    (sNil)) (sNil))
    (sSeq (sIf (tstB (e2 eqD (eVar 0) (eC (.str "folded")))) (sSeq (sRet (eMakeK 0 i_Manner____init__ Φ gd_Manner____init___like_less_digest (aNil) (aCons (eC (.fn i_folded_like)) (aCons (eC (.fn i_folded_less)) (aCons (eC (.fn i_folded_digest)) (aNil))))))
    (sNil)) (sNil))
    (sSeq (sRet (eIf (tstB (e2 eqD (eVar 0) (eC (.str "turned")))) (eMakeK 0 i_Manner____init__ Φ gd_Manner____init___less (aNil) (aCons (eC (.fn i_turned_less)) (aNil))) (eMakeK 0 i_Manner____init__ Φ gd_Manner____init___ (aNil) (aNil))))
    (sNil)))
def K1__law_feed (Φ : Fam) : DS :=
  sSeq (sRet (eLst (aCons (eVar 3) (aCons (e2 modD (e2 addD (e2 addD (e2 mulD (e2 modD (eVar 2) (eC (.int 2147483423))) (eC (.int 48271))) (e2 mulD (eC (.int 6151)) (eVar 1))) (eC (.int 17))) (eC (.int 2147483423))) (aCons (eC (.int 0)) (aNil))))))
    (sNil)
def K2__law_feed (Φ : Fam) : DS :=
  sSeq (sAsg (.nm 3) (eCall absB (aCons (eVar 2) (aNil))))
    (sSeq (sIf (tstB (e2 ltQ (eVar 3) (e2 powD (eC (.int 10)) (eC (.int 18))))) (sSeq (sAsg (.nm 3) (eC (.int 0)))
    (sNil)) (sNil))
    (K1__law_feed Φ))
def b__law_feed (Φ : Fam) : DS :=
  sSeq (sAsg (.nm 2) (eC (.int 0)))
    (sSeq (sIf (tstB (e2 ltQ (eVar 1) (eCall lenB (aCons (eVar 0) (aNil))))) (sSeq (sAsg (.nm 2) (e2 ixD (eVar 0) (eVar 1)))
    (sNil)) (sNil))
    (K2__law_feed Φ))
def b__law_take (Φ : Fam) : DS :=
  sSeq (sIf (tstB (e2 gtD (e2 ixD (eVar 0) (eC (.int 0))) (eC (.int 0)))) (sSeq (sAsg (.nm 2) (e2 modD (e2 ixD (eVar 0) (eC (.int 0))) (eVar 1)))
    (sSeq (sSub (e2 fdivD (e2 ixD (eVar 0) (eC (.int 0))) (eVar 1)) (eVar 0) (eC (.int 0)))
    (sSeq (sRet (eVar 2))
    (sNil)))) (sNil))
    (sSeq (sAsg (.nm 3) (e2 addD (e2 ixD (eVar 0) (eC (.int 2))) (eC (.int 1))))
    (sSeq (sSub (eVar 3) (eVar 0) (eC (.int 2)))
    (sSeq (sAsg (.nm 4) (e2 modD (e2 addD (e2 addD (e2 ixD (eVar 0) (eC (.int 1))) (e2 mulD (e2 mulD (eC (.int 40692)) (eVar 3)) (eVar 3))) (e2 mulD (eC (.int 69621)) (eVar 3))) (eC (.int 2147483647))))
    (sSeq (sAsg (.nm 4) (e2 modD (e2 addD (e2 addD (e2 mulD (eVar 4) (eVar 4)) (e2 mulD (eC (.int 39373)) (eVar 4))) (eVar 3)) (eC (.int 2147483579))))
    (sSeq (sAsg (.nm 4) (e2 modD (e2 addD (e2 mulD (eVar 4) (eVar 4)) (e2 mulD (eC (.int 16807)) (eVar 4))) (eC (.int 2147483549))))
    (sSeq (sRet (e2 modD (e2 fdivD (eVar 4) (eC (.int 64))) (eVar 1)))
    (sNil)))))))
def b__law_thing (Φ : Fam) : DS :=
  sSeq (sAsg (.nm 2) (eCall (Φ i__law_take) (aCons (eVar 0) (aCons (eC (.int 16)) (aNil)))))
    (sSeq (sIf (tstB (e2 ltQ (eVar 2) (eC (.int 6)))) (sSeq (sRet (e2 ixD (eEv (lDisp (aCons (eC (.int 0)) (aCons (eC (.int 1)) (aCons (eC (.int 2)) (aCons (eC (.int 3)) (aCons (e1 negD (eC (.int 1))) (aCons (e2 powD (eC (.int 10)) (eC (.int 30))) (aNil))))))))) (eCall (Φ i__law_take) (aCons (eVar 0) (aCons (eC (.int 6)) (aNil))))))
    (sNil)) (sNil))
    (sSeq (sIf (tstB (e2 ltQ (eVar 2) (eC (.int 9)))) (sSeq (sRet (e2 ixD (eEv (lDisp (aCons (eC (.str "")) (aCons (eC (.str "a")) (aCons (eC (.str "A")) (aCons (eC (.str "ab")) (aCons (eC (.str "b")) (aCons (eC (.str "to")) (aCons (eC (.str "none")) (aCons (eC (.str "\"\\(,")) (aNil))))))))))) (eCall (Φ i__law_take) (aCons (eVar 0) (aCons (eC (.int 8)) (aNil))))))
    (sNil)) (sNil))
    (sSeq (sIf (tstB (e2 ltQ (eVar 2) (eC (.int 12)))) (sSeq (sRet (e2 ixD (eEv (lDisp (aCons (eC .non) (aCons (eC (.bl false)) (aCons (eC (.bl true)) (aNil)))))) (e2 subD (eVar 2) (eC (.int 9)))))
    (sNil)) (sNil))
    (sSeq (sIf (bOr (tstB (e2 ltQ (eVar 2) (eC (.int 14)))) (tstB (e2 ltQ (eVar 1) (eC (.int 2))))) (sSeq (sRet (e2 subD (eCall (Φ i__law_take) (aCons (eVar 0) (aCons (eC (.int 40)) (aNil)))) (eC (.int 20))))
    (sNil)) (sNil))
    (sSeq (sRet (eCall tupleL (lComp [3] (.nm 3) (iRange1 (aCons (eCall (Φ i__law_take) (aCons (eVar 0) (aCons (eC (.int 4)) (aNil)))) (aNil))) (cYes) (eCall (Φ i__law_thing) (aCons (eVar 0) (aCons (e2 subD (eVar 1) (eC (.int 1))) (aNil)))))))
    (sNil))))))
def b__law_signs (Φ : Fam) : DS :=
  sSeq (sAsg (.nm 2) (eC (.str " !\"#$&'()*+,-./0123456789:;<=>?@ABCDEFGHIJKLMNOPQRSTUVWXYZ[\\]^_`abcdefghijklmnopqrstuvwxyz{|}~")))
    (sSeq (sAsg (.nm 3) (e2 ixD (eEv (lDisp (aCons (eC (.int 0)) (aCons (eC (.int 1)) (aCons (eC (.int 2)) (aCons (eVar 1) (aCons (eCall (Φ i__law_take) (aCons (eVar 0) (aCons (e2 addD (eVar 1) (eC (.int 1))) (aNil)))) (aNil)))))))) (eCall (Φ i__law_take) (aCons (eVar 0) (aCons (eC (.int 5)) (aNil))))))
    (sSeq (sRet (eMt "str" joinL (eC (.str "")) (lComp [4] (.nm 4) (iRange1 (aCons (eVar 3) (aNil))) (cYes) (e2 ixD (eVar 2) (eCall (Φ i__law_take) (aCons (eVar 0) (aCons (eCall lenB (aCons (eVar 2) (aNil))) (aNil))))))))
    (sNil)))
def b__law_full (Φ : Fam) : DS :=
  sSeq (sAsg (.nm 2) (eCall (Φ i__law_take) (aCons (eVar 0) (aCons (eC (.int 8)) (aNil)))))
    (sSeq (sIf (bOr (tstB (e2 ltQ (eVar 2) (eC (.int 3)))) (bAnd (tstB (e2 gtD (eVar 2) (eC (.int 5)))) (tstB (e2 eqD (eVar 1) (eC (.int 0)))))) (sSeq (sAsg (.nm 3) (eCall (Φ i__law_take) (aCons (eVar 0) (aCons (e2 powD (eC (.int 10)) (eC (.int 6))) (aNil)))))
    (sSeq (sRet (e2 ixD (eEv (lDisp (aCons (eC (.int 0)) (aCons (eC (.int 1)) (aCons (e1 negD (eC (.int 1))) (aCons (eVar 3) (aCons (e2 subD (eC (.int 0)) (eVar 3)) (aCons (e2 subD (e2 powD (eC (.int 10)) (eC (.int 60))) (eC (.int 1))) (aCons (e2 subD (eC (.int 1)) (e2 powD (eC (.int 10)) (eC (.int 60)))) (aCons (e2 mulD (eVar 3) (e2 powD (eC (.int 10)) (eC (.int 20)))) (aNil))))))))))) (eCall (Φ i__law_take) (aCons (eVar 0) (aCons (eC (.int 8)) (aNil))))))
    (sNil))) (sNil))
    (sSeq (sIf (tstB (e2 ltQ (eVar 2) (eC (.int 5)))) (sSeq (sRet (eCall (Φ i__law_signs) (aCons (eVar 0) (aCons (eC (.int 40)) (aNil)))))
    (sNil)) (sNil))
    (sSeq (sIf (tstB (e2 eqD (eVar 2) (eC (.int 5)))) (sSeq (sRet (e2 ixD (eEv (lDisp (aCons (eC .non) (aCons (eC (.bl false)) (aCons (eC (.bl true)) (aNil)))))) (eCall (Φ i__law_take) (aCons (eVar 0) (aCons (eC (.int 3)) (aNil))))))
    (sNil)) (sNil))
    (sSeq (sAsg (.nm 4) (e2 ixD (eEv (lDisp (aCons (eC (.int 0)) (aCons (eC (.int 1)) (aCons (eC (.int 2)) (aCons (eC (.int 3)) (aCons (eC (.int 2)) (aCons (eC (.int 6)) (aNil))))))))) (eCall (Φ i__law_take) (aCons (eVar 0) (aCons (e2 ixD (eEv (lDisp (aCons (eC (.int 5)) (aCons (eC (.int 6)) (aNil))))) (eCall intB (aCons (e2 eqD (eVar 1) (eC (.int 4))) (aNil)))) (aNil))))))
    (sSeq (sAsg (.nm 5) (eCall tupleL (lComp [6] (.nm 6) (iRange1 (aCons (eVar 4) (aNil))) (cYes) (eCall (Φ i__law_full) (aCons (eVar 0) (aCons (e2 subD (eVar 1) (eC (.int 1))) (aNil)))))))
    (sSeq (sRet (eCall (Φ i__law_fit) (aCons (eVar 5) (aNil))))
    (sNil)))))))
def L1__law_fit (Φ : Fam) : DS :=
  sSeq (sAsg (.nm 0) (eSl (eVar 0) eNo (ePart (e1 negD (eC (.int 1))))))
    (sNil)
def b__law_fit (Φ : Fam) : DS :=
  sSeq (sWhile FUEL (tstB (e2 gtD (eCall (Φ i__law_many_within) (aCons (eVar 0) (aNil))) (eC (.int 40)))) (L1__law_fit Φ))
    (sSeq (sRet (eVar 0))
    (sNil))
def b__law_many_within (Φ : Fam) : DS :=
  sSeq (sIf (bNot (tst (e1 (isiD .tuple) (eVar 0)))) (sSeq (sRet (eC (.int 0)))
    (sNil)) (sNil))
    (sSeq (sRet (eCall sumL (lComp [1] (.nm 1) (iVal (eVar 0)) (cYes) (e2 addD (eC (.int 1)) (eCall (Φ i__law_many_within) (aCons (eVar 1) (aNil)))))))
    (sNil))
def b__law_sort (Φ : Fam) : DS :=
  sSeq (sIf (tstB (e2 isD (eVar 0) (eC .non))) (sSeq (sRet (eC (.int 0)))
    (sNil)) (sNil))
    (sSeq (sAsg (.nm 1) (eLst (aCons (e1 (isiD .bool) (eVar 0)) (aCons (e1 (isiD .int) (eVar 0)) (aCons (e1 (isiD .str) (eVar 0)) (aCons (e1 (isiD .tuple) (eVar 0)) (aNil)))))))
    (sSeq (sRet (e2 addD (eC (.int 1)) (eAlt (eMt "list" indexM (eVar 1) (aCons (eC (.bl true)) (aNil))) (eMt "str" sindexM (eVar 1) (aCons (eC (.bl true)) (aNil))))))
    (sNil)))
def L1__law_order (Φ : Fam) : DS :=
  sSeq (sAsg (.nm 6) (eCall (Φ i__law_order) (aCons (eVar 4) (aCons (eVar 5) (aNil)))))
    (sSeq (sIf (tstB (e2 neD (eVar 6) (eC (.int 0)))) (sSeq (sRet (eVar 6))
    (sNil)) (sNil))
    (sNil))
def b__law_order (Φ : Fam) : DS :=
  sSeq (sPar 2 3 (aCons (eCall (Φ i__law_sort) (aCons (eVar 0) (aNil))) (aCons (eCall (Φ i__law_sort) (aCons (eVar 1) (aNil))) (aNil))))
    (sSeq (sIf (tstB (e2 neD (eVar 2) (eVar 3))) (sSeq (sRet (e2 ixD (eEv (lDisp (aCons (eC (.int 1)) (aCons (e1 negD (eC (.int 1))) (aNil))))) (eCall intB (aCons (e2 ltQ (eVar 2) (eVar 3)) (aNil)))))
    (sNil)) (sNil))
    (sSeq (sIf (tst (e1 (isiD .tuple) (eVar 0))) (sSeq (sFor (.tp [4, 5]) (iZip' (aCons (eVar 0) (aCons (eVar 1) (aNil)))) (L1__law_order Φ))
    (sSeq (sRet (eCall (Φ i__law_order) (aCons (eCall lenB (aCons (eVar 0) (aNil))) (aCons (eCall lenB (aCons (eVar 1) (aNil))) (aNil)))))
    (sNil))) (sNil))
    (sSeq (sIf (bOr (tstB (e2 isD (eVar 0) (eC .non))) (tstB (e2 eqD (eVar 0) (eVar 1)))) (sSeq (sRet (eC (.int 0)))
    (sNil)) (sNil))
    (sSeq (sRet (e2 ixD (eEv (lDisp (aCons (eC (.int 1)) (aCons (e1 negD (eC (.int 1))) (aNil))))) (eCall intB (aCons (e2 ltQ (eVar 0) (eVar 1)) (aNil)))))
    (sNil)))))
def b__law_near (Φ : Fam) : DS :=
  sSeq (sAsg (.nm 2) (eCall (Φ i__law_take) (aCons (eVar 0) (aCons (eC (.int 6)) (aNil)))))
    (sSeq (sIf (tst (e1 (isiD .tuple) (eVar 1))) (sSeq (sAsg (.nm 3) (eCall (Φ i__law_take) (aCons (eVar 0) (aCons (e2 addD (eCall lenB (aCons (eVar 1) (aNil))) (eC (.int 1))) (aNil)))))
    (sSeq (sIf (bOr (tstB (e2 eqD (eVar 2) (eC (.int 0)))) (tstB (e2 eqD (eVar 3) (eCall lenB (aCons (eVar 1) (aNil)))))) (sSeq (sRet (e2 ixD (eEv (lDisp (aCons (eSl (eVar 1) eNo (ePart (e1 negD (eC (.int 1))))) (aCons (eSl (e2 addD (eVar 1) (eTup (aCons (eC .non) (aNil)))) eNo (ePart (eC (.int 6)))) (aCons (eVar 1) (aNil)))))) (eCall (Φ i__law_take) (aCons (eVar 0) (aCons (eC (.int 3)) (aNil))))))
    (sNil)) (sNil))
    (sSeq (sRet (e2 addD (e2 addD (eSl (eVar 1) eNo (ePart (eVar 3))) (eTup (aCons (eCall (Φ i__law_near) (aCons (eVar 0) (aCons (e2 ixD (eVar 1) (eVar 3)) (aNil)))) (aNil)))) (eSl (eVar 1) (ePart (e2 addD (eVar 3) (eC (.int 1)))) eNo)))
    (sNil)))) (sNil))
    (sSeq (sIf (tst (e1 (isiD .str) (eVar 1))) (sSeq (sRet (e2 ixD (eEv (lDisp (aCons (eSl (eVar 1) eNo (ePart (e1 negD (eC (.int 1))))) (aCons (eSl (e2 addD (eVar 1) (eC (.str " "))) eNo (ePart (eC (.int 40)))) (aCons (eSl (e2 addD (eVar 1) (eC (.str "~"))) eNo (ePart (eC (.int 40)))) (aCons (eMt0 "str" upperM (eVar 1)) (aCons (eMt0 "str" lowerM (eVar 1)) (aCons (eVar 1) (aNil))))))))) (eVar 2)))
    (sNil)) (sNil))
    (sSeq (sIf (tst (e1 (isiD .int) (eVar 1))) (sSeq (sRet (e2 ixD (eEv (lDisp (aCons (eCall intB (aCons (eVar 1) (aNil))) (aCons (e2 eqD (eVar 1) (eC (.int 1))) (aCons (eSl (eCall strB (aCons (eVar 1) (aNil))) eNo (ePart (eC (.int 40)))) (aCons (e2 subD (eC (.int 0)) (eCall intB (aCons (eVar 1) (aNil)))) (aCons (e2 fdivD (eCall intB (aCons (eVar 1) (aNil))) (eC (.int 10))) (aCons (eVar 1) (aNil))))))))) (eVar 2)))
    (sNil)) (sNil))
    (sSeq (sRet (e2 ixD (eEv (lDisp (aCons (eC (.int 0)) (aCons (eC (.bl false)) (aCons (eC (.str "")) (aCons (eTup (aNil)) (aCons (eC (.str "none")) (aCons (eC .non) (aNil))))))))) (eVar 2)))
    (sNil)))))
def b__law_taken_for (Φ : Fam) : DS :=
  sSeq (sIf (tst (e1 (isiD .tuple) (eVar 1))) (sSeq (sRet (eCall tupleL (lComp [2] (.nm 2) (iVal (eVar 1)) (cYes) (eCall (Φ i__law_taken_for) (aCons (eVar 0) (aCons (eVar 2) (aNil)))))))
    (sNil)) (sNil))
    (sSeq (sIf (bAnd (tstB (e2 eqD (eVar 0) (eC (.str "wide")))) (tst (e1 (isiD .bool) (eVar 1)))) (sSeq (sRet (eCall intB (aCons (eVar 1) (aNil))))
    (sNil)) (sNil))
    (sSeq (sIf (bAnd (tstB (e2 eqD (eVar 0) (eC (.str "folded")))) (tst (e1 (isiD .str) (eVar 1)))) (sSeq (sRet (eMt "str" joinL (eC (.str "")) (lComp [3] (.nm 3) (iVal (eVar 1)) (cYes) (e2 ixD (e2 addD (eC (.str "abcdefghijklmnopqrstuvwxyz")) (eVar 3)) (eCall (Φ i__law_great) (aCons (eVar 3) (aNil)))))))
    (sNil)) (sNil))
    (sSeq (sRet (eVar 1))
    (sNil))))
def b__law_great (Φ : Fam) : DS :=
  sSeq (sRet (eAlt (eMt "list" indexM (e2 addD (eC (.str "ABCDEFGHIJKLMNOPQRSTUVWXYZ")) (eVar 0)) (aCons (eVar 0) (aNil))) (eMt "str" sindexM (e2 addD (eC (.str "ABCDEFGHIJKLMNOPQRSTUVWXYZ")) (eVar 0)) (aCons (eVar 0) (aNil)))))
    (sNil)
def K1__law_right (Φ : Fam) : DS :=
  sSeq (sAsg (.nm 10) (e2 mulD (eEv (lDisp (aCons (eCall reprB (aCons (e2 eqD (eVar 9) (eC (.int 0))) (aNil))) (aCons (eCall reprB (aCons (e2 ltQ (eVar 9) (eC (.int 0))) (aNil))) (aNil))))) (eC (.int 2))))
    (sSeq (sAsg (.nm 11) (eLst (aCons (eCall reprB (aCons (eMeth tb_is_like_2 "is_like" Φ (eVar 2) (aCons (eVar 6) (aCons (eVar 8) (aNil)))) (aNil))) (aCons (eCall reprB (aCons (eMeth tb_is_less_2 "is_less" Φ (eVar 2) (aCons (eVar 6) (aCons (eVar 8) (aNil)))) (aNil))) (aNil)))))
    (sSeq (sExpr (eMt "list" appendM (eVar 11) (aCons (eCall reprB (aCons (eMeth tb_is_like_2 "is_like" Φ (eVar 2) (aCons (eVar 6) (aCons (eVar 8) (aNil)))) (aNil))) (aNil))))
    (sSeq (sExpr (eMt "list" appendM (eVar 11) (aCons (eCall reprB (aCons (eMeth tb_is_less_2 "is_less" Φ (eVar 2) (aCons (eVar 6) (aCons (eVar 8) (aNil)))) (aNil))) (aNil))))
    (sSeq (sIf (bOr (tstB (e2 neD (eVar 11) (eVar 10))) (bAnd (tstB (e2 eqD (eVar 9) (eC (.int 0)))) (tstB (e2 neD (e2 ixD (eVar 4) (eVar 5)) (e2 ixD (eVar 4) (eVar 7)))))) (sSeq (sRet (eC (.bl false)))
    (sNil)) (sNil))
    (sNil)))))
def L1__law_right (Φ : Fam) : DS :=
  sSeq (sAsg (.nm 9) (eCall (Φ i__law_order) (aCons (e2 ixD (eVar 3) (eVar 5)) (aCons (e2 ixD (eVar 3) (eVar 7)) (aNil)))))
    (sSeq (sIf (tstB (e2 eqD (eVar 0) (eC (.str "turned")))) (sSeq (sAsg (.nm 9) (e2 subD (eC (.int 0)) (eVar 9)))
    (sNil)) (sNil))
    (K1__law_right Φ))
def L2__law_right (Φ : Fam) : DS :=
  sSeq (sFor (.tp [7, 8]) (iEnum' (eVar 1)) (L1__law_right Φ))
    (sNil)
def b__law_right (Φ : Fam) : DS :=
  sSeq (sAsg (.nm 2) (eCall (Φ i_manner_of) (aCons (eVar 0) (aNil))))
    (sSeq (sAsg (.nm 3) (eNew (lComp [12] (.nm 12) (iVal (eVar 1)) (cYes) (eCall (Φ i__law_taken_for) (aCons (eVar 0) (aCons (eVar 12) (aNil)))))))
    (sSeq (sAsg (.nm 4) (eNew (lComp [12] (.nm 12) (iVal (eVar 1)) (cYes) (eMeth tb_digest_of_1 "digest_of" Φ (eVar 2) (aCons (eVar 12) (aNil))))))
    (sSeq (sIf (tstB (e2 neD (eEv (lComp [6] (.nm 6) (iVal (eVar 4)) (bOr (bNot (tst (e1 (isiD .int) (eVar 6)))) (tst (e1 (isiD .bool) (eVar 6)))) (eVar 6))) (eEv (lDisp (aNil))))) (sSeq (sRet (eC (.bl false)))
    (sNil)) (sNil))
    (sSeq (sFor (.tp [5, 6]) (iEnum' (eVar 1)) (L2__law_right Φ))
    (sSeq (sRet (e2 eqD (eEv (lComp [12] (.nm 12) (iVal (eVar 1)) (cYes) (eMeth tb_digest_of_1 "digest_of" Φ (eVar 2) (aCons (eVar 12) (aNil))))) (eVar 4)))
    (sNil))))))
def L1_law (Φ : Fam) : DS :=
  sSeq (sIf (bNot (tst (eCall (Φ i__law_right) (aCons (eVar 5) (aCons (eVar 3) (aNil)))))) (sSeq (sRet (eC (.bl false)))
    (sNil)) (sNil))
    (sNil)
def E1_law (Φ : Fam) : DE :=
  e2 ixD (eEv (lDisp (aCons (eCall (Φ i__law_full) (aCons (eVar 2) (aCons (eC (.int 3)) (aNil)))) (aCons (eCall (Φ i__law_thing) (aCons (eVar 2) (aCons (eC (.int 4)) (aNil)))) (aNil))))) (eCall (Φ i__law_take) (aCons (eVar 2) (aCons (eC (.int 2)) (aNil))))
def L2_law (Φ : Fam) : DS :=
  sSeq (sAsg (.nm 2) (eCall (Φ i__law_feed) (aCons (eVar 0) (aCons (eVar 1) (aNil)))))
    (sSeq (sAsg (.nm 3) (eNew (lComp [6] (.nm 6) (iRange1 (aCons (eC (.int 4)) (aNil))) (cYes) (E1_law Φ))))
    (sSeq (sAsg (.nm 3) (e2 addD (eVar 3) (eEv (lComp [7] (.nm 7) (iVal (eVar 3)) (cYes) (eCall (Φ i__law_near) (aCons (eVar 2) (aCons (eVar 7) (aNil))))))))
    (sSeq (sAsg (.nm 4) (eCall reprB (aCons (eVar 3) (aNil))))
    (sSeq (sFor (.nm 5) (iVal (eTup (aCons (eC (.str "plain")) (aCons (eC (.str "wide")) (aCons (eC (.str "turned")) (aCons (eC (.str "folded")) (aCons (eC (.str "plain")) (aNil)))))))) (L1_law Φ))
    (sSeq (sIf (tstB (e2 neD (eCall reprB (aCons (eVar 3) (aNil))) (eVar 4))) (sSeq (sRet (eC (.bl false)))
    (sNil)) (sNil))
    (sNil))))))
def b_law (Φ : Fam) : DS :=
  sSeq (sFor (.nm 1) (iRange1 (aCons (eC (.int 5)) (aNil))) (L2_law Φ))
    (sSeq (sIf (bNot (tst (eCall (Φ i__law_right) (aCons (eC (.str "folded")) (aCons (eLst (aCons (eC (.str "_")) (aCons (eC (.str "a")) (aCons (eC (.str "A")) (aCons (eC (.str "Z")) (aCons (eC (.str "z")) (aCons (eC (.str "[")) (aCons (eTup (aCons (eC (.str "A")) (aCons (eTup (aCons (eC (.str "_")) (aNil))) (aNil)))) (aCons (eTup (aCons (eC (.str "a")) (aCons (eTup (aCons (eC (.str "Z")) (aNil))) (aNil)))) (aNil)))))))))) (aNil)))))) (sSeq (sRet (eC (.bl false)))
    (sNil)) (sNil))
    (sSeq (sRet (eCall (Φ i__law_right) (aCons (eC (.str "wide")) (aCons (eLst (aCons (eTup (aCons (eTup (aCons (eC (.bl true)) (aNil))) (aNil))) (aCons (eTup (aCons (eTup (aCons (eC (.int 1)) (aNil))) (aNil))) (aCons (eTup (aCons (eTup (aCons (eTup (aCons (eC (.int 0)) (aNil))) (aCons (eC (.bl true)) (aNil)))) (aNil))) (aCons (eTup (aCons (eTup (aCons (eTup (aCons (eC (.bl false)) (aNil))) (aCons (eC (.int 1)) (aNil)))) (aNil))) (aCons (eTup (aCons (eTup (aCons (eC (.int 2)) (aNil))) (aNil))) (aNil))))))) (aNil)))))
    (sNil)))
def prog (Φ : Fam) : Fam := fun f => match f with
  | 0 => runB 1 (b_sort_of Φ)
  | 1 => runB 2 (b_rank_of Φ)
  | 2 => runB 2 (b_plain_like Φ)
  | 3 => runB 2 (b_plain_less Φ)
  | 4 => runB 2 (b_stirred_on Φ)
  | 5 => runB 3 (b_plain_digest Φ)
  | 6 => runB 4 (b_Manner____init__ Φ)
  | 7 => runB 4 (b_Manner__is_like Φ)
  | 8 => runB 4 (b_Manner__is_less Φ)
  | 9 => runB 3 (b_Manner__digest_of Φ)
  | 10 => runB 2 (b_widened Φ)
  | 11 => runB 2 (b_folded Φ)
  | 12 => runB 2 (b_wide_like Φ)
  | 13 => runB 2 (b_wide_less Φ)
  | 14 => runB 1 (b_wide_digest Φ)
  | 15 => runB 2 (b_turned_less Φ)
  | 16 => runB 2 (b_folded_like Φ)
  | 17 => runB 2 (b_folded_less Φ)
  | 18 => runB 1 (b_folded_digest Φ)
  | 19 => runB 1 (b_manner_of Φ)
  | 20 => runB 4 (b__law_feed Φ)
  | 21 => runB 5 (b__law_take Φ)
  | 22 => runB 4 (b__law_thing Φ)
  | 23 => runB 5 (b__law_signs Φ)
  | 24 => runB 7 (b__law_full Φ)
  | 25 => runB 1 (b__law_fit Φ)
  | 26 => runB 2 (b__law_many_within Φ)
  | 27 => runB 2 (b__law_sort Φ)
  | 28 => runB 7 (b__law_order Φ)
  | 29 => runB 4 (b__law_near Φ)
  | 30 => runB 4 (b__law_taken_for Φ)
  | 31 => runB 1 (b__law_great Φ)
  | 32 => runB 13 (b__law_right Φ)
  | 33 => runB 8 (b_law Φ)
  | _ => fun _ _ => .stuck
theorem prog_sort_of (Φ : Fam) : prog Φ i_sort_of = runB 1 (b_sort_of Φ) := rfl
theorem prog_rank_of (Φ : Fam) : prog Φ i_rank_of = runB 2 (b_rank_of Φ) := rfl
theorem prog_plain_like (Φ : Fam) : prog Φ i_plain_like = runB 2 (b_plain_like Φ) := rfl
theorem prog_plain_less (Φ : Fam) : prog Φ i_plain_less = runB 2 (b_plain_less Φ) := rfl
theorem prog_stirred_on (Φ : Fam) : prog Φ i_stirred_on = runB 2 (b_stirred_on Φ) := rfl
theorem prog_plain_digest (Φ : Fam) : prog Φ i_plain_digest = runB 3 (b_plain_digest Φ) := rfl
theorem prog_Manner____init__ (Φ : Fam) : prog Φ i_Manner____init__ = runB 4 (b_Manner____init__ Φ) := rfl
theorem prog_Manner__is_like (Φ : Fam) : prog Φ i_Manner__is_like = runB 4 (b_Manner__is_like Φ) := rfl
theorem prog_Manner__is_less (Φ : Fam) : prog Φ i_Manner__is_less = runB 4 (b_Manner__is_less Φ) := rfl
theorem prog_Manner__digest_of (Φ : Fam) : prog Φ i_Manner__digest_of = runB 3 (b_Manner__digest_of Φ) := rfl
theorem prog_widened (Φ : Fam) : prog Φ i_widened = runB 2 (b_widened Φ) := rfl
theorem prog_folded (Φ : Fam) : prog Φ i_folded = runB 2 (b_folded Φ) := rfl
theorem prog_wide_like (Φ : Fam) : prog Φ i_wide_like = runB 2 (b_wide_like Φ) := rfl
theorem prog_wide_less (Φ : Fam) : prog Φ i_wide_less = runB 2 (b_wide_less Φ) := rfl
theorem prog_wide_digest (Φ : Fam) : prog Φ i_wide_digest = runB 1 (b_wide_digest Φ) := rfl
theorem prog_turned_less (Φ : Fam) : prog Φ i_turned_less = runB 2 (b_turned_less Φ) := rfl
theorem prog_folded_like (Φ : Fam) : prog Φ i_folded_like = runB 2 (b_folded_like Φ) := rfl
theorem prog_folded_less (Φ : Fam) : prog Φ i_folded_less = runB 2 (b_folded_less Φ) := rfl
theorem prog_folded_digest (Φ : Fam) : prog Φ i_folded_digest = runB 1 (b_folded_digest Φ) := rfl
theorem prog_manner_of (Φ : Fam) : prog Φ i_manner_of = runB 1 (b_manner_of Φ) := rfl
theorem prog__law_feed (Φ : Fam) : prog Φ i__law_feed = runB 4 (b__law_feed Φ) := rfl
theorem prog__law_take (Φ : Fam) : prog Φ i__law_take = runB 5 (b__law_take Φ) := rfl
theorem prog__law_thing (Φ : Fam) : prog Φ i__law_thing = runB 4 (b__law_thing Φ) := rfl
theorem prog__law_signs (Φ : Fam) : prog Φ i__law_signs = runB 5 (b__law_signs Φ) := rfl
theorem prog__law_full (Φ : Fam) : prog Φ i__law_full = runB 7 (b__law_full Φ) := rfl
theorem prog__law_fit (Φ : Fam) : prog Φ i__law_fit = runB 1 (b__law_fit Φ) := rfl
theorem prog__law_many_within (Φ : Fam) : prog Φ i__law_many_within = runB 2 (b__law_many_within Φ) := rfl
theorem prog__law_sort (Φ : Fam) : prog Φ i__law_sort = runB 2 (b__law_sort Φ) := rfl
theorem prog__law_order (Φ : Fam) : prog Φ i__law_order = runB 7 (b__law_order Φ) := rfl
theorem prog__law_near (Φ : Fam) : prog Φ i__law_near = runB 4 (b__law_near Φ) := rfl
theorem prog__law_taken_for (Φ : Fam) : prog Φ i__law_taken_for = runB 4 (b__law_taken_for Φ) := rfl
theorem prog__law_great (Φ : Fam) : prog Φ i__law_great = runB 1 (b__law_great Φ) := rfl
theorem prog__law_right (Φ : Fam) : prog Φ i__law_right = runB 13 (b__law_right Φ) := rfl
theorem prog_law (Φ : Fam) : prog Φ i_law = runB 8 (b_law Φ) := rfl
theorem Phi_sort_of (n : Nat) : Phi prog (n + 1) i_sort_of = runB 1 (b_sort_of (Phi prog n)) := rfl
theorem Phi_rank_of (n : Nat) : Phi prog (n + 1) i_rank_of = runB 2 (b_rank_of (Phi prog n)) := rfl
theorem Phi_plain_like (n : Nat) : Phi prog (n + 1) i_plain_like = runB 2 (b_plain_like (Phi prog n)) := rfl
theorem Phi_plain_less (n : Nat) : Phi prog (n + 1) i_plain_less = runB 2 (b_plain_less (Phi prog n)) := rfl
theorem Phi_stirred_on (n : Nat) : Phi prog (n + 1) i_stirred_on = runB 2 (b_stirred_on (Phi prog n)) := rfl
theorem Phi_plain_digest (n : Nat) : Phi prog (n + 1) i_plain_digest = runB 3 (b_plain_digest (Phi prog n)) := rfl
theorem Phi_Manner____init__ (n : Nat) : Phi prog (n + 1) i_Manner____init__ = runB 4 (b_Manner____init__ (Phi prog n)) := rfl
theorem Phi_Manner__is_like (n : Nat) : Phi prog (n + 1) i_Manner__is_like = runB 4 (b_Manner__is_like (Phi prog n)) := rfl
theorem Phi_Manner__is_less (n : Nat) : Phi prog (n + 1) i_Manner__is_less = runB 4 (b_Manner__is_less (Phi prog n)) := rfl
theorem Phi_Manner__digest_of (n : Nat) : Phi prog (n + 1) i_Manner__digest_of = runB 3 (b_Manner__digest_of (Phi prog n)) := rfl
theorem Phi_widened (n : Nat) : Phi prog (n + 1) i_widened = runB 2 (b_widened (Phi prog n)) := rfl
theorem Phi_folded (n : Nat) : Phi prog (n + 1) i_folded = runB 2 (b_folded (Phi prog n)) := rfl
theorem Phi_wide_like (n : Nat) : Phi prog (n + 1) i_wide_like = runB 2 (b_wide_like (Phi prog n)) := rfl
theorem Phi_wide_less (n : Nat) : Phi prog (n + 1) i_wide_less = runB 2 (b_wide_less (Phi prog n)) := rfl
theorem Phi_wide_digest (n : Nat) : Phi prog (n + 1) i_wide_digest = runB 1 (b_wide_digest (Phi prog n)) := rfl
theorem Phi_turned_less (n : Nat) : Phi prog (n + 1) i_turned_less = runB 2 (b_turned_less (Phi prog n)) := rfl
theorem Phi_folded_like (n : Nat) : Phi prog (n + 1) i_folded_like = runB 2 (b_folded_like (Phi prog n)) := rfl
theorem Phi_folded_less (n : Nat) : Phi prog (n + 1) i_folded_less = runB 2 (b_folded_less (Phi prog n)) := rfl
theorem Phi_folded_digest (n : Nat) : Phi prog (n + 1) i_folded_digest = runB 1 (b_folded_digest (Phi prog n)) := rfl
theorem Phi_manner_of (n : Nat) : Phi prog (n + 1) i_manner_of = runB 1 (b_manner_of (Phi prog n)) := rfl
theorem Phi__law_feed (n : Nat) : Phi prog (n + 1) i__law_feed = runB 4 (b__law_feed (Phi prog n)) := rfl
theorem Phi__law_take (n : Nat) : Phi prog (n + 1) i__law_take = runB 5 (b__law_take (Phi prog n)) := rfl
theorem Phi__law_thing (n : Nat) : Phi prog (n + 1) i__law_thing = runB 4 (b__law_thing (Phi prog n)) := rfl
theorem Phi__law_signs (n : Nat) : Phi prog (n + 1) i__law_signs = runB 5 (b__law_signs (Phi prog n)) := rfl
theorem Phi__law_full (n : Nat) : Phi prog (n + 1) i__law_full = runB 7 (b__law_full (Phi prog n)) := rfl
theorem Phi__law_fit (n : Nat) : Phi prog (n + 1) i__law_fit = runB 1 (b__law_fit (Phi prog n)) := rfl
theorem Phi__law_many_within (n : Nat) : Phi prog (n + 1) i__law_many_within = runB 2 (b__law_many_within (Phi prog n)) := rfl
theorem Phi__law_sort (n : Nat) : Phi prog (n + 1) i__law_sort = runB 2 (b__law_sort (Phi prog n)) := rfl
theorem Phi__law_order (n : Nat) : Phi prog (n + 1) i__law_order = runB 7 (b__law_order (Phi prog n)) := rfl
theorem Phi__law_near (n : Nat) : Phi prog (n + 1) i__law_near = runB 4 (b__law_near (Phi prog n)) := rfl
theorem Phi__law_taken_for (n : Nat) : Phi prog (n + 1) i__law_taken_for = runB 4 (b__law_taken_for (Phi prog n)) := rfl
theorem Phi__law_great (n : Nat) : Phi prog (n + 1) i__law_great = runB 1 (b__law_great (Phi prog n)) := rfl
theorem Phi__law_right (n : Nat) : Phi prog (n + 1) i__law_right = runB 13 (b__law_right (Phi prog n)) := rfl
theorem Phi_law (n : Nat) : Phi prog (n + 1) i_law = runB 8 (b_law (Phi prog n)) := rfl
end Mi

namespace Mi
open PySem L2
theorem at_set {st : Sto} {n : Nat} {o : Ob} : (st.set n o)[n]? = st[n]?.map fun _ => o := by
  rw [List.getElem?_set]
  simp
  by_cases h : n < st.length <;> simp [h]
/-- what is drawn -/
def mix (M C : Int) : Int :=
  let a := (M + 40692 * (C + 1) * (C + 1) + 69621 * (C + 1)) % 2147483647
  let b := (a * a + 39373 * a + (C + 1)) % 2147483579
  (b * b + 16807 * b) % 2147483549
/-- a feed stands at r, from which at most C was counted -/
def Fd (r : Nat) (C : Int) (st : Sto) : Prop := ∃ G M K : Int, st[r]? = some (.lst [.int G, .int M, .int K]) ∧ 0 ≤ G ∧ 0 ≤ K ∧ K ≤ C
/-- all but r stays -/
def Sm (r : Nat) (st st' : Sto) : Prop := st'.length = st.length ∧ ∀ m, m ≠ r → st'[m]? = st[m]?
theorem Sm.refl {r : Nat} {st : Sto} : Sm r st st := ⟨rfl, fun _ _ => rfl⟩
theorem Sm.trans {r : Nat} {a b c : Sto} (h : Sm r a b) (k : Sm r b c) : Sm r a c := ⟨k.1.trans h.1, fun m hm => (k.2 m hm).trans (h.2 m hm)⟩
theorem Sm.set {r : Nat} {st : Sto} {o : Ob} : Sm r st (st.set r o) := ⟨by simp, fun m hm => by rw [List.getElem?_set_ne (Ne.symm hm)]⟩
/-- what a drawing tells, and leaves -/
def Dr (r : Nat) (C : Int) (b : Int) (P : D → Prop) (st : Sto) (x : R D) : Prop := ∃ d st', x = .ok d st' ∧ P d ∧ Fd r (C + b) st' ∧ Sm r st st'

/-! ### things -/
def asc (x : Str) : Prop := ∀ c ∈ x.cps.toList, c < 128
mutual
def Th : D → Prop
  | .non => True
  | .bl _ => True
  | .int i => i.natAbs < 2 ^ 240
  | .str x => asc x ∧ x.length ≤ 100
  | .tup ds => Ths ds
  | _ => False
def Ths : List D → Prop
  | [] => True
  | d :: ds => Th d ∧ Ths ds
end
mutual
def sz : D → Nat
  | .tup ds => 1 + szs ds
  | .str x => 1 + x.length
  | _ => 1
def szs : List D → Nat
  | [] => 0
  | d :: ds => sz d + szs ds
end
mutual
def dp' : D → Nat
  | .tup ds => 1 + dps' ds
  | _ => 0
def dps' : List D → Nat
  | [] => 0
  | d :: ds => max (dp' d) (dps' ds)
end
/-- a thing that is not too great -/
structure Gt (s e : Nat) (d : D) : Prop where
  th : Th d
  sz : sz d ≤ s
  dp : dp' d ≤ e
theorem Gt.mono {s e s' e' : Nat} {d : D} (h : Gt s e d) (hs : s ≤ s') (he : e ≤ e') : Gt s' e' d := ⟨h.th, Nat.le_trans h.sz hs, Nat.le_trans h.dp he⟩
theorem Ths.mem : ∀ {ds : List D}, Ths ds → ∀ d ∈ ds, Th d
  | [], _, d, h => by simp at h
  | x :: xs, h, d, hd => by
    rcases List.mem_cons.mp hd with rfl | hd
    · exact h.1
    · exact Ths.mem h.2 d hd
theorem Ths.of : ∀ {ds : List D}, (∀ d ∈ ds, Th d) → Ths ds
  | [], _ => trivial
  | x :: xs, h => ⟨h x List.mem_cons_self, Ths.of fun d hd => h d (List.mem_cons_of_mem _ hd)⟩
theorem szs_le {s : Nat} : ∀ {ds : List D}, (∀ d ∈ ds, sz d ≤ s) → szs ds ≤ ds.length * s
  | [], _ => by simp [szs]
  | x :: xs, h => by
    have h1 := h x List.mem_cons_self
    have h2 := szs_le (s := s) fun d hd => h d (List.mem_cons_of_mem _ hd)
    rw [szs, List.length_cons, Nat.add_mul]
    omega
theorem dps_le {s : Nat} : ∀ {ds : List D}, (∀ d ∈ ds, dp' d ≤ s) → dps' ds ≤ s
  | [], _ => by simp [dps']
  | x :: xs, h => by
    have h1 := h x List.mem_cons_self
    have h2 := dps_le (s := s) fun d hd => h d (List.mem_cons_of_mem _ hd)
    rw [dps']
    omega
theorem Gt.tup {s e m : Nat} {ds : List D} (h : ∀ d ∈ ds, Gt s e d) (hl : ds.length ≤ m) : Gt (1 + m * s) (1 + e) (.tup ds) := by
  refine ⟨Ths.of fun d hd => (h d hd).th, ?_, ?_⟩
  · rw [Mi.sz]
    have := szs_le (s := s) fun d hd => (h d hd).sz
    have : ds.length * s ≤ m * s := Nat.mul_le_mul_right s hl
    omega
  · rw [dp']
    have := dps_le (s := e) fun d hd => (h d hd).dp
    omega

/-! ### a comprehension that draws -/
theorem comp_draw {r : Nat} {P : D → Prop} {F : DE} {env : Env} {s : Nat} {b : Int} (hb : 0 ≤ b) (step : ∀ (d : D) (st : Sto) (C : Int), Fd r C st → C + b < 2 ^ 60 → Dr r C b P st (F (env.set s (some d)) st)) :
    ∀ (ds : List D) (st : Sto) (C : Int), Fd r C st → C + b * ds.length < 2 ^ 60 → ∃ ys st', compL [] (.nm s) cYes F env ds st = .ok ys st' ∧ ys.length = ds.length ∧ (∀ y ∈ ys, P y) ∧ Fd r (C + b * ds.length) st' ∧ Sm r st st'
  | [], st, C, h, _ => ⟨[], st, compL_nil rfl, rfl, by simp, by simpa using h, Sm.refl⟩
  | d :: ds, st, C, h, hC => by
    have e1 : (b : Int) * ((d :: ds).length : Nat) = b + b * (ds.length : Nat) := by
      rw [List.length_cons, Int.natCast_add, Int.mul_add]
      simp
      omega
    have hp : 0 ≤ b * (ds.length : Nat) := Int.mul_nonneg hb (by omega)
    rw [e1] at hC ⊢
    obtain ⟨y, st1, q1, p1, f1, s1⟩ := step d st C h (by omega)
    obtain ⟨ys, st2, q2, l2, p2, f2, s2⟩ := comp_draw hb step ds st1 (C + b) f1 (by omega)
    refine ⟨y :: ys, st2, compL_yes rfl rfl q1 q2, by simp [l2], fun z hz => ?_, ?_, s1.trans s2⟩
    · rcases List.mem_cons.mp hz with rfl | hz
      · exact p1
      · exact p2 z hz
    · rw [← Int.add_assoc]
      exact f2

/-! ### plain menus -/
theorem menu {xs : List D} {d : Int} (h0 : 0 ≤ d) (h : d < xs.length) : ∃ x ∈ xs, atI xs d = some x := by
  have hk : d.toNat < xs.length := by omega
  have e : d = (d.toNat : Int) := by omega
  rw [e, atI_nat' hk]
  exact ⟨xs[d.toNat], List.getElem_mem hk, List.getElem?_eq_getElem hk⟩

theorem lsz (n : Nat) (h : n ≤ 1000000) : n ≤ sizeLine := by rw [szL]; omega
theorem Fd.mono {r : Nat} {C C' : Int} {st : Sto} (h : Fd r C st) (hc : C ≤ C') : Fd r C' st := by
  obtain ⟨G, M, K, a, b, c, d⟩ := h
  exact ⟨G, M, K, a, b, c, by omega⟩
theorem Gt.int {s e : Nat} {i : Int} (h : i.natAbs < 2 ^ 240) (hs : 1 ≤ s) : Gt s e (.int i) := ⟨h, hs, Nat.zero_le _⟩
theorem Gt.non {s e : Nat} (hs : 1 ≤ s) : Gt s e .non := ⟨trivial, hs, Nat.zero_le _⟩
theorem Gt.bl {s e : Nat} {b : Bool} (hs : 1 ≤ s) : Gt s e (.bl b) := ⟨trivial, hs, Nat.zero_le _⟩
def ascB (x : Str) : Bool := x.cps.toList.all (fun c => decide (c < 128))
theorem asc_of {x : Str} (h : ascB x = true) : asc x := fun c hc => by
  have := List.all_eq_true.mp h c hc
  simpa using this
theorem Gt.str {s e : Nat} {x : Str} (h : (ascB x && decide (x.length ≤ 100) && decide (1 + x.length ≤ s)) = true) : Gt s e (.str x) := by
  simp only [Bool.and_eq_true, decide_eq_true_eq] at h
  exact ⟨⟨asc_of h.1.1, h.1.2⟩, h.2, Nat.zero_le _⟩
theorem upI_len (lo : Int) (n : Nat) : (upI lo n).length = n := by simp [upI]
@[simp] theorem len_str {z : Str} {st : Sto} (h : z.length ≤ sizeLine) : lenB [.str z] st = .ok (.int (z.length : Nat)) st := by unfold lenB; simp only; rw [if_pos h]
@[simp] theorem len_tup {ds : List D} {st : Sto} : lenB [.tup ds] st = .ok (.int (ds.length : Nat)) st := rfl
def oneS (c : Nat) : D := .str ⟨#[c]⟩
theorem ix_str' {z : Str} {i : Int} {st : Sto} (h : z.length ≤ sizeLine) : ixD (.str z) (.int i) st = ofO ((atI z.cps.toList i).map oneS) st := by
  show (if _ then _ else _) = _
  rw [if_pos h]
  rfl
theorem allO_str : ∀ {ys : List D} {xs : List Str}, ys = xs.map .str → allO toS ys = some xs
  | _, [], rfl => rfl
  | _, x :: xs, rfl => by
    rw [List.map_cons, allO, allO_str (xs := xs) rfl]
    rfl
theorem str_len_app (a b : Str) : (a ++ b).length = a.length + b.length := by
  show (a.cps ++ b.cps).size = _
  rw [Array.size_append]
  rfl
theorem join_len : ∀ xs : List Str, (Str.join "" xs).length = (xs.map (·.length)).sum
  | [] => rfl
  | [x] => by simp [Str.join]
  | x :: y :: r => by
    have ih := join_len (y :: r)
    have e : Str.join "" (x :: y :: r) = x ++ "" ++ Str.join "" (y :: r) := rfl
    have z : (("" : Str)).length = 0 := by decide +kernel
    rw [e, str_len_app, str_len_app, ih, z]
    simp
theorem sum_ones : ∀ cs : List Nat, (cs.map fun _ => 1).sum = cs.length
  | [] => rfl
  | c :: cs => by rw [List.map_cons, List.sum_cons, sum_ones cs, List.length_cons]; omega
theorem join_one {cs : List Nat} (h : ∀ c ∈ cs, c < 128) : asc (Txt.join "" (cs.map fun c => ⟨#[c]⟩)) ∧ (Txt.join "" (cs.map fun c => ⟨#[c]⟩)).length = cs.length := by
  have e : Txt.join "" (cs.map fun c => (⟨#[c]⟩ : Str)) = Str.join "" (cs.map fun c => ⟨#[c]⟩) := StrLaws.glued_eq_join _ _
  rw [e]
  refine ⟨fun c hc => ?_, ?_⟩
  · rcases (PyProof.Rows.mem_join "" c _).mp hc with ⟨t, ht, hct⟩ | ⟨_, z⟩
    · obtain ⟨x, hx, rfl⟩ := List.mem_map.mp ht
      have : c = x := by simpa using hct
      rw [this]
      exact h x hx
    · have : (("" : Str)).cps.toList = [] := by decide +kernel
      rw [this] at z
      simp at z
  · rw [join_len, List.map_map]
    have : ((fun (x : Str) => x.length) ∘ fun c => (⟨#[c]⟩ : Str)) = fun _ => 1 := by funext c; rfl
    rw [this]
    exact sum_ones cs
theorem strs_of : ∀ {ys : List D}, (∀ y ∈ ys, ∃ c, y = oneS c ∧ c < 128) → ∃ cs : List Nat, ys = (cs.map fun c => (⟨#[c]⟩ : Str)).map .str ∧ cs.length = ys.length ∧ ∀ c ∈ cs, c < 128
  | [], _ => ⟨[], rfl, rfl, by simp⟩
  | y :: ys, h => by
    obtain ⟨c, rfl, hc⟩ := h y List.mem_cons_self
    obtain ⟨cs, e, l, k⟩ := strs_of fun z hz => h z (List.mem_cons_of_mem _ hz)
    refine ⟨c :: cs, by rw [e]; rfl, by simp [l], fun z hz => ?_⟩
    rcases List.mem_cons.mp hz with rfl | hz
    · exact hc
    · exact k z hz
theorem join_ok {ys : List D} {st : Sto} (h : ∀ y ∈ ys, ∃ c, y = oneS c ∧ c < 128) (hl : ys.length ≤ 1000) : ∃ x : Str, joinL (.str "") ys st = .ok (.str x) st ∧ asc x ∧ x.length = ys.length := by
  obtain ⟨cs, e, l, k⟩ := strs_of h
  obtain ⟨j1, j2⟩ := join_one k
  refine ⟨_, ?_, j1, by rw [j2, l]⟩
  unfold joinL
  simp only
  rw [allO_str e]
  simp only
  rw [if_pos]
  have : ((cs.map fun c => (⟨#[c]⟩ : Str)).map (·.length)).sum = cs.length := by
    rw [List.map_map]
    have : ((fun (x : Str) => x.length) ∘ fun c => (⟨#[c]⟩ : Str)) = fun _ => 1 := by funext c; rfl
    rw [this]
    exact sum_ones cs
  have z : (("" : Str)).length = 0 := by decide +kernel
  rw [this, z]
  omega
theorem hasT_str {x : Str} {st : Sto} : hasT "str" (.str x) st = true := rfl
@[simp] theorem ap_while {fu : Nat} {C : DT} {B : DS} {env : Env} {st : Sto} : sWhile fu C B env st = whileL C B fu env st := rfl
theorem comp_map {F : DE} {env : Env} {s : Nat} {f : D → D} {st : Sto} : ∀ {ds : List D}, (∀ d ∈ ds, F (env.set s (some d)) st = .ok (f d) st) → compL [] (.nm s) cYes F env ds st = .ok (ds.map f) st
  | [], _ => compL_nil rfl
  | d :: ds, h => compL_yes rfl rfl (h d List.mem_cons_self) (comp_map fun x hx => h x (List.mem_cons_of_mem _ hx))
theorem allO_int {g : D → Int} : ∀ ds : List D, allO toI (ds.map fun d => .int (g d)) = some (ds.map g)
  | [] => rfl
  | d :: ds => by rw [List.map_cons, allO, allO_int ds]; rfl
theorem sum_map {g : D → Int} {ds : List D} {st : Sto} : sumL (ds.map fun d => .int (g d)) st = .ok (.int (ds.map g).sum) st := by
  unfold sumL; rw [allO_int]
mutual
def wi : D → Int
  | .tup ds => wis ds
  | _ => 0
def wis : List D → Int
  | [] => 0
  | d :: ds => 1 + wi d + wis ds
end
theorem wis_sum : ∀ ds : List D, (ds.map fun d => 1 + wi d).sum = wis ds
  | [] => rfl
  | d :: ds => by rw [List.map_cons, List.sum_cons, wis_sum ds, wis]
theorem dps_mem : ∀ {ds : List D} {d : D}, d ∈ ds → dp' d ≤ dps' ds
  | [], d, h => by simp at h
  | x :: xs, d, h => by
    rw [dps']
    rcases List.mem_cons.mp h with rfl | h
    · omega
    · have := dps_mem h; omega
theorem szs_len : ∀ ds : List D, ds.length ≤ szs ds
  | [] => by simp
  | d :: ds => by
    have := szs_len ds
    have : 1 ≤ sz d := by cases d <;> simp [sz] <;> omega
    rw [szs, List.length_cons]
    omega
theorem szs_mem : ∀ {ds : List D} {d : D}, d ∈ ds → sz d ≤ szs ds
  | [], d, h => by simp at h
  | x :: xs, d, h => by
    rw [szs]
    rcases List.mem_cons.mp h with rfl | h
    · omega
    · have := szs_mem h; omega
theorem cut_last {ds : List D} : cutG ds none (some (-1)) = ds.take (ds.length - 1) := by
  unfold cutG
  rw [HT.sIx_none]
  have : HT.sIx ds.length ds.length (some (-1)) = ds.length - 1 := by
    show (if (-1 : Int) < 0 then ((-1 : Int) + (ds.length : Int)).toNat else min (-1 : Int).toNat ds.length) = ds.length - 1
    rw [if_pos (by decide)]
    omega
  rw [this]
  simp
theorem szs_take (k : Nat) : ∀ ds : List D, szs (ds.take k) ≤ szs ds := by
  induction k with
  | zero => intro ds; simp [szs]
  | succ k ih =>
    intro ds
    cases ds with
    | nil => simp
    | cons d ds => simp [szs]; exact ih ds
theorem dps_take (k : Nat) : ∀ ds : List D, dps' (ds.take k) ≤ dps' ds := by
  induction k with
  | zero => intro ds; simp [dps']
  | succ k ih =>
    intro ds
    cases ds with
    | nil => simp
    | cons d ds => simp [dps']; have := ih ds; omega
theorem Ths.take (k : Nat) : ∀ {ds : List D}, Ths ds → Ths (ds.take k) := by
  intro ds h
  exact Ths.of fun d hd => h.mem d (List.mem_of_mem_take hd)
theorem Gt.take {s e k : Nat} {ds : List D} (h : Gt s e (.tup ds)) : Gt s e (.tup (ds.take k)) :=
  ⟨Ths.take k h.th, by have := h.sz; rw [Mi.sz] at this ⊢; have := szs_take k ds; omega, by have := h.dp; rw [dp'] at this ⊢; have := dps_take k ds; omega⟩

@[simp] theorem int_bl {b : Bool} {st : Sto} : intB [.bl b] st = .ok (.int (if b then 1 else 0)) st := rfl
@[simp] theorem int_int {i : Int} {st : Sto} : intB [.int i] st = .ok (.int i) st := rfl
theorem two_of {x y : D} {i : Int} (h : i = 0 ∨ i = 1) : ∃ z, atI [x, y] i = some z ∧ (i = 0 → z = x) ∧ (i = 1 → z = y) := by
  rcases h with rfl | rfl
  · exact ⟨x, rfl, fun _ => rfl, fun z => by omega⟩
  · exact ⟨y, rfl, fun z => by omega, fun _ => rfl⟩
theorem cut_to {β : Type} {ds : List β} {k : Nat} : cutG ds none (some (k : Int)) = ds.take k := by
  unfold cutG
  rw [HT.sIx_none, HT.sIx_nat]
  simp
theorem cut_from {β : Type} {ds : List β} {k : Nat} : cutG ds (some (k : Int)) none = ds.drop k := by
  unfold cutG
  rw [HT.sIx_none, HT.sIx_nat]
  by_cases h : k ≤ ds.length
  · rw [Nat.min_eq_left h]
    rw [List.take_of_length_le (by simp)]
  · rw [Nat.min_eq_right (by omega), List.drop_eq_nil_of_le (Nat.le_refl _), List.drop_eq_nil_of_le (by omega)]
    simp
theorem asc_cut {x : Str} {lo hi : Option Int} (h : asc x) : asc (cutS x lo hi) := fun c hc => by
  refine h c ?_
  have : c ∈ ((x.cps.toList.drop (HT.sIx x.length 0 lo)).take (HT.sIx x.length x.length hi - HT.sIx x.length 0 lo)) := by simpa [cutS] using hc
  exact List.mem_of_mem_drop (List.mem_of_mem_take this)
theorem asc_app {x y : Str} (h : asc x) (k : asc y) : asc (x ++ y) := fun c hc => by
  have : c ∈ (x.cps ++ y.cps).toList := hc
  rw [Array.toList_append, List.mem_append] at this
  exact this.elim (h c) (k c)
theorem Gt.str' {s e : Nat} {x : Str} (h : asc x) (hl : x.length ≤ 100) (hs : 1 + x.length ≤ s) : Gt s e (.str x) := ⟨⟨h, hl⟩, hs, Nat.zero_le _⟩
theorem szs_app : ∀ xs ys : List D, szs (xs ++ ys) = szs xs + szs ys
  | [], ys => by simp [szs]
  | x :: xs, ys => by simp only [List.cons_append, szs, szs_app xs ys]; omega
theorem dps_app : ∀ xs ys : List D, dps' (xs ++ ys) = max (dps' xs) (dps' ys)
  | [], ys => by simp [dps']
  | x :: xs, ys => by simp only [List.cons_append, dps', dps_app xs ys]; omega
theorem Ths.app : ∀ {xs ys : List D}, Ths xs → Ths ys → Ths (xs ++ ys) := fun {xs ys} h k => Ths.of fun d hd => (List.mem_append.mp hd).elim (h.mem d) (k.mem d)
/-- the digits of a number -/
theorem ofS_toList (s : String) : (Str.ofString s).cps.toList = s.toList.map Char.toNat := by
  rw [Str.ofString_eq_toList]
theorem str_int_asc (i : Int) (h : i.natAbs < 2 ^ 240) : asc (toString i : String) ∧ (Str.ofString (toString i)).length ≤ 100 := by
  refine ⟨fun c hc => ?_, ?_⟩
  · rw [ofS_toList] at hc
    obtain ⟨k, hk, rfl⟩ := List.mem_map.mp hc
    exact int_ascii i k hk
  · have e := int_text_length_le10 (a := i) (k := 80) (by decide) (Nat.lt_of_lt_of_le h (by decide))
    rw [ofString_length]
    omega
theorem up_asc {x : Str} (h : asc x) : asc (Txt.upper x) ∧ (Txt.upper x).length = x.length := by
  rw [PyProof.Rows.upper_ascii h]
  refine ⟨fun c hc => ?_, by show (x.cps.map _).size = _; rw [Array.size_map]; rfl⟩
  have : c ∈ (x.cps.map PyProof.Rows.up1).toList := hc
  rw [Array.toList_map] at this
  obtain ⟨k, hk, rfl⟩ := List.mem_map.mp this
  have := h k hk
  unfold PyProof.Rows.up1
  split <;> omega
theorem lo_asc {x : Str} (h : asc x) : asc (Txt.lower x) ∧ (Txt.lower x).length = x.length := by
  rw [PyProof.Rows.lower_ascii h]
  refine ⟨fun c hc => ?_, by show (x.cps.map _).size = _; rw [Array.size_map]; rfl⟩
  have : c ∈ (x.cps.map PyProof.Rows.lo1).toList := hc
  rw [Array.toList_map] at this
  obtain ⟨k, hk, rfl⟩ := List.mem_map.mp this
  have := h k hk
  unfold PyProof.Rows.lo1
  split <;> omega

@[simp] theorem add_tup {xs ys : List D} {st : Sto} (h : xs.length + ys.length ≤ sizeLine) : addD (.tup xs) (.tup ys) st = .ok (.tup (xs ++ ys)) st := by
  show (if _ then _ else _) = _; rw [if_pos h]
theorem add_str' {x y : Str} {st : Sto} (h : x.length + y.length ≤ sizeLine) : addD (.str x) (.str y) st = .ok (.str (x ++ y)) st := by
  show (if _ then _ else _) = _; rw [if_pos h]
@[simp] theorem sl_tup' {ds : List D} {lo hi : Option Int} {st : Sto} : slD (.tup ds) lo hi st = .ok (.tup (cutG ds lo hi)) st := rfl
theorem sl_str' {x : Str} {lo hi : Option Int} {st : Sto} (h : x.length ≤ sizeLine) : slD (.str x) lo hi st = .ok (.str (cutS x lo hi)) st := by
  show (if _ then _ else _) = _; rw [if_pos h]
theorem upper_ok {x : Str} {st : Sto} (h : x.length ≤ 5592405) : upperM (.str x) [] st = .ok (.str (Txt.upper x)) st := by unfold upperM; simp only; rw [if_pos h]
theorem lower_ok {x : Str} {st : Sto} (h : x.length ≤ 5592405) : lowerM (.str x) [] st = .ok (.str (Txt.lower x)) st := by unfold lowerM; simp only; rw [if_pos h]
theorem at6 {a0 a1 a2 a3 a4 a5 : D} {k : Int} (h0 : 0 ≤ k) (h : k < 6) : ∃ x ∈ [a0, a1, a2, a3, a4, a5], atI [a0, a1, a2, a3, a4, a5] k = some x := menu h0 h
theorem cut40 {x : Str} (h : asc x) {n : Nat} (hx : x.length ≤ n) : asc (cutS x none (some 40)) ∧ (cutS x none (some 40)).length ≤ n := ⟨asc_cut h, Nat.le_trans (cutS_length _ _ _) hx⟩
theorem cutm {x : Str} (h : asc x) {n : Nat} (hx : x.length ≤ n) : asc (cutS x none (some (-1))) ∧ (cutS x none (some (-1))).length ≤ n := ⟨asc_cut h, Nat.le_trans (cutS_length _ _ _) hx⟩
theorem cut40_len {x : Str} : (cutS x none (some 40)).length ≤ 40 := by
  show (((x.cps.toList.drop (HT.sIx x.length 0 none)).take (HT.sIx x.length x.length (some 40) - HT.sIx x.length 0 none)).toArray).size ≤ 40
  rw [List.size_toArray, List.length_take, HT.sIx_none]
  have : HT.sIx x.length x.length (some (40 : Int)) = min 40 x.length := HT.sIx_nat x.length x.length 40
  rw [this]
  omega
theorem cut_at {ds : List D} {k : Nat} (h : k < ds.length) : ds = ds.take k ++ ds[k] :: ds.drop (k + 1) := by
  rw [List.getElem_cons_drop, List.take_append_drop]
theorem Dr.mono {r : Nat} {C b b' : Int} {P P' : D → Prop} {st : Sto} {x : R D} (h : Dr r C b P st x) (hb : b ≤ b') (hp : ∀ d, P d → P' d) : Dr r C b' P' st x := by
  obtain ⟨d, st', q, p, f, s⟩ := h
  exact ⟨d, st', q, hp d p, f.mono (by omega), s⟩
mutual
def rp : D → PyData
  | .bl b => .bool b
  | .int i => .int i
  | .str x => .str x
  | .tup ds => .tuple (rps ds)
  | _ => .none
def rps : List D → List PyData
  | [] => []
  | d :: ds => rp d :: rps ds
end
theorem toPs_rp {st : Sto} {n : Nat} : ∀ {ds : List D}, (∀ d ∈ ds, toP st n d = some (rp d)) → allO (toP st n) ds = some (rps ds)
  | [], _ => rfl
  | d :: ds, h => by rw [allO, h d List.mem_cons_self, toPs_rp fun x hx => h x (List.mem_cons_of_mem _ hx)]; rfl
theorem toP_rp (st : Sto) : ∀ (n : Nat) (d : D), Th d → dp' d ≤ n → toP st n d = some (rp d) := by
  intro n
  induction n with
  | zero =>
    intro d h k
    cases d with
    | tup ds => rw [dp'] at k; omega
    | kl => exact h.elim
    | ev => exact h.elim
    | obj => exact h.elim
    | fn => exact h.elim
    | ty => exact h.elim
    | _ => rfl
  | succ n ih =>
    intro d h k
    cases d with
    | tup ds =>
      rw [dp'] at k
      rw [toP, toPs_rp fun x hx => ih x (Ths.mem h x hx) (by have := dps_mem hx; omega)]
      rfl
    | kl => exact h.elim
    | ev => exact h.elim
    | obj => exact h.elim
    | fn => exact h.elim
    | ty => exact h.elim
    | _ => rfl
mutual
theorem rp_ok : ∀ d : D, Th d → (rp d).showable = true ∧ (rp d).hasDict = false ∧ (rp d).depth ≤ dp' d ∧ (rp d).shown.length + 2 ≤ 105 * sz d
  | .non, h => by
    refine ⟨by simp [rp, PyData.showable], by simp [rp, PyData.hasDict], by simp [rp, PyData.depth], ?_⟩
    simp only [rp, PyData.shown, sz]
    decide +kernel
  | .bl b, h => by
    refine ⟨by simp [rp, PyData.showable], by simp [rp, PyData.hasDict], by simp [rp, PyData.depth], ?_⟩
    simp only [rp, PyData.shown, sz]
    cases b <;> decide +kernel
  | .int i, h => by
    have hi : i.natAbs < 2 ^ 240 := h
    have hl : i.natAbs.log2 < 1920 := by have := log_le (a := i.natAbs) (b := 240) hi (by decide); omega
    refine ⟨by simp only [rp, PyData.showable]; exact decide_eq_true hl, by simp [rp, PyData.hasDict], by simp [rp, PyData.depth], ?_⟩
    have := (str_int_asc i hi).2
    simp only [rp, PyData.shown, sz]
    omega
  | .str x, h => by
    obtain ⟨xa, xl⟩ : asc x ∧ x.length ≤ 100 := h
    refine ⟨by simp [rp, PyData.showable], by simp [rp, PyData.hasDict], by simp [rp, PyData.depth], ?_⟩
    have := StrLaws.reprText_len x (fun c hc => Nat.lt_of_lt_of_le (xa c hc) (by decide))
    simp only [rp, PyData.shown, sz]
    omega
  | .tup ds, h => by
    obtain ⟨h1, h2, h3, h4⟩ := rps_ok ds h
    refine ⟨by rw [rp, PyData.showable]; exact h1, by rw [rp, PyData.hasDict]; exact h2, ?_, ?_⟩
    · rw [rp, PyData.depth, dp']; omega
    · rw [rp, PyData.shown, sz]
      have := tupleText_len_le (PyData.shownAll (rps ds))
      omega
  | .obj _, h => h.elim
  | .fn _, h => h.elim
  | .ty _, h => h.elim
  | .kl _, h => h.elim
  | .ev _, h => h.elim
theorem rps_ok : ∀ ds : List D, Ths ds → PyData.showableAll (rps ds) = true ∧ PyData.hasDictAll (rps ds) = false ∧ PyData.depthAll (rps ds) ≤ dps' ds ∧ ((PyData.shownAll (rps ds)).map (·.length)).sum + 2 * (PyData.shownAll (rps ds)).length ≤ 105 * szs ds
  | [], _ => by simp [rps, PyData.showableAll, PyData.hasDictAll, PyData.depthAll, PyData.shownAll, szs]
  | d :: ds, h => by
    obtain ⟨a1, a2, a3, a4⟩ := rp_ok d h.1
    obtain ⟨b1, b2, b3, b4⟩ := rps_ok ds h.2
    refine ⟨by rw [rps, PyData.showableAll, a1, b1]; rfl, by rw [rps, PyData.hasDictAll, a2, b2]; rfl, ?_, ?_⟩
    · rw [rps, PyData.depthAll, dps']; omega
    · rw [rps, PyData.shownAll, szs, List.map_cons, List.sum_cons, List.length_cons]; omega
end
def rpl (ds : List D) : Str := (PyData.list (rps ds)).shown
theorem repr_p {st : Sto} {n : Nat} {ds : List D} (hn : st[n]? = some (.lst ds)) (h : Ths ds) (hs : szs ds ≤ 100000) (hd : dps' ds ≤ 60) : reprB [.obj n] st = .ok (.str (rpl ds)) st := by
  have e : toP st 66 (.obj n) = some (.list (rps ds)) := by
    rw [toP, seq_lst hn]
    dsimp only
    rw [toPs_rp fun x hx => toP_rp st 65 x (Ths.mem h x hx) (by have := dps_mem hx; omega)]
  obtain ⟨h1, h2, h3, h4⟩ := rps_ok ds h
  unfold reprB
  simp only [e]
  have : reprO (.list (rps ds)) = some (rpl ds) := by
    unfold reprO
    rw [if_pos]
    · rfl
    · refine ⟨?_, by rw [PyData.hasDict]; exact h2⟩
      rw [PyData.showable, h1, Bool.true_and, Bool.and_eq_true, decide_eq_true_eq, decide_eq_true_eq]
      refine ⟨by rw [PyData.depth]; omega, ?_⟩
      rw [PyData.shown, szL]
      have := listText_len_le (PyData.shownAll (rps ds))
      omega
  rw [this]

theorem seq_step {A B : DS} {env e : Env} {st s : Sto} (h : A env st = .nx e s) : sSeq A B env st = B e s := by
  show seqS (A env st) B = _
  rw [h]
  rfl
theorem comp_inv {w : Wat} {F : DE} {env : Env} {s N : Nat} {J : Sto → Nat → Prop} {P : D → D → Prop} (hw : ∀ st k, J st k → okW w st = true) :
    ∀ (ds : List D) (st : Sto) (k : Nat), (∀ d ∈ ds, ∀ st k, k < N → J st k → ∃ y st', F (env.set s (some d)) st = .ok y st' ∧ P d y ∧ J st' (k + 1)) → k + ds.length ≤ N → J st k →
    ∃ ys st', compL w (.nm s) cYes F env ds st = .ok ys st' ∧ ys.length = ds.length ∧ (∀ y ∈ ys, ∃ d ∈ ds, P d y) ∧ J st' (k + ds.length)
  | [], st, k, _, _, h => ⟨[], st, compL_nil (hw st k h), rfl, by simp, h⟩
  | d :: ds, st, k, step, hN, h => by
    rw [List.length_cons] at hN
    obtain ⟨y, st1, q1, p1, j1⟩ := step d List.mem_cons_self st k (by omega) h
    obtain ⟨ys, st2, q2, l2, p2, j2⟩ := comp_inv hw ds st1 (k + 1) (fun x hx => step x (List.mem_cons_of_mem _ hx)) (by omega) j1
    refine ⟨y :: ys, st2, compL_yes (hw st k h) rfl q1 q2, by simp [l2], fun z hz => ?_, ?_⟩
    · rcases List.mem_cons.mp hz with rfl | hz
      · exact ⟨d, List.mem_cons_self, p1⟩
      · obtain ⟨x, hx, p⟩ := p2 z hz
        exact ⟨x, List.mem_cons_of_mem _ hx, p⟩
    · have e : k + (d :: ds).length = k + 1 + ds.length := by rw [List.length_cons]; omega
      rw [e]
      exact j2
theorem comp_mapW {w : Wat} {F : DE} {env : Env} {s : Nat} {f : D → D} {st : Sto} (hw : okW w st = true) : ∀ {ds : List D}, (∀ d ∈ ds, F (env.set s (some d)) st = .ok (f d) st) → compL w (.nm s) cYes F env ds st = .ok (ds.map f) st
  | [], _ => compL_nil hw
  | d :: ds, h => compL_yes hw rfl (h d List.mem_cons_self) (comp_mapW hw fun x hx => h x (List.mem_cons_of_mem _ hx))
theorem comp_none {w : Wat} {C : DT} {F : DE} {env : Env} {s : Nat} {st : Sto} (hw : okW w st = true) : ∀ {ds : List D}, (∀ d ∈ ds, C (env.set s (some d)) st = .ok false st) → compL w (.nm s) C F env ds st = .ok [] st
  | [], _ => compL_nil hw
  | d :: ds, h => by
    rw [compL, if_pos hw]
    show (noX (C (env.set s (some d)) st)).bind _ = _
    rw [h d List.mem_cons_self]
    exact comp_none hw fun x hx => h x (List.mem_cons_of_mem _ hx)
theorem for_inv {w : Wat} {t : Tg} {B : DS} {J : Env → Sto → Prop} (hw : ∀ env st, J env st → okW w st = true) :
    ∀ (ds : List D) (env : Env) (st : Sto), (∀ d ∈ ds, ∀ env st, J env st → ∃ env1 env2 st2, bindT t d env = some env1 ∧ B env1 st = .nx env2 st2 ∧ J env2 st2) → J env st →
    ∃ env' st', forL w t B ds env st = .nx env' st' ∧ J env' st'
  | [], env, st, _, h => ⟨env, st, forL_nil (hw env st h), h⟩
  | d :: ds, env, st, step, h => by
    obtain ⟨env1, env2, st2, b, q, j⟩ := step d List.mem_cons_self env st h
    obtain ⟨env', st', q', j'⟩ := for_inv hw ds env2 st2 (fun x hx => step x (List.mem_cons_of_mem _ hx)) j
    refine ⟨env', st', ?_, j'⟩
    rw [forL_cons (hw env st h) b, q]
    exact q'
theorem okW_at {n : Nat} {ds : List D} {st : Sto} (h : st[n]? = some (.lst ds)) : okW [(n, ds)] st = true := by
  rw [okW, seq_lst h]
  simp [okW, beqDs_refl]
theorem iter_obj {n : Nat} {ds : List D} {st : Sto} (h : st[n]? = some (.lst ds)) : iterD (.obj n) st = some (ds, [(n, ds)]) := by
  unfold iterD
  simp only [seq_lst h]
theorem rev_obj {n : Nat} {ds : List D} {st : Sto} (h : st[n]? = some (.lst ds)) : revD (.obj n) st = .ok (.obj st.length) (st ++ [.lst ds.reverse]) := by
  unfold revD
  simp only [seq_lst h]
  rfl
theorem add_oe {n : Nat} {xs ys : List D} {st : Sto} (h : st[n]? = some (.lst xs)) (hl : xs.length + ys.length ≤ sizeLine) : addD (.obj n) (.ev ys) st = .ok (.obj st.length) (st ++ [.lst (xs ++ ys)]) := by
  unfold addD
  simp only [h, if_pos hl]
  rfl
theorem numb_mem {ds : List D} {d : D} (h : d ∈ numb ds) : ∃ (i : Nat) (x : D), d = .tup [.int (i : Nat), x] ∧ i < ds.length ∧ ds[i]? = some x ∧ x ∈ ds := by
  unfold numb at h
  obtain ⟨p, hp, rfl⟩ := List.mem_map.mp h
  obtain ⟨x, i⟩ := p
  have e := List.mem_zipIdx_iff_getElem?.mp hp
  have hi : i < ds.length := by
    by_cases c : i < ds.length
    · exact c
    · rw [List.getElem?_eq_none (by omega)] at e; cases e
  exact ⟨i, x, rfl, hi, e, List.mem_of_getElem? e⟩
mutual
theorem rp_lay : ∀ d : D, Th d → (rp d).canLay0 = true
  | .non, h => by simp [rp, PyData.canLay0]
  | .bl b, h => by simp [rp, PyData.canLay0]
  | .int i, h => by simp [rp, PyData.canLay0]
  | .str x, h => by
    rw [rp, PyData.canLay0]
    unfold PyData.strOk
    rw [Array.all_eq_true']
    intro c hc
    have := h.1 c (by simpa using hc)
    exact decide_eq_true (by omega)
  | .tup ds, h => by rw [rp, PyData.canLay0]; exact rps_lay ds h
  | .obj _, h => h.elim
  | .fn _, h => h.elim
  | .ty _, h => h.elim
  | .kl _, h => h.elim
  | .ev _, h => h.elim
theorem rps_lay : ∀ ds : List D, Ths ds → PyData.canLayAll0 (rps ds) = true
  | [], _ => by simp [rps, PyData.canLayAll0]
  | d :: ds, h => by rw [rps, PyData.canLayAll0, rp_lay d h.1, rps_lay ds h.2]; rfl
end
theorem eqG_same {st : Sto} {a b : D} {ds : List D} (ha : toP st 66 a = some (.list (rps ds))) (hb : toP st 66 b = some (.list (rps ds))) (h : Ths ds) (hd : dps' ds ≤ 60) : eqG a b st = some true := by
  unfold eqG
  rw [ha, hb]
  dsimp only
  have l : PyData.canLay0 (.list (rps ds)) = true := by rw [PyData.canLay0]; exact rps_lay ds h
  have z : SeqAt.shaped (.list (rps ds)) = true := by
    unfold SeqAt.shaped
    rw [l, Bool.true_and, decide_eq_true_eq, PyData.depth]
    have := (rps_ok ds h).2.2.1
    omega
  rw [z, SeqAt.eqv_refl _ l]
  rfl
theorem toP_ev {st : Sto} {ds : List D} (h : Ths ds) (hd : dps' ds ≤ 60) : toP st 66 (.ev ds) = some (.list (rps ds)) := by
  rw [toP, toPs_rp fun x hx => toP_rp st 65 x (Ths.mem h x hx) (by have := dps_mem hx; omega)]
theorem toP_obj {st : Sto} {n : Nat} {ds : List D} (hn : st[n]? = some (.lst ds)) (h : Ths ds) (hd : dps' ds ≤ 60) : toP st 66 (.obj n) = some (.list (rps ds)) := by
  rw [toP, seq_lst hn]
  dsimp only
  rw [toPs_rp fun x hx => toP_rp st 65 x (Ths.mem h x hx) (by have := dps_mem hx; omega)]
theorem ne_ev_obj {st : Sto} {n : Nat} {ds : List D} (hn : st[n]? = some (.lst ds)) (h : Ths ds) (hd : dps' ds ≤ 60) : neD (.ev ds) (.obj n) st = .ok (.bl false) st := by
  unfold neD
  have : eqO (.ev ds) (.obj n) st = some true := eqG_same (toP_ev h hd) (toP_obj hn h hd) h hd
  rw [this]
  rfl
theorem ne_ev_ev {st : Sto} {ds : List D} (h : Ths ds) (hd : dps' ds ≤ 60) : neD (.ev ds) (.ev ds) st = .ok (.bl false) st := by
  unfold neD
  have : eqO (.ev ds) (.ev ds) st = some true := eqG_same (toP_ev h hd) (toP_ev h hd) h hd
  rw [this]
  rfl
def srt : D → Int
  | .non => 0
  | .bl _ => 1
  | .int _ => 2
  | .str _ => 3
  | _ => 4
@[simp] theorem is_non {st : Sto} : isD .non .non st = .ok (.bl true) st := rfl
@[simp] theorem is_bl {b : Bool} {st : Sto} : isD (.bl b) .non st = .ok (.bl false) st := rfl
@[simp] theorem is_int {b : Int} {st : Sto} : isD (.int b) .non st = .ok (.bl false) st := rfl
@[simp] theorem is_str {b : Str} {st : Sto} : isD (.str b) .non st = .ok (.bl false) st := rfl
@[simp] theorem is_tup {b : List D} {st : Sto} : isD (.tup b) .non st = .ok (.bl false) st := rfl
theorem srt_rng (d : D) : (srt d).natAbs < 2 ^ 240 := by cases d <;> simp only [srt] <;> decide

@[simp] theorem at_new {st : Sto} {o : Ob} : (st ++ [o])[st.length]? = some o := by simp
theorem at_old {st t : Sto} {n : Nat} {o : Ob} (h : st[n]? = some o) : (st ++ t)[n]? = some o := by
  have hn : n < st.length := by
    by_cases c : n < st.length
    · exact c
    · rw [List.getElem?_eq_none (by omega)] at h; cases h
  rw [List.getElem?_append_left hn, h]
theorem idx_p {st : Sto} {n : Nat} {a b c d : Bool} {k : Nat} (h : st[n]? = some (.lst [.bl a, .bl b, .bl c, .bl d])) (hk : firstAt (.bl true) [V.bl a, V.bl b, V.bl c, V.bl d] 0 = some k) : indexM (.obj n) [.bl true] st = .ok (.int (k : Nat)) st := by
  unfold indexM
  simp only [seq_lst h]
  have e : allO toV [D.bl a, .bl b, .bl c, .bl d] = some [V.bl a, V.bl b, V.bl c, V.bl d] := rfl
  rw [e]
  show (match firstAt (.bl true) [V.bl a, V.bl b, V.bl c, V.bl d] 0 with | some j => R.ok (D.int (j : Nat)) st | none => .stuck) = _
  rw [hk]
theorem hasT_lst {st : Sto} {n : Nat} {ds : List D} (h : st[n]? = some (.lst ds)) : hasT "list" (.obj n) st = true := by
  show (seqOf st n).isSome = true
  rw [seq_lst h]
  rfl
def ic (i j : Int) : Int := if i = j then 0 else if i < j then -1 else 1
mutual
def od : D → D → Int
  | .non, b => ic 0 (srt b)
  | .bl x, b => (match b with | .bl y => if x = y then 0 else if (!x && y) = true then -1 else 1 | b => ic 1 (srt b))
  | .int x, b => (match b with | .int y => ic x y | b => ic 2 (srt b))
  | .str x, b => (match b with | .str y => if x = y then 0 else if strLt x y = true then -1 else 1 | b => ic 3 (srt b))
  | .tup xs, b => (match b with | .tup ys => if fz xs ys = 0 then ic xs.length ys.length else fz xs ys | b => ic 4 (srt b))
  | _, _ => 0
def fz : List D → List D → Int
  | [], _ => 0
  | _ :: _, [] => 0
  | x :: xs, y :: ys => if od x y = 0 then fz xs ys else od x y
end
theorem two_at (b : Bool) : atI [D.int 1, D.int (-1)] (if b then 1 else 0) = some (.int (if b then -1 else 1)) := by cases b <;> rfl
@[simp] theorem int_bl' {b : Bool} {st : Sto} : intB [.bl b] st = .ok (.int (if b then 1 else 0)) st := rfl
theorem od_far {a b : D} (ha : Th a) (c : srt a ≠ srt b) : od a b = ic (srt a) (srt b) := by
  cases a with
  | kl => exact ha.elim
  | ev => exact ha.elim
  | obj => exact ha.elim
  | fn => exact ha.elim
  | ty => exact ha.elim
  | non => rw [od]; rfl
  | bl x => cases b <;> first | exact absurd rfl c | (simp only [od, srt])
  | int x => cases b <;> first | exact absurd rfl c | (simp only [od, srt])
  | str x => cases b <;> first | exact absurd rfl c | (simp only [od, srt])
  | tup x => cases b <;> first | exact absurd rfl c | (simp only [od, srt])
mutual
def rk : D → D
  | .non => .tup [.int 0, .int 0]
  | .tup ds => .tup [.int 4, .tup (rks ds)]
  | .bl b => .tup [.int 1, .bl b]
  | .int i => .tup [.int 2, .int i]
  | .str x => .tup [.int 3, .str x]
  | d => d
def rks : List D → List D
  | [] => []
  | d :: ds => rk d :: rks ds
end
theorem rks_map : ∀ ds : List D, ds.map rk = rks ds
  | [] => rfl
  | d :: ds => by rw [List.map_cons, rks_map ds, rks]
theorem rks_len : ∀ ds : List D, (rks ds).length = ds.length
  | [] => rfl
  | d :: ds => by rw [rks, List.length_cons, rks_len ds]; rfl
theorem th_small (i : Int) (h : i.natAbs < 2 ^ 240) : Th (.int i) := h
mutual
theorem rk_th : ∀ d : D, Th d → Th (rk d) ∧ dp' (rk d) ≤ 2 * dp' d + 1
  | .non, h => by rw [rk]; exact ⟨⟨th_small 0 (by decide), th_small 0 (by decide), trivial⟩, by simp [dp', dps']⟩
  | .bl b, h => by rw [rk]; exact ⟨⟨th_small 1 (by decide), trivial, trivial⟩, by simp [dp', dps']⟩
  | .int i, h => by rw [rk]; exact ⟨⟨th_small 2 (by decide), h, trivial⟩, by simp [dp', dps']⟩
  | .str x, h => by rw [rk]; exact ⟨⟨th_small 3 (by decide), h, trivial⟩, by simp [dp', dps']⟩
  | .tup ds, h => by
    obtain ⟨a, b⟩ := rks_th ds h
    rw [rk]
    refine ⟨⟨th_small 4 (by decide), a, trivial⟩, ?_⟩
    simp only [dp', dps']
    omega
  | .obj _, h => h.elim
  | .fn _, h => h.elim
  | .ty _, h => h.elim
  | .kl _, h => h.elim
  | .ev _, h => h.elim
theorem rks_th : ∀ ds : List D, Ths ds → Ths (rks ds) ∧ dps' (rks ds) ≤ 2 * dps' ds + 1
  | [], _ => by rw [rks]; exact ⟨trivial, by simp [dps']⟩
  | d :: ds, h => by
    obtain ⟨a, b⟩ := rk_th d h.1
    obtain ⟨a', b'⟩ := rks_th ds h.2
    rw [rks]
    refine ⟨⟨a, a'⟩, ?_⟩
    simp only [dps']
    omega
end
theorem ic_eq (i j : Int) : decide (ic i j = 0) = decide (i = j) := by
  unfold ic
  by_cases h : i = j
  · simp [h]
  · by_cases k : i < j <;> simp [h, k]
theorem ic_lt (i j : Int) : decide (ic i j < 0) = decide (i < j) := by
  unfold ic
  by_cases h : i = j
  · simp [h]
  · by_cases k : i < j <;> simp [h, k]
def tg (d : D) : PyData := match d with | .non => .int 0 | .tup ds => .tuple (rps (rks ds)) | d => rp d
theorem rp_rk (d : D) (h : Th d) : rp (rk d) = .tuple [.int (srt d), tg d] := by
  cases d with
  | kl => exact h.elim
  | ev => exact h.elim
  | obj => exact h.elim
  | fn => exact h.elim
  | ty => exact h.elim
  | non => simp [rk, rp, rps, srt, tg]
  | bl x => simp [rk, rp, rps, srt, tg]
  | int x => simp [rk, rp, rps, srt, tg]
  | str x => simp [rk, rp, rps, srt, tg]
  | tup x => simp [rk, rp, rps, srt, tg]
theorem pair_far {i j : Int} {p q : PyData} (h : i ≠ j) : PyData.eqv (.tuple [.int i, p]) (.tuple [.int j, q]) = false ∧ pyLt (.tuple [.int i, p]) (.tuple [.int j, q]) = some (decide (i < j)) := by
  have e : (i == j) = false := by simpa using h
  refine ⟨by simp only [PyData.eqv, PyData.eqvAll, e, Bool.false_and], ?_⟩
  simp only [pyLt, pyLts, PyData.eqv, e]
  simp
theorem pair_near {i : Int} {p q : PyData} : PyData.eqv (.tuple [.int i, p]) (.tuple [.int i, q]) = PyData.eqv p q ∧ (PyData.eqv p q = true → pyLt (.tuple [.int i, p]) (.tuple [.int i, q]) = some false) ∧ (PyData.eqv p q = false → pyLt (.tuple [.int i, p]) (.tuple [.int i, q]) = pyLt p q) := by
  refine ⟨by simp [PyData.eqv, PyData.eqvAll], fun e => ?_, fun e => ?_⟩
  · simp [pyLt, pyLts, PyData.eqv, e]
  · simp [pyLt, pyLts, PyData.eqv, e]
mutual
theorem od_rk : ∀ a b : D, Th a → Th b → PyData.eqv (rp (rk a)) (rp (rk b)) = decide (od a b = 0) ∧ pyLt (rp (rk a)) (rp (rk b)) = some (decide (od a b < 0)) := by
  intro a b ha hb
  rw [rp_rk a ha, rp_rk b hb]
  by_cases c : srt a = srt b
  case neg =>
    rw [od_far ha c, ic_eq, ic_lt]
    obtain ⟨h1, h2⟩ := pair_far (p := tg a) (q := tg b) c
    exact ⟨h1.trans (by simp [c]), h2⟩
  case pos =>
    rw [← c]
    obtain ⟨h1, h2, h3⟩ := pair_near (i := srt a) (p := tg a) (q := tg b)
    rw [h1]
    suffices hh : PyData.eqv (tg a) (tg b) = decide (od a b = 0) ∧ (PyData.eqv (tg a) (tg b) = false → pyLt (tg a) (tg b) = some (decide (od a b < 0))) by
      refine ⟨hh.1, ?_⟩
      by_cases z : PyData.eqv (tg a) (tg b) = true
      · rw [h2 z]
        rw [hh.1, decide_eq_true_eq] at z
        simp [z]
      · have z := Bool.eq_false_iff.mpr z
        rw [h3 z, hh.2 z]
    match a, ha with
    | .non, _ =>
      cases b <;> try (simp [srt] at c; done)
      exact ⟨by simp [tg, PyData.eqv, od, srt, ic], fun z => by simp [tg, PyData.eqv] at z⟩
    | .bl x, _ =>
      cases b <;> try (simp [srt] at c; done)
      rename_i y
      have eo : od (.bl x) (.bl y) = if x = y then 0 else if (!x && y) = true then -1 else 1 := by simp only [od]
      generalize od (.bl x) (.bl y) = v at eo ⊢
      subst eo
      simp only [tg, rp, PyData.eqv, pyLt]
      cases x <;> cases y <;> decide
    | .int x, _ =>
      cases b <;> try (simp [srt] at c; done)
      rename_i y
      have eo : od (.int x) (.int y) = ic x y := by simp only [od]
      generalize od (.int x) (.int y) = v at eo ⊢
      subst eo
      rw [ic_eq, ic_lt]
      simp only [tg, rp, PyData.eqv, pyLt]
      refine ⟨?_, fun _ => by simp⟩
      rw [Bool.eq_iff_iff]
      simp
    | .str x, _ =>
      cases b <;> try (simp [srt] at c; done)
      rename_i y
      have eo : od (.str x) (.str y) = if x = y then 0 else if strLt x y = true then -1 else 1 := by simp only [od]
      generalize od (.str x) (.str y) = v at eo ⊢
      simp only [tg, rp, PyData.eqv, pyLt]
      by_cases e : x = y
      · rw [if_pos e] at eo
        subst e
        subst eo
        simp
      · have e' : (x == y) = false := by simpa using e
        rw [if_neg e] at eo
        rw [e']
        unfold strLt at eo
        by_cases q : x.cps.toList < y.cps.toList
        · simp [q] at eo
          subst eo
          simp [q]
        · simp [q] at eo
          subst eo
          simp [q]
    | .tup xs, ha =>
      cases b <;> try (first | exact hb.elim | (simp [srt] at c; done))
      rename_i ys
      obtain ⟨k1, k2⟩ := ods_rk xs ys ha hb
      have eo : od (.tup xs) (.tup ys) = if fz xs ys = 0 then ic xs.length ys.length else fz xs ys := by simp only [od]
      generalize od (.tup xs) (.tup ys) = v at eo ⊢
      simp only [tg, PyData.eqv, pyLt, k1, k2]
      by_cases z : fz xs ys = 0
      · rw [if_pos z] at eo
        subst eo
        rw [ic_eq, ic_lt]
        simp [z]
        omega
      · rw [if_neg z] at eo
        subst eo
        simp [z]
    | .obj _, h => exact h.elim
    | .fn _, h => exact h.elim
    | .ty _, h => exact h.elim
    | .kl _, h => exact h.elim
    | .ev _, h => exact h.elim
termination_by a => sizeOf a
theorem ods_rk : ∀ xs ys : List D, Ths xs → Ths ys → PyData.eqvAll (rps (rks xs)) (rps (rks ys)) = decide (fz xs ys = 0 ∧ xs.length = ys.length) ∧ pyLts (rps (rks xs)) (rps (rks ys)) = some (decide (fz xs ys < 0 ∨ (fz xs ys = 0 ∧ xs.length < ys.length)))
  | [], [], _, _ => by simp [rks, rps, PyData.eqvAll, pyLts, fz]
  | [], y :: ys, _, _ => by simp [rks, rps, PyData.eqvAll, pyLts, fz]
  | x :: xs, [], _, _ => by simp [rks, rps, PyData.eqvAll, pyLts, fz]
  | x :: xs, y :: ys, ha, hb => by
    obtain ⟨h1, h2⟩ := od_rk x y ha.1 hb.1
    obtain ⟨k1, k2⟩ := ods_rk xs ys ha.2 hb.2
    simp only [rks, rps, PyData.eqvAll, pyLts, fz, h1, h2, k1, k2]
    by_cases c : od x y = 0
    · simp [c]
    · simp [c]
termination_by xs => sizeOf xs
end
theorem rk_shaped {d : D} (h : Th d) (hd : dp' d ≤ 20) (st : Sto) : toP st 66 (rk d) = some (rp (rk d)) ∧ SeqAt.shaped (rp (rk d)) = true := by
  obtain ⟨a, b⟩ := rk_th d h
  refine ⟨toP_rp st 66 _ a (by omega), ?_⟩
  unfold SeqAt.shaped
  rw [rp_lay _ a, Bool.true_and, decide_eq_true_eq]
  have := (rp_ok _ a).2.2.1
  omega
theorem rk_tup {d : D} (h : Th d) : ∃ ds, rk d = .tup ds := by
  cases d with
  | kl => exact h.elim
  | ev => exact h.elim
  | obj => exact h.elim
  | fn => exact h.elim
  | ty => exact h.elim
  | _ => exact ⟨_, by rw [rk]⟩
end Mi

namespace Mi
open PySem L2
theorem srt_p (m : Nat) (d : D) (st : Sto) (h : Th d) : Phi prog (m + 1) i_sort_of [d] st = .ok (.int (srt d)) st := by
  rw [Phi_sort_of, runB_eq]
  cases d with
  | kl => exact h.elim
  | ev => exact h.elim
  | obj => exact h.elim
  | fn => exact h.elim
  | ty => exact h.elim
  | _ => simp [b_sort_of, isiD, tyD, isi, truD, srt]
theorem rank_p : ∀ (m : Nat) (d : D) (st : Sto), Th d → dp' d + 1 < m → sz d ≤ 1000000 → Phi prog m i_rank_of [d] st = .ok (rk d) st := by
  intro m
  induction m with
  | zero => intro d st _ h; omega
  | succ m ih =>
    intro d st ht hd hs
    obtain ⟨m, rfl⟩ : ∃ k, m = k + 1 := ⟨m - 1, by omega⟩
    rw [Phi_rank_of, runB_eq]
    cases d with
    | tup ds =>
      have hl : ds.length ≤ sizeLine := lsz _ (by rw [sz] at hs; have := szs_len ds; omega)
      have e := comp_map (st := st) (F := eCall (Phi prog (m + 1) i_rank_of) (aCons (eVar 1) aNil)) (env := [some (.tup ds), none]) (s := 1) (f := rk) (ds := ds) (fun x hx => by
        have := ih x st (Ths.mem ht x hx) (by rw [dp'] at hd; have := dps_mem hx; omega) (by rw [sz] at hs; have := szs_mem hx; omega)
        simp [this])
      rw [rks_map] at e
      rw [rk]
      simp [b_rank_of, isiD, tyD, isi, truD, iterD, hl, wipeE, e, tupleL, lsz]
    | kl => exact ht.elim
    | ev => exact ht.elim
    | obj => exact ht.elim
    | fn => exact ht.elim
    | ty => exact ht.elim
    | non => simp [b_rank_of, rk, lsz]
    | bl x => have := srt_p m _ st ht; simp only [srt] at this; simp [b_rank_of, isiD, tyD, isi, truD, this, rk, lsz]
    | int x => have := srt_p m _ st ht; simp only [srt] at this; simp [b_rank_of, isiD, tyD, isi, truD, this, rk, lsz]
    | str x => have := srt_p m _ st ht; simp only [srt] at this; simp [b_rank_of, isiD, tyD, isi, truD, this, rk, lsz]
theorem like_p (m : Nat) (a b : D) (st : Sto) (ha : Th a) (hb : Th b) (da : dp' a ≤ 20) (db : dp' b ≤ 20) (hm : 30 ≤ m) (sa : sz a ≤ 1000000) (sb : sz b ≤ 1000000) : Phi prog m i_plain_like [a, b] st = .ok (.bl (decide (od a b = 0))) st := by
  obtain ⟨m, rfl⟩ : ∃ k, m = k + 1 := ⟨m - 1, by omega⟩
  rw [Phi_plain_like, runB_eq]
  have q1 := rank_p m a st ha (by omega) sa
  have q2 := rank_p m b st hb (by omega) sb
  obtain ⟨t1, z1⟩ := rk_shaped ha da st
  obtain ⟨t2, z2⟩ := rk_shaped hb db st
  have e : eqD (rk a) (rk b) st = .ok (.bl (decide (od a b = 0))) st := by
    unfold eqD
    obtain ⟨xs, e1⟩ := rk_tup ha
    obtain ⟨ys, e2⟩ := rk_tup hb
    have : eqO (rk a) (rk b) st = eqG (rk a) (rk b) st := by rw [e1, e2]; rfl
    rw [this]
    unfold eqG
    rw [t1, t2]
    dsimp only
    rw [z1, z2, (od_rk a b ha hb).1]
    rfl
  simp [b_plain_like, q1, q2, e]
theorem less_p (m : Nat) (a b : D) (st : Sto) (ha : Th a) (hb : Th b) (da : dp' a ≤ 20) (db : dp' b ≤ 20) (hm : 30 ≤ m) (sa : sz a ≤ 1000000) (sb : sz b ≤ 1000000) : Phi prog m i_plain_less [a, b] st = .ok (.bl (decide (od a b < 0))) st := by
  obtain ⟨m, rfl⟩ : ∃ k, m = k + 1 := ⟨m - 1, by omega⟩
  rw [Phi_plain_less, runB_eq]
  have q1 := rank_p m a st ha (by omega) sa
  have q2 := rank_p m b st hb (by omega) sb
  obtain ⟨t1, z1⟩ := rk_shaped ha da st
  obtain ⟨t2, z2⟩ := rk_shaped hb db st
  have e : ltQ (rk a) (rk b) st = .ok (.bl (decide (od a b < 0))) st := by
    obtain ⟨xs, e1⟩ := rk_tup ha
    obtain ⟨ys, e2⟩ := rk_tup hb
    have : ltP (rk a) (rk b) st = some (decide (od a b < 0)) := by
      unfold ltP
      rw [t1, t2]
      dsimp only
      rw [z1, z2, (od_rk a b ha hb).2]
      rfl
    rw [e1, e2] at this ⊢
    show (match ltP (.tup xs) (.tup ys) st with | some k => R.ok (D.bl k) st | none => .stuck) = _
    rw [this]
  simp [b_plain_less, q1, q2, e]

end Mi

namespace Mi
open PySem L2
/-! ### widened, folded -/
mutual
def wd : D → D
  | .bl b => .int (if b then 1 else 0)
  | .tup ds => .tup (wds ds)
  | d => d
def wds : List D → List D
  | [] => []
  | d :: ds => wd d :: wds ds
end
mutual
def fo : D → D
  | .str x => .str (Txt.lower x)
  | .tup ds => .tup (fos ds)
  | d => d
def fos : List D → List D
  | [] => []
  | d :: ds => fo d :: fos ds
end
theorem wds_map : ∀ ds : List D, wds ds = ds.map wd
  | [] => by rw [wds]; rfl
  | d :: ds => by rw [wds, wds_map ds]; rfl
theorem fos_map : ∀ ds : List D, fos ds = ds.map fo
  | [] => by rw [fos]; rfl
  | d :: ds => by rw [fos, fos_map ds]; rfl
mutual
theorem wd_th : ∀ d : D, Th d → Th (wd d) ∧ sz (wd d) = sz d ∧ dp' (wd d) = dp' d
  | .bl b, h => by rw [wd]; cases b <;> exact ⟨th_small _ (by decide), by simp [sz], by simp [dp']⟩
  | .tup ds, h => by
    obtain ⟨a, b, c⟩ := wds_th ds h
    rw [wd]
    exact ⟨a, by rw [sz, sz, b], by rw [dp', dp', c]⟩
  | .non, h => by
    have e : wd (.non) = .non := by simp [wd]
    rw [e]; exact ⟨h, rfl, rfl⟩
  | .int i, h => by
    have e : wd (.int i) = .int i := by simp [wd]
    rw [e]; exact ⟨h, rfl, rfl⟩
  | .str x, h => by
    have e : wd (.str x) = .str x := by simp [wd]
    rw [e]; exact ⟨h, rfl, rfl⟩
  | .obj _, h => h.elim
  | .fn _, h => h.elim
  | .ty _, h => h.elim
  | .kl _, h => h.elim
  | .ev _, h => h.elim
theorem wds_th : ∀ ds : List D, Ths ds → Ths (wds ds) ∧ szs (wds ds) = szs ds ∧ dps' (wds ds) = dps' ds
  | [], _ => by rw [wds]; exact ⟨trivial, rfl, rfl⟩
  | d :: ds, h => by
    obtain ⟨a1, b1, c1⟩ := wd_th d h.1
    obtain ⟨a2, b2, c2⟩ := wds_th ds h.2
    rw [wds]
    exact ⟨⟨a1, a2⟩, by rw [szs, szs, b1, b2], by rw [dps', dps', c1, c2]⟩
end
mutual
theorem fo_th : ∀ d : D, Th d → Th (fo d) ∧ sz (fo d) = sz d ∧ dp' (fo d) = dp' d
  | .str x, h => by
    obtain ⟨xa, xl⟩ : asc x ∧ x.length ≤ 100 := h
    obtain ⟨a, b⟩ := lo_asc xa
    rw [fo]
    exact ⟨⟨a, by rw [b]; exact xl⟩, by rw [sz, sz, b], by simp [dp']⟩
  | .tup ds, h => by
    obtain ⟨a, b, c⟩ := fos_th ds h
    rw [fo]
    exact ⟨a, by rw [sz, sz, b], by rw [dp', dp', c]⟩
  | .non, h => by
    have e : fo (.non) = .non := by simp [fo]
    rw [e]; exact ⟨h, rfl, rfl⟩
  | .int i, h => by
    have e : fo (.int i) = .int i := by simp [fo]
    rw [e]; exact ⟨h, rfl, rfl⟩
  | .bl x, h => by
    have e : fo (.bl x) = .bl x := by simp [fo]
    rw [e]; exact ⟨h, rfl, rfl⟩
  | .obj _, h => h.elim
  | .fn _, h => h.elim
  | .ty _, h => h.elim
  | .kl _, h => h.elim
  | .ev _, h => h.elim
theorem fos_th : ∀ ds : List D, Ths ds → Ths (fos ds) ∧ szs (fos ds) = szs ds ∧ dps' (fos ds) = dps' ds
  | [], _ => by rw [fos]; exact ⟨trivial, rfl, rfl⟩
  | d :: ds, h => by
    obtain ⟨a1, b1, c1⟩ := fo_th d h.1
    obtain ⟨a2, b2, c2⟩ := fos_th ds h.2
    rw [fos]
    exact ⟨⟨a1, a2⟩, by rw [szs, szs, b1, b2], by rw [dps', dps', c1, c2]⟩
end
/-- the manners' words -/
inductive Mw where | plain | wide | turned | folded
  deriving DecidableEq
def Mw.key : Mw → D → D
  | .wide => wd
  | .folded => fo
  | _ => id
theorem Mw.key_th (w : Mw) {d : D} (h : Th d) : Th (w.key d) ∧ sz (w.key d) = sz d ∧ dp' (w.key d) = dp' d := by
  cases w
  · exact ⟨h, rfl, rfl⟩
  · exact wd_th d h
  · exact ⟨h, rfl, rfl⟩
  · exact fo_th d h
/-- the order of a manner, as a number below, at, above 0 -/
def Mw.od (w : Mw) (a b : D) : Int := if w = .turned then Mi.od b a else Mi.od (w.key a) (w.key b)
theorem Mw.key_tup (w : Mw) (ds : List D) : w.key (.tup ds) = .tup (ds.map w.key) := by
  cases w
  · simp [Mw.key]
  · show wd _ = _; rw [wd, wds_map]; rfl
  · simp [Mw.key]
  · show fo _ = _; rw [fo, fos_map]; rfl
/-! ### the order: the same, the other way about -/
theorem ic_self (i : Int) : ic i i = 0 := by simp [ic]
theorem ic_anti (i j : Int) : ic j i = -(ic i j) := by
  unfold ic
  by_cases h : i = j
  · subst h; simp
  · have h2 : ¬ j = i := fun z => h z.symm
    by_cases k : i < j
    · rw [if_neg h2, if_neg h, if_neg (by omega), if_pos k]; rfl
    · rw [if_neg h2, if_neg h, if_pos (by omega), if_neg k]
mutual
theorem od_self : ∀ a : D, Th a → od a a = 0
  | .non, h => by simp [od, srt, ic]
  | .bl x, h => by simp [od]
  | .int x, h => by simp [od, ic]
  | .str x, h => by simp [od]
  | .tup xs, h => by simp only [od]; rw [if_pos (fz_self xs h)]; exact ic_self _
  | .obj _, h => h.elim
  | .fn _, h => h.elim
  | .ty _, h => h.elim
  | .kl _, h => h.elim
  | .ev _, h => h.elim
theorem fz_self : ∀ xs : List D, Ths xs → fz xs xs = 0
  | [], _ => by simp [fz]
  | x :: xs, h => by rw [fz, if_pos (od_self x h.1)]; exact fz_self xs h.2
end
theorem strLt_irr (x : Str) : strLt x x = false := by
  unfold strLt
  exact decide_eq_false (List.lt_irrefl _)
theorem strLt_asym {x y : Str} (h : strLt x y = true) : strLt y x = false := by
  unfold strLt at *
  exact decide_eq_false fun k => List.lt_asymm (of_decide_eq_true h) k
theorem strLt_tri {x y : Str} (h : x ≠ y) (k : strLt x y = false) : strLt y x = true := by
  unfold strLt at *
  have k' : ¬ x.cps.toList < y.cps.toList := of_decide_eq_false k
  refine decide_eq_true (Decidable.byContradiction fun z => h ?_)
  have q := List.le_antisymm (List.not_lt.mp z) (List.not_lt.mp k')
  cases x; cases y
  simp only at q
  congr
  exact Array.toList_inj.mp q
mutual
theorem od_anti : ∀ a b : D, Th a → Th b → od b a = -(od a b)
  | a, b, ha, hb => by
    by_cases c : srt a = srt b
    · cases a with
      | non => cases b <;> first | (exact hb.elim) | (simp [srt] at c; done) | (simp [od, srt, ic])
      | bl x => cases b <;> first | (exact hb.elim) | (simp [srt] at c; done) | (rename_i y; cases x <;> cases y <;> simp [od])
      | int x => cases b <;> first | (exact hb.elim) | (simp [srt] at c; done) | (simp only [od]; exact ic_anti _ _)
      | str x =>
        cases b <;> first | (exact hb.elim) | (simp [srt] at c; done) | skip
        rename_i y
        simp only [od]
        by_cases e : x = y
        · subst e; simp
        · have e2 : ¬ y = x := fun z => e z.symm
          rw [if_neg e, if_neg e2]
          cases q : strLt x y with
          | true => rw [strLt_asym q]; simp
          | false => rw [strLt_tri e q]; simp
      | tup xs =>
        cases b <;> first | (exact hb.elim) | (simp [srt] at c; done) | skip
        rename_i ys
        simp only [od]
        have q := fz_anti xs ys ha hb
        by_cases e : fz xs ys = 0
        · rw [if_pos e, if_pos (by rw [q, e]; rfl)]; exact ic_anti _ _
        · rw [if_neg e, if_neg (by rw [q]; omega)]; exact q
      | obj => exact ha.elim
      | fn => exact ha.elim
      | ty => exact ha.elim
      | kl => exact ha.elim
      | ev => exact ha.elim
    · rw [od_far ha c, od_far hb (Ne.symm c)]; exact ic_anti _ _
theorem fz_anti : ∀ xs ys : List D, Ths xs → Ths ys → fz ys xs = -(fz xs ys)
  | [], ys, _, _ => by cases ys <;> simp [fz]
  | x :: xs, [], _, _ => by simp [fz]
  | x :: xs, y :: ys, h, k => by
    have q := od_anti x y h.1 k.1
    rw [fz, fz, q]
    by_cases e : od x y = 0
    · rw [if_pos e, if_pos (by omega)]; exact fz_anti xs ys h.2 k.2
    · rw [if_neg e, if_neg (by omega)]
end
/-- behind the same beginning -/
theorem fz_pre : ∀ (hs as bs : List D), Ths hs → fz (hs ++ as) (hs ++ bs) = fz as bs
  | [], _, _, _ => rfl
  | x :: xs, as, bs, h => by
    rw [List.cons_append, List.cons_append, fz, if_pos (od_self x h.1)]
    exact fz_pre xs as bs h.2
theorem fz_end : ∀ (hs as : List D), Ths hs → fz hs (hs ++ as) = 0
  | [], _, _ => by simp [fz]
  | x :: xs, as, h => by
    rw [List.cons_append, fz, if_pos (od_self x h.1)]
    exact fz_end xs as h.2
end Mi

namespace Mi
open PySem L2
/-- what stood stays but at r; more may stand behind -/
def Ex (r : Nat) (st st' : Sto) : Prop := st.length ≤ st'.length ∧ ∀ m, m ≠ r → m < st.length → st'[m]? = st[m]?
theorem Ex.refl {r : Nat} {st : Sto} : Ex r st st := ⟨Nat.le_refl _, fun _ _ _ => rfl⟩
theorem Ex.trans {r : Nat} {a b c : Sto} (h : Ex r a b) (k : Ex r b c) : Ex r a c := ⟨Nat.le_trans h.1 k.1, fun m hm hl => (k.2 m hm (Nat.lt_of_lt_of_le hl h.1)).trans (h.2 m hm hl)⟩
theorem Sm.ex {r : Nat} {a b : Sto} (h : Sm r a b) : Ex r a b := ⟨Nat.le_of_eq h.1.symm, fun m hm _ => h.2 m hm⟩
theorem Ex.app {r : Nat} {st t : Sto} : Ex r st (st ++ t) := ⟨by simp, fun m _ hl => List.getElem?_append_left hl⟩
theorem lt_of_at {st : Sto} {n : Nat} {o : Ob} (h : st[n]? = some o) : n < st.length := (List.getElem?_eq_some_iff.mp h).1
theorem Ex.at {r : Nat} {a b : Sto} (h : Ex r a b) {n : Nat} {o : Ob} (hn : n ≠ r) (e : a[n]? = some o) : b[n]? = some o := (h.2 n hn (lt_of_at e)).trans e
theorem Fd.app {r : Nat} {C : Int} {st t : Sto} (h : Fd r C st) : Fd r C (st ++ t) := by
  obtain ⟨G, M, K, a, b⟩ := h
  exact ⟨G, M, K, at_old a, b⟩
theorem Fd.lt {r : Nat} {C : Int} {st : Sto} (h : Fd r C st) : r < st.length := by
  obtain ⟨G, M, K, a, b⟩ := h
  exact lt_of_at a
theorem eq_same {st : Sto} {a b : D} {ds : List D} (hn : (∀ i, a ≠ .int i) ∧ ∀ x, a ≠ .str x) (ha : toP st 66 a = some (.list (rps ds))) (hb : toP st 66 b = some (.list (rps ds))) (h : Ths ds) (hd : dps' ds ≤ 60) : eqD a b st = .ok (.bl true) st ∧ neD a b st = .ok (.bl false) st := by
  have : eqO a b st = some true := by
    rw [eqO]
    · exact eqG_same ha hb h hd
    · exact fun i j e => absurd e (hn.1 i)
    · exact fun i j e => absurd e (hn.2 i)
  unfold eqD neD
  rw [this]
  exact ⟨rfl, rfl⟩
theorem eq_oo {st : Sto} {m n : Nat} {ds : List D} (hm : st[m]? = some (.lst ds)) (hn : st[n]? = some (.lst ds)) (h : Ths ds) (hd : dps' ds ≤ 60) : eqD (.obj m) (.obj n) st = .ok (.bl true) st ∧ neD (.obj m) (.obj n) st = .ok (.bl false) st :=
  eq_same ⟨fun _ z => (nomatch z), fun _ z => (nomatch z)⟩ (toP_obj hm h hd) (toP_obj hn h hd) h hd
theorem eq_oe {st : Sto} {m : Nat} {ds : List D} (hm : st[m]? = some (.lst ds)) (h : Ths ds) (hd : dps' ds ≤ 60) : eqD (.obj m) (.ev ds) st = .ok (.bl true) st ∧ neD (.obj m) (.ev ds) st = .ok (.bl false) st :=
  eq_same ⟨fun _ z => (nomatch z), fun _ z => (nomatch z)⟩ (toP_obj hm h hd) (toP_ev h hd) h hd
/-- a thing that may be asked about -/
structure Ok (d : D) : Prop where
  th : Th d
  dp : dp' d ≤ 20
  sz : sz d ≤ 1000000
theorem Ok.key {d : D} (h : Ok d) (w : Mw) : Ok (w.key d) := by
  obtain ⟨a, b, c⟩ := w.key_th h.th
  exact ⟨a, by rw [c]; exact h.dp, by rw [b]; exact h.sz⟩
theorem Gt.ok {s e : Nat} {d : D} (h : Gt s e d) (hs : s ≤ 1000000) (he : e ≤ 20) : Ok d := ⟨h.th, Nat.le_trans h.dp he, Nat.le_trans h.sz hs⟩
theorem Gt.tupA {s e : Nat} {ds : List D} (h : ∀ d ∈ ds, Gt s e d) : Gt (1 + ds.length * s) (1 + e) (.tup ds) := Gt.tup h (Nat.le_refl _)
theorem Mw.anti (w : Mw) {a b : D} (ha : Th a) (hb : Th b) : w.od b a = -(w.od a b) := by
  unfold Mw.od
  by_cases h : w = .turned
  · rw [if_pos h, if_pos h]; exact od_anti b a hb ha
  · rw [if_neg h, if_neg h]; exact od_anti _ _ (w.key_th ha).1 (w.key_th hb).1
theorem ths_map (w : Mw) {ds : List D} (h : Ths ds) : Ths (ds.map w.key) := Ths.of fun d hd => by
  obtain ⟨x, hx, rfl⟩ := List.mem_map.mp hd
  exact (w.key_th (h.mem x hx)).1
/-- the first place at which they are unlike tells -/
theorem Mw.od_first (w : Mw) {hs t t' : List D} {a b : D} (hh : Ths hs) (h : w.od a b ≠ 0) : w.od (.tup (hs ++ a :: t)) (.tup (hs ++ b :: t')) = w.od a b := by
  unfold Mw.od at *
  by_cases c : w = .turned
  · rw [if_pos c] at *
    simp only [Mi.od]
    rw [fz_pre hs _ _ hh, fz, if_neg h, if_neg h, if_pos c]
  · rw [if_neg c] at *
    rw [w.key_tup, w.key_tup, List.map_append, List.map_append, List.map_cons, List.map_cons]
    simp only [Mi.od]
    rw [fz_pre _ _ _ (ths_map w hh), fz, if_neg h, if_neg h, if_neg c]
theorem Mw.od_amid (w : Mw) {hs t : List D} {a b : D} (hh : Ths hs) (ht : Ths t) (h : w.od a b = 0) : w.od (.tup (hs ++ a :: t)) (.tup (hs ++ b :: t)) = 0 := by
  unfold Mw.od at *
  by_cases c : w = .turned
  · rw [if_pos c] at *
    simp only [Mi.od]
    rw [fz_pre hs _ _ hh, fz, if_pos h, fz_self t ht, if_pos rfl]
    simp [ic]
  · rw [if_neg c] at *
    rw [w.key_tup, w.key_tup, List.map_append, List.map_append, List.map_cons, List.map_cons]
    simp only [Mi.od]
    rw [fz_pre _ _ _ (ths_map w hh), fz, if_pos h, fz_self _ (ths_map w ht), if_pos rfl]
    simp [ic]
theorem od_begin {hs t : List D} (hh : Ths hs) (ht : t ≠ []) : Mi.od (.tup hs) (.tup (hs ++ t)) = -1 := by
  simp only [Mi.od]
  rw [fz_end hs t hh, if_pos rfl]
  have : 0 < t.length := List.length_pos_iff.mpr ht
  unfold ic
  rw [if_neg (by simp; omega), if_pos (by simp; omega)]
theorem Mw.od_begin (w : Mw) {hs t : List D} (hh : Ths hs) (ht : t ≠ []) : if w = .turned then w.od (.tup (hs ++ t)) (.tup hs) = -1 else w.od (.tup hs) (.tup (hs ++ t)) = -1 := by
  unfold Mw.od
  by_cases c : w = .turned
  · rw [if_pos c, if_pos c]; exact Mi.od_begin hh ht
  · rw [if_neg c, if_neg c, w.key_tup, w.key_tup, List.map_append]
    exact Mi.od_begin (ths_map w hh) (by simpa using ht)
end Mi

namespace Mi
open PySem L2
theorem widened_p : ∀ (m : Nat) (d : D) (st : Sto), Th d → dp' d < m → sz d ≤ 1000000 → Phi prog m i_widened [d] st = .ok (wd d) st := by
  intro m
  induction m with
  | zero => intro d st _ h; omega
  | succ m ih =>
    intro d st ht hd hs
    rw [Phi_widened, runB_eq]
    cases d with
    | tup ds =>
      have hl : ds.length ≤ sizeLine := lsz _ (by rw [sz] at hs; have := szs_len ds; omega)
      have e := comp_map (st := st) (F := eCall (Phi prog m i_widened) (aCons (eVar 1) aNil)) (env := [some (.tup ds), none]) (s := 1) (f := wd) (ds := ds) (fun x hx => by
        have := ih x st (Ths.mem ht x hx) (by rw [dp'] at hd; have := dps_mem hx; omega) (by rw [sz] at hs; have := szs_mem hx; omega)
        simp [this])
      rw [wd, wds_map]
      simp [b_widened, isiD, tyD, isi, truD, iterD, hl, wipeE, e, tupleL, lsz]
    | kl => exact ht.elim
    | ev => exact ht.elim
    | obj => exact ht.elim
    | fn => exact ht.elim
    | ty => exact ht.elim
    | non => simp [b_widened, isiD, tyD, isi, truD, wd]
    | bl x => simp [b_widened, isiD, tyD, isi, truD, wd]
    | int x => simp [b_widened, isiD, tyD, isi, truD, wd]
    | str x => simp [b_widened, isiD, tyD, isi, truD, wd]
theorem folded_p : ∀ (m : Nat) (d : D) (st : Sto), Th d → dp' d < m → sz d ≤ 1000000 → Phi prog m i_folded [d] st = .ok (fo d) st := by
  intro m
  induction m with
  | zero => intro d st _ h; omega
  | succ m ih =>
    intro d st ht hd hs
    rw [Phi_folded, runB_eq]
    cases d with
    | tup ds =>
      have hl : ds.length ≤ sizeLine := lsz _ (by rw [sz] at hs; have := szs_len ds; omega)
      have e := comp_map (st := st) (F := eCall (Phi prog m i_folded) (aCons (eVar 1) aNil)) (env := [some (.tup ds), none]) (s := 1) (f := fo) (ds := ds) (fun x hx => by
        have := ih x st (Ths.mem ht x hx) (by rw [dp'] at hd; have := dps_mem hx; omega) (by rw [sz] at hs; have := szs_mem hx; omega)
        simp [this])
      rw [fo, fos_map]
      simp [b_folded, isiD, tyD, isi, truD, iterD, hl, wipeE, e, tupleL, lsz]
    | kl => exact ht.elim
    | ev => exact ht.elim
    | obj => exact ht.elim
    | fn => exact ht.elim
    | ty => exact ht.elim
    | non => simp [b_folded, isiD, tyD, isi, truD, fo]
    | bl x => simp [b_folded, isiD, tyD, isi, truD, fo]
    | int x => simp [b_folded, isiD, tyD, isi, truD, fo]
    | str x =>
      have hx : x.length ≤ 100 := ht.2
      have e := lower_ok (x := x) (st := st) (by omega)
      simp [b_folded, isiD, tyD, isi, truD, fo, hasT, e]
def fLike : Mw → Nat
  | .wide => i_wide_like
  | .folded => i_folded_like
  | _ => i_plain_like
def fLess : Mw → Nat
  | .wide => i_wide_less
  | .folded => i_folded_less
  | .turned => i_turned_less
  | _ => i_plain_less
theorem flike_p (w : Mw) (m : Nat) (a b : D) (st : Sto) (ha : Ok a) (hb : Ok b) (hm : 31 ≤ m) : Phi prog m (fLike w) [a, b] st = .ok (.bl (decide (w.od a b = 0))) st := by
  obtain ⟨m, rfl⟩ : ∃ k, m = k + 1 := ⟨m - 1, by omega⟩
  have ka := ha.key w
  have kb := hb.key w
  cases w with
  | plain => exact like_p _ a b st ha.th hb.th ha.dp hb.dp (by omega) ha.sz hb.sz
  | turned =>
    have := od_anti b a hb.th ha.th
    have e : decide (Mw.turned.od a b = 0) = decide (od a b = 0) := by
      show decide (od b a = 0) = _
      congr 1
      exact propext ⟨fun z => by omega, fun z => by omega⟩
    rw [e]
    exact like_p _ a b st ha.th hb.th ha.dp hb.dp (by omega) ha.sz hb.sz
  | wide =>
    have q1 := widened_p m a st ha.th (by have := ha.dp; omega) ha.sz
    have q2 := widened_p m b st hb.th (by have := hb.dp; omega) hb.sz
    have q3 := like_p m (wd a) (wd b) st ka.th kb.th ka.dp kb.dp (by omega) ka.sz kb.sz
    show Phi prog (m + 1) i_wide_like [a, b] st = .ok (.bl (decide (od (wd a) (wd b) = 0))) st
    rw [Phi_wide_like, runB_eq]
    simp [b_wide_like, q1, q2, q3]
  | folded =>
    have q1 := folded_p m a st ha.th (by have := ha.dp; omega) ha.sz
    have q2 := folded_p m b st hb.th (by have := hb.dp; omega) hb.sz
    have q3 := like_p m (fo a) (fo b) st ka.th kb.th ka.dp kb.dp (by omega) ka.sz kb.sz
    show Phi prog (m + 1) i_folded_like [a, b] st = .ok (.bl (decide (od (fo a) (fo b) = 0))) st
    rw [Phi_folded_like, runB_eq]
    simp [b_folded_like, q1, q2, q3]
theorem fless_p (w : Mw) (m : Nat) (a b : D) (st : Sto) (ha : Ok a) (hb : Ok b) (hm : 31 ≤ m) : Phi prog m (fLess w) [a, b] st = .ok (.bl (decide (w.od a b < 0))) st := by
  obtain ⟨m, rfl⟩ : ∃ k, m = k + 1 := ⟨m - 1, by omega⟩
  have ka := ha.key w
  have kb := hb.key w
  cases w with
  | plain => exact less_p _ a b st ha.th hb.th ha.dp hb.dp (by omega) ha.sz hb.sz
  | turned =>
    have q3 := less_p m b a st hb.th ha.th hb.dp ha.dp (by omega) hb.sz ha.sz
    show Phi prog (m + 1) i_turned_less [a, b] st = .ok (.bl (decide (od b a < 0))) st
    rw [Phi_turned_less, runB_eq]
    simp [b_turned_less, q3]
  | wide =>
    have q1 := widened_p m a st ha.th (by have := ha.dp; omega) ha.sz
    have q2 := widened_p m b st hb.th (by have := hb.dp; omega) hb.sz
    have q3 := less_p m (wd a) (wd b) st ka.th kb.th ka.dp kb.dp (by omega) ka.sz kb.sz
    show Phi prog (m + 1) i_wide_less [a, b] st = .ok (.bl (decide (od (wd a) (wd b) < 0))) st
    rw [Phi_wide_less, runB_eq]
    simp [b_wide_less, q1, q2, q3]
  | folded =>
    have q1 := folded_p m a st ha.th (by have := ha.dp; omega) ha.sz
    have q2 := folded_p m b st hb.th (by have := hb.dp; omega) hb.sz
    have q3 := less_p m (fo a) (fo b) st ka.th kb.th ka.dp kb.dp (by omega) ka.sz kb.sz
    show Phi prog (m + 1) i_folded_less [a, b] st = .ok (.bl (decide (od (fo a) (fo b) < 0))) st
    rw [Phi_folded_less, runB_eq]
    simp [b_folded_less, q1, q2, q3]
def fDig : Mw → Nat
  | .wide => i_wide_digest
  | .folded => i_folded_digest
  | _ => i_plain_digest
def manOb (w : Mw) : Ob := .ins c_Manner [("held_like", .fn (fLike w)), ("held_less", .fn (fLess w)), ("held_digest", .fn (fDig w))]
def Mw.word : Mw → Str
  | .plain => "plain" | .wide => "wide" | .turned => "turned" | .folded => "folded"
theorem ok2_like (w : Mw) : ok_2 (fLike w) = true := by cases w <;> rfl
theorem ok2_less (w : Mw) : ok_2 (fLess w) = true := by cases w <;> rfl
@[simp] theorem at_end {st : Sto} {o : Ob} : (st ++ [o])[st.length]? = some o := by simp
@[simp] theorem set_end {st : Sto} {o p : Ob} : (st ++ [o]).set st.length p = st ++ [p] := by simp
theorem manner_p (w : Mw) (m : Nat) (st : Sto) : Phi prog (m + 2) i_manner_of [.str w.word] st = .ok (.obj st.length) (st ++ [manOb w]) := by
  have f : ∀ n : Nat, isD (.fn n) .non = fun st => .ok (.bl false) st := fun n => rfl
  rw [Phi_manner_of, runB_eq]
  cases w <;> simp [b_manner_of, Mw.word, gd_Manner____init___, gd_Manner____init___less, gd_Manner____init___like_less_digest, pick, Phi_Manner____init__, runB_eq, b_Manner____init__, T_held_like, T_held_less, T_held_digest, f, putD, manOb, fLike, fLess, fDig]
theorem is_like_p (w : Mw) (m : Nat) {st : Sto} {n : Nat} (h : st[n]? = some (manOb w)) (a b : D) (ha : Ok a) (hb : Ok b) (hm : 32 ≤ m) : Phi prog m i_Manner__is_like [.obj n, a, b] st = .ok (.bl (decide (w.od a b = 0))) st := by
  obtain ⟨m, rfl⟩ : ∃ k, m = k + 1 := ⟨m - 1, by omega⟩
  have q := flike_p w m a b st ha hb (by omega)
  rw [Phi_Manner__is_like, runB_eq]
  simp [b_Manner__is_like, h, manOb, T_held_like, List.lookup, ok2_like, q]
theorem is_less_p (w : Mw) (m : Nat) {st : Sto} {n : Nat} (h : st[n]? = some (manOb w)) (a b : D) (ha : Ok a) (hb : Ok b) (hm : 32 ≤ m) : Phi prog m i_Manner__is_less [.obj n, a, b] st = .ok (.bl (decide (w.od a b < 0))) st := by
  obtain ⟨m, rfl⟩ : ∃ k, m = k + 1 := ⟨m - 1, by omega⟩
  have q := fless_p w m a b st ha hb (by omega)
  rw [Phi_Manner__is_less, runB_eq]
  simp [b_Manner__is_less, h, manOb, T_held_less, List.lookup, ok2_less, q]
end Mi

namespace Mi
open PySem L2
def stir (f n : Int) : Int := (f * 1103 + n * 7919 + 104729) % 2147483648
theorem stir0 (f n : Int) : 0 ≤ stir f n := Int.emod_nonneg _ (by decide)
theorem stir1 (f n : Int) : stir f n < 2147483648 := Int.emod_lt_of_pos _ (by decide)
theorem stir_p (m : Nat) (f n : Int) (st : Sto) (hf : 0 ≤ f) (hf1 : f < 2147483648) (hn : n.natAbs < 2 ^ 240) : Phi prog (m + 1) i_stirred_on [.int f, .int n] st = .ok (.int (stir f n)) st := by
  rw [Phi_stirred_on, runB_eq]
  have m1 : ∀ st, mulD (.int f) (.int 1103) st = .ok (.int (f * 1103)) st := fun st => mul_ok st 31 11 (by omega) (by decide) (by decide) (by decide) (by decide)
  have m2 : ∀ st, mulD (.int n) (.int 7919) st = .ok (.int (n * 7919)) st := fun st => mul_ok st 240 13 hn (by decide) (by decide) (by decide) (by decide)
  have k1 : ∀ (x : Int) (st : Sto), modD (.int x) (.int 2147483648) st = .ok (.int (x % 2147483648)) st := fun x st => mod_int (by decide)
  simp [b_stirred_on, m1, m2, k1, stir]
def sgs (z : Str) : Int → List Nat → Int
  | f, [] => f
  | f, c :: cs => sgs z (stir f (Txt.find z ⟨#[c]⟩)) cs
theorem sgs_rng (z : Str) : ∀ (cs : List Nat) (f : Int), 0 ≤ f → f < 2147483648 → 0 ≤ sgs z f cs ∧ sgs z f cs < 2147483648
  | [], f, h, k => ⟨h, k⟩
  | c :: cs, f, _, _ => sgs_rng z cs _ (stir0 _ _) (stir1 _ _)
mutual
def pd : D → Int
  | .non => stir 17 0
  | .bl b => stir (stir 17 1) (if b then 1 else 0)
  | .int i => stir (stir 17 2) i
  | .str x => stir (sgs " !\"#$&'()*+,-./0123456789:;<=>?@ABCDEFGHIJKLMNOPQRSTUVWXYZ[\\]^_`abcdefghijklmnopqrstuvwxyz{|}~" (stir 17 3) x.cps.toList) (x.length : Nat)
  | .tup ds => stir (pds (stir 17 4) ds) (ds.length : Nat)
  | _ => 0
def pds : Int → List D → Int
  | f, [] => f
  | f, d :: ds => pds (stir f (pd d)) ds
end
theorem pds_rng : ∀ (ds : List D) (f : Int), 0 ≤ f → f < 2147483648 → 0 ≤ pds f ds ∧ pds f ds < 2147483648
  | [], f, h, k => ⟨by rw [pds]; exact h, by rw [pds]; exact k⟩
  | d :: ds, f, _, _ => by rw [pds]; exact pds_rng ds _ (stir0 _ _) (stir1 _ _)
theorem pd_rng (d : D) : 0 ≤ pd d ∧ pd d < 2147483648 := by
  cases d <;> simp only [pd] <;> first | exact ⟨stir0 _ _, stir1 _ _⟩ | decide
theorem dB_is (Φ : Fam) {z : Str} (hz : (Str.ofString " !\"#$&'()*+,-./0123456789:;<=>?@ABCDEFGHIJKLMNOPQRSTUVWXYZ[\\]^_`abcdefghijklmnopqrstuvwxyz{|}~") = z) : L1_plain_digest Φ = (sSeq (sAsg (.nm 1) (eCall (Φ i_stirred_on) (aCons (eVar 1) (aCons (eIf (tst (e1 (isiD .str) (eVar 0))) (eMt "str" findM (eC (.str z)) (aCons (eVar 2) (aNil))) (eCall (Φ i_plain_digest) (aCons (eVar 2) (aNil)))) (aNil)))))
    (sNil)) := by subst hz; rfl
theorem dig_str (m : Nat) (z x : Str) (st : Sto) (ez : (Str.ofString " !\"#$&'()*+,-./0123456789:;<=>?@ABCDEFGHIJKLMNOPQRSTUVWXYZ[\\]^_`abcdefghijklmnopqrstuvwxyz{|}~") = z) (hz : ∀ c < 128, (Txt.find z ⟨#[c]⟩).natAbs < 1000) : ∀ (cs : List Nat) (f : Int) (e : Option D), (∀ c ∈ cs, c < 128) → 0 ≤ f → f < 2147483648 →
    ∃ e', forL [] (.nm 2) (L1_plain_digest (Phi prog (m + 1))) (cs.map fun c => .str ⟨#[c]⟩) [some (.str x), some (.int f), e] st = .nx [some (.str x), some (.int (sgs z f cs)), e'] st
  | [], f, e, _, _, _ => ⟨e, forL_nil rfl⟩
  | c :: cs, f, e, h, h0, h1 => by
    obtain ⟨e', q⟩ := dig_str m z x st ez hz cs (stir f (Txt.find z ⟨#[c]⟩)) (some (.str ⟨#[c]⟩)) (fun y hy => h y (List.mem_cons_of_mem _ hy)) (stir0 _ _) (stir1 _ _)
    refine ⟨e', ?_⟩
    rw [List.map_cons, forL_cons rfl rfl]
    have s := stir_p m f (Txt.find z ⟨#[c]⟩) st h0 h1 (Nat.lt_of_lt_of_le (hz c (h c List.mem_cons_self)) (by decide))
    have fd : findM (.str z) [.str ⟨#[c]⟩] st = .ok (.int (Txt.find z ⟨#[c]⟩)) st := rfl
    have e1 : L1_plain_digest (Phi prog (m + 1)) [some (.str x), some (.int f), some (.str ⟨#[c]⟩)] st = .nx [some (.str x), some (.int (stir f (Txt.find z ⟨#[c]⟩))), some (.str ⟨#[c]⟩)] st := by
      rw [dB_is _ ez]
      simp [hasT_str, fd, s]
    simp [e1]
    exact q
theorem dig_tup (m : Nat) (z : Str) (ez : (Str.ofString " !\"#$&'()*+,-./0123456789:;<=>?@ABCDEFGHIJKLMNOPQRSTUVWXYZ[\\]^_`abcdefghijklmnopqrstuvwxyz{|}~") = z) (xs : List D) (st : Sto) : ∀ (ds : List D) (f : Int) (e : Option D), (∀ d ∈ ds, Phi prog (m + 1) i_plain_digest [d] st = .ok (.int (pd d)) st) → 0 ≤ f → f < 2147483648 →
    ∃ e', forL [] (.nm 2) (L1_plain_digest (Phi prog (m + 1))) ds [some (.tup xs), some (.int f), e] st = .nx [some (.tup xs), some (.int (pds f ds)), e'] st
  | [], f, e, _, _, _ => ⟨e, by rw [pds]; exact forL_nil rfl⟩
  | d :: ds, f, e, h, h0, h1 => by
    obtain ⟨e', q⟩ := dig_tup m z ez xs st ds (stir f (pd d)) (some d) (fun y hy => h y (List.mem_cons_of_mem _ hy)) (stir0 _ _) (stir1 _ _)
    refine ⟨e', ?_⟩
    rw [forL_cons rfl rfl, pds]
    have s := stir_p m f (pd d) st h0 h1 (by have := pd_rng d; omega)
    have e1 : L1_plain_digest (Phi prog (m + 1)) [some (.tup xs), some (.int f), some d] st = .nx [some (.tup xs), some (.int (stir f (pd d))), some d] st := by
      rw [dB_is _ ez]
      simp [h d List.mem_cons_self, s]
    simp [e1]
    exact q
theorem dig_p : ∀ (m : Nat) (d : D) (st : Sto), Th d → dp' d + 1 < m → sz d ≤ 1000000 → Phi prog m i_plain_digest [d] st = .ok (.int (pd d)) st := by
  intro m
  induction m with
  | zero => intro d st _ h; omega
  | succ m ih =>
    intro d st ht hd hs
    obtain ⟨m, rfl⟩ : ∃ k, m = k + 1 := ⟨m - 1, by omega⟩
    rw [Phi_plain_digest, runB_eq]
    have a1 := srt_p m d st ht
    have a2 := stir_p m 17 (srt d) st (by decide) (by decide) (srt_rng d)
    have a3 : ∀ n : Int, n.natAbs < 2 ^ 240 → Phi prog (m + 1) i_stirred_on [.int (stir 17 (srt d)), .int n] st = .ok (.int (stir (stir 17 (srt d)) n)) st := fun n hn => stir_p m _ n st (stir0 _ _) (stir1 _ _) hn
    cases d with
    | kl => exact ht.elim
    | ev => exact ht.elim
    | obj => exact ht.elim
    | fn => exact ht.elim
    | ty => exact ht.elim
    | non =>
      simp only [srt] at a1 a2
      simp [b_plain_digest, a1, a2, pd]
    | bl b =>
      have a4 := a3 (if b then 1 else 0) (by cases b <;> decide)
      have a5 : intB [.bl b] st = .ok (.int (if b then 1 else 0)) st := rfl
      rw [pd]
      simp only [srt] at a1 a2 a4
      generalize stir (stir 17 1) (if b then 1 else 0) = w at *
      simp [b_plain_digest, a1, a2, isiD, tyD, isi, truD, a4, a5]
    | int i =>
      have a4 := a3 i ht
      have a5 : intB [.int i] st = .ok (.int i) st := rfl
      rw [pd]
      simp only [srt] at a1 a2 a4
      simp [b_plain_digest, a1, a2, isiD, tyD, isi, truD, a4, a5]
    | str x =>
      rw [pd]
      unfold b_plain_digest
      generalize hz : (Str.ofString " !\"#$&'()*+,-./0123456789:;<=>?@ABCDEFGHIJKLMNOPQRSTUVWXYZ[\\]^_`abcdefghijklmnopqrstuvwxyz{|}~") = z
      have zf : ∀ c < 128, (Txt.find z ⟨#[c]⟩).natAbs < 1000 := by rw [← hz]; decide +kernel
      simp only [srt] at a1 a2
      obtain ⟨xa, xl⟩ : asc x ∧ x.length ≤ 100 := ht
      obtain ⟨e', q⟩ := dig_str m z x st hz zf x.cps.toList (stir 17 3) none xa (stir0 _ _) (stir1 _ _)
      have r := sgs_rng z x.cps.toList (stir 17 3) (stir0 _ _) (stir1 _ _)
      have a4 := stir_p m (sgs z (stir 17 3) x.cps.toList) (x.length : Nat) st r.1 r.2 (by omega)
      have il : iterD (.str x) st = some (x.cps.toList.map fun c => .str ⟨#[c]⟩, []) := rfl
      have a5 := len_str (z := x) (st := st) (lsz _ (by omega))
      simp [a1, a2, isiD, tyD, isi, truD, il, q, a5, a4]
    | tup ds =>
      rw [pd]
      unfold b_plain_digest
      generalize hz : (Str.ofString " !\"#$&'()*+,-./0123456789:;<=>?@ABCDEFGHIJKLMNOPQRSTUVWXYZ[\\]^_`abcdefghijklmnopqrstuvwxyz{|}~") = z
      simp only [srt] at a1 a2
      rw [dp'] at hd
      rw [sz] at hs
      obtain ⟨e', q⟩ := dig_tup m z hz ds st ds (stir 17 4) none (fun x hx => ih x st (Ths.mem ht x hx) (by have := dps_mem hx; omega) (by have := szs_mem hx; omega)) (stir0 _ _) (stir1 _ _)
      have r := pds_rng ds (stir 17 4) (stir0 _ _) (stir1 _ _)
      have a4 := stir_p m (pds (stir 17 4) ds) (ds.length : Nat) st r.1 r.2 (by have := szs_len ds; omega)
      have il : iterD (.tup ds) st = some (ds, []) := rfl
      simp [a1, a2, isiD, tyD, isi, truD, il, q, a4]
end Mi

namespace Mi
open PySem L2
theorem lsort_p (m : Nat) (d : D) (st : Sto) (h : Th d) : ∃ t, Phi prog (m + 1) i__law_sort [d] st = .ok (.int (srt d)) (st ++ t) := by
  rw [Phi__law_sort, runB_eq]
  have hh : ∀ a b c d : Bool, hasT "list" (.obj st.length) (st ++ [.lst [.bl a, .bl b, .bl c, .bl d]]) = true := fun a b c d => hasT_lst at_new
  have ix : ∀ (a b c d : Bool) (k : Nat), firstAt (.bl true) [V.bl a, V.bl b, V.bl c, V.bl d] 0 = some k → indexM (.obj st.length) [.bl true] (st ++ [.lst [.bl a, .bl b, .bl c, .bl d]]) = .ok (.int (k : Nat)) (st ++ [.lst [.bl a, .bl b, .bl c, .bl d]]) := fun a b c d k e => idx_p at_new e
  cases d with
  | kl => exact h.elim
  | ev => exact h.elim
  | obj => exact h.elim
  | fn => exact h.elim
  | ty => exact h.elim
  | non => exact ⟨[], by simp [b__law_sort, srt]⟩
  | bl b =>
    have e := ix true true false false 0 (by decide)
    exact ⟨[.lst [.bl true, .bl true, .bl false, .bl false]], by simp [b__law_sort, isiD, tyD, isi, truD, srt, lsz, hh, e]⟩
  | int b =>
    have e := ix false true false false 1 (by decide)
    exact ⟨[.lst [.bl false, .bl true, .bl false, .bl false]], by simp [b__law_sort, isiD, tyD, isi, truD, srt, lsz, hh, e]⟩
  | str b =>
    have e := ix false false true false 2 (by decide)
    exact ⟨[.lst [.bl false, .bl false, .bl true, .bl false]], by simp [b__law_sort, isiD, tyD, isi, truD, srt, lsz, hh, e]⟩
  | tup b =>
    have e := ix false false false true 3 (by decide)
    exact ⟨[.lst [.bl false, .bl false, .bl false, .bl true]], by simp [b__law_sort, isiD, tyD, isi, truD, srt, lsz, hh, e]⟩
theorem ord_loop (Φ : Fam) (x0 x1 x2 x3 : Option D) : ∀ (as bs : List D) (st : Sto) (x4 x5 x6 : Option D), (∀ a ∈ as, ∀ b ∈ bs, ∀ st, ∃ t, Φ i__law_order [a, b] st = .ok (.int (od a b)) (st ++ t)) →
    (fz as bs ≠ 0 ∧ ∃ t, forL [] (.tp [4, 5]) (L1__law_order Φ) (pairs as bs) [x0, x1, x2, x3, x4, x5, x6] st = .rt (.int (fz as bs)) (st ++ t)) ∨
    (fz as bs = 0 ∧ ∃ y4 y5 y6 t, forL [] (.tp [4, 5]) (L1__law_order Φ) (pairs as bs) [x0, x1, x2, x3, x4, x5, x6] st = .nx [x0, x1, x2, x3, y4, y5, y6] (st ++ t))
  | [], bs, st, x4, x5, x6, _ => .inr ⟨by rw [fz], x4, x5, x6, [], by rw [List.append_nil]; exact forL_nil rfl⟩
  | a :: as, [], st, x4, x5, x6, _ => .inr ⟨by rw [fz], x4, x5, x6, [], by rw [List.append_nil]; exact forL_nil rfl⟩
  | a :: as, b :: bs, st, x4, x5, x6, h => by
    obtain ⟨t, q⟩ := h a List.mem_cons_self b List.mem_cons_self st
    have e : pairs (a :: as) (b :: bs) = .tup [a, b] :: pairs as bs := rfl
    rw [e, forL_cons (env1 := [x0, x1, x2, x3, some a, some b, x6]) rfl rfl, fz]
    by_cases c : od a b = 0
    · rw [if_pos c]
      rw [c] at q
      rcases ord_loop Φ x0 x1 x2 x3 as bs (st ++ t) (some a) (some b) (some (.int 0)) (fun a' ha b' hb => h a' (List.mem_cons_of_mem _ ha) b' (List.mem_cons_of_mem _ hb)) with ⟨z, t', q'⟩ | ⟨z, y4, y5, y6, t', q'⟩
      · refine .inl ⟨z, t ++ t', ?_⟩
        simp [L1__law_order, q]
        rw [← List.append_assoc]
        exact q'
      · refine .inr ⟨z, y4, y5, y6, t ++ t', ?_⟩
        simp [L1__law_order, q]
        rw [← List.append_assoc]
        exact q'
    · rw [if_neg c]
      refine .inl ⟨c, t, ?_⟩
      simp [L1__law_order, q, c]
theorem ord_p : ∀ (m : Nat) (a b : D) (st : Sto), Th a → Th b → dp' a + 1 < m → sz a ≤ 1000000 → sz b ≤ 1000000 → ∃ t, Phi prog m i__law_order [a, b] st = .ok (.int (od a b)) (st ++ t) := by
  intro m
  induction m with
  | zero => intro a b st _ _ h; omega
  | succ m ih =>
    intro a b st ha hb hd sa sb
    obtain ⟨m, rfl⟩ : ∃ k, m = k + 1 := ⟨m - 1, by omega⟩
    rw [Phi__law_order, runB_eq]
    obtain ⟨t1, q1⟩ := lsort_p m a st ha
    obtain ⟨t2, q2⟩ := lsort_p m b (st ++ t1) hb
    by_cases c : srt a = srt b
    case neg =>
      refine ⟨t1 ++ t2, ?_⟩
      have hk := two_at (decide (srt a < srt b))
      simp only [decide_eq_true_eq] at hk
      rw [od_far ha c]
      simp [b__law_order, q1, q2, c, lsz, hk, ic]
    case pos =>
      rw [← c] at q2
      cases a with
      | kl => exact ha.elim
      | ev => exact ha.elim
      | obj => exact ha.elim
      | fn => exact ha.elim
      | ty => exact ha.elim
      | non =>
        refine ⟨t1 ++ t2, ?_⟩
        rw [od, ← c]
        simp [b__law_order, q1, q2, isiD, tyD, isi, truD, ic, srt]
      | bl x =>
        cases b <;> try (simp [srt] at c; done)
        rename_i y
        have e1 : ∀ st, eqD (.bl x) (.bl y) st = .ok (.bl (decide (x = y))) st := fun st => by cases x <;> cases y <;> rfl
        refine ⟨t1 ++ t2, ?_⟩
        by_cases e : x = y
        · subst e
          simp [b__law_order, q1, q2, isiD, tyD, isi, truD, e1, od]
        · have hk := two_at (!x && y)
          simp only [od, if_neg e]
          simp at hk
          simp [b__law_order, q1, q2, isiD, tyD, isi, truD, e1, ltQ_bl, e, lsz, hk]
      | int x =>
        cases b <;> try (simp [srt] at c; done)
        rename_i y
        refine ⟨t1 ++ t2, ?_⟩
        by_cases e : x = y
        · subst e
          simp [b__law_order, q1, q2, isiD, tyD, isi, truD, od, ic]
        · have hk := two_at (decide (x < y))
          simp at hk
          simp [b__law_order, q1, q2, isiD, tyD, isi, truD, e, lsz, hk, od, ic]
      | str x =>
        cases b <;> try (simp [srt] at c; done)
        rename_i y
        refine ⟨t1 ++ t2, ?_⟩
        by_cases e : x = y
        · subst e
          simp [b__law_order, q1, q2, isiD, tyD, isi, truD, od]
        · have hk := two_at (strLt x y)
          simp [b__law_order, q1, q2, isiD, tyD, isi, truD, e, lsz, hk, od]
      | tup xs =>
        cases b <;> try (first | exact hb.elim | (simp [srt] at c; done))
        rename_i ys
        rw [dp'] at hd
        rw [sz] at sa sb
        have st1 := ord_loop (Phi prog (m + 1)) (some (.tup xs)) (some (.tup ys)) (some (.int (srt (.tup xs)))) (some (.int (srt (.tup xs)))) xs ys (st ++ t1 ++ t2) none none none (fun x hx y hy st => ih x y st (Ths.mem ha x hx) (Ths.mem hb y hy) (by have := dps_mem hx; omega) (by have := szs_mem hx; omega) (by have := szs_mem hy; omega))
        rcases st1 with ⟨k0, t3, q3⟩ | ⟨k0, y4, y5, y6, t3, q3⟩
        · refine ⟨t1 ++ t2 ++ t3, ?_⟩
          simp only [od, if_neg k0]
          simp [b__law_order, q1, q2, isiD, tyD, isi, truD] at q3 ⊢
          simp [q3]
        · obtain ⟨t4, q4⟩ := ih (.int xs.length) (.int ys.length) (st ++ t1 ++ t2 ++ t3) (by have := szs_len xs; show ((xs.length : Nat) : Int).natAbs < 2 ^ 240; omega) (by have := szs_len ys; show ((ys.length : Nat) : Int).natAbs < 2 ^ 240; omega) (by simp [dp']; omega) (by simp [sz]) (by simp [sz])
          refine ⟨t1 ++ t2 ++ t3 ++ t4, ?_⟩
          have e5 : od (.tup xs) (.tup ys) = od (.int xs.length) (.int ys.length) := by simp only [od, if_pos k0]
          rw [e5]
          simp [b__law_order, q1, q2, isiD, tyD, isi, truD] at q3 q4 ⊢
          simp [q3, q4]
end Mi

namespace Mi
open PySem L2
theorem take_ok (n : Nat) {st : Sto} {r : Nat} {G M C many : Int} (h : st[r]? = some (.lst [.int G, .int M, .int C])) (hm : 0 < many) (hm2 : many < 2 ^ 64) (hG : 0 ≤ G) (hC : 0 ≤ C) (hC2 : C < 2 ^ 60) :
    ∃ d G' C', 0 ≤ d ∧ d < many ∧ 0 ≤ G' ∧ 0 ≤ C' ∧ C' ≤ C + 1 ∧ Phi prog (n + 1) i__law_take [.obj r, .int many] st = .ok (.int d) (st.set r (.lst [.int G', .int M, .int C'])) := by
  rw [Phi__law_take, runB_eq]
  have hlog : many.natAbs.log2 < 9000 := by
    have := log_le (a := many.natAbs) (b := 64) (by omega) (by decide)
    omega
  by_cases hg : 0 < G
  · refine ⟨G % many, G / many, C, Int.emod_nonneg _ (by omega), Int.emod_lt_of_pos _ hm, Int.ediv_nonneg hG (by omega), hC, by omega, ?_⟩
    simp [b__law_take, h, hg, mod_int hm, fdiv_int hm hlog, at_set]
  · refine ⟨mix M C / 64 % many, G, C + 1, Int.emod_nonneg _ (by omega), Int.emod_lt_of_pos _ hm, hG, by omega, by omega, ?_⟩
    have m1 : ∀ st, mulD (.int 40692) (.int (C + 1)) st = .ok (.int (40692 * (C + 1))) st := fun st => mul_ok st 16 61 (by decide) (by omega) (by decide) (by decide) (by decide)
    have m2 : ∀ st, mulD (.int (40692 * (C + 1))) (.int (C + 1)) st = .ok (.int (40692 * (C + 1) * (C + 1))) st := fun st => mul_ok st 77 61 (by omega) (by omega) (by decide) (by decide) (by decide)
    have m3 : ∀ st, mulD (.int 69621) (.int (C + 1)) st = .ok (.int (69621 * (C + 1))) st := fun st => mul_ok st 17 61 (by decide) (by omega) (by decide) (by decide) (by decide)
    generalize ha : (M + 40692 * (C + 1) * (C + 1) + 69621 * (C + 1)) % 2147483647 = a
    have a0 : 0 ≤ a := by rw [← ha]; exact Int.emod_nonneg _ (by decide)
    have a1 : a < 2147483647 := by rw [← ha]; exact Int.emod_lt_of_pos _ (by decide)
    have m4 : ∀ st, mulD (.int a) (.int a) st = .ok (.int (a * a)) st := fun st => mul_ok st 31 31 (by omega) (by omega) (by decide) (by decide) (by decide)
    have m5 : ∀ st, mulD (.int 39373) (.int a) st = .ok (.int (39373 * a)) st := fun st => mul_ok st 16 31 (by decide) (by omega) (by decide) (by decide) (by decide)
    generalize hb : (a * a + 39373 * a + (C + 1)) % 2147483579 = b
    have b0 : 0 ≤ b := by rw [← hb]; exact Int.emod_nonneg _ (by decide)
    have b1 : b < 2147483579 := by rw [← hb]; exact Int.emod_lt_of_pos _ (by decide)
    have m6 : ∀ st, mulD (.int b) (.int b) st = .ok (.int (b * b)) st := fun st => mul_ok st 31 31 (by omega) (by omega) (by decide) (by decide) (by decide)
    have m7 : ∀ st, mulD (.int 16807) (.int b) st = .ok (.int (16807 * b)) st := fun st => mul_ok st 15 31 (by decide) (by omega) (by decide) (by decide) (by decide)
    have em : mix M C = (b * b + 16807 * b) % 2147483549 := by simp only [mix, ha, hb]
    have k1 : ∀ (x : Int) (st : Sto), modD (.int x) (.int 2147483647) st = .ok (.int (x % 2147483647)) st := fun x st => mod_int (by decide)
    have k2 : ∀ (x : Int) (st : Sto), modD (.int x) (.int 2147483579) st = .ok (.int (x % 2147483579)) st := fun x st => mod_int (by decide)
    have k3 : ∀ (x : Int) (st : Sto), modD (.int x) (.int 2147483549) st = .ok (.int (x % 2147483549)) st := fun x st => mod_int (by decide)
    have k4 : ∀ (x : Int) (st : Sto), fdivD (.int x) (.int 64) st = .ok (.int (x / 64)) st := fun x st => fdiv_int (by decide) (by decide +kernel)
    have k5 : ∀ (x : Int) (st : Sto), modD (.int x) (.int many) st = .ok (.int (x % many)) st := fun x st => mod_int hm
    rw [em]
    simp [b__law_take, h, hg, at_set, m1, m2, m3, m4, m5, m6, m7, k1, k2, k3, k4, k5, ha, hb]

theorem take_g (n : Nat) {st : Sto} {r : Nat} {C many : Int} (h : Fd r C st) (hm : 0 < many) (hm2 : many < 2 ^ 64) (hC : C < 2 ^ 60) :
    ∃ d st', Phi prog (n + 1) i__law_take [.obj r, .int many] st = .ok (.int d) st' ∧ 0 ≤ d ∧ d < many ∧ Fd r (C + 1) st' ∧ Sm r st st' := by
  obtain ⟨G, M, K, h0, h1, h2, h3⟩ := h
  obtain ⟨d, G', C', a, b, c, e, f, q⟩ := take_ok n h0 hm hm2 h1 h2 (by omega)
  exact ⟨d, _, q, a, b, ⟨G', M, C', by rw [at_set, h0]; rfl, c, e, by omega⟩, Sm.set⟩
theorem feed_p (m : Nat) (ns : List Int) (k : Int) (st : Sto) (h0 : 0 ≤ k) (h1 : k < 1000) : ∃ G M : Int, 0 ≤ G ∧ Phi prog (m + 1) i__law_feed [.kl (ns.map .int), .int k] st = .ok (.obj st.length) (st ++ [.lst [.int G, .int M, .int 0]]) := by
  rw [Phi__law_feed, runB_eq]
  have ln : lenB [.kl (ns.map .int)] st = .ok (.int (ns.length : Nat)) st := by unfold lenB; simp
  have k1 : ∀ (x : Int) (st : Sto), modD (.int x) (.int 2147483423) st = .ok (.int (x % 2147483423)) st := fun x st => mod_int (by decide)
  have m1 : ∀ x : Int, mulD (.int (x % 2147483423)) (.int 48271) st = .ok (.int (x % 2147483423 * 48271)) st := fun x => mul_ok st 31 16 (by have := Int.emod_nonneg x (b := 2147483423) (by decide); have := Int.emod_lt_of_pos x (b := 2147483423) (by decide); omega) (by decide) (by decide) (by decide) (by decide)
  have m2 : mulD (.int 6151) (.int k) st = .ok (.int (6151 * k)) st := mul_ok st 13 10 (by decide) (by omega) (by decide) (by decide) (by decide)
  have ab : ∀ x : Int, ∃ g : Int, 0 ≤ g ∧ absB [.int x] st = .ok (.int g) st := fun x => ⟨if x < 0 then -x else x, by split <;> omega, rfl⟩
  have pw : powD (.int 10) (.int 18) st = .ok (.int 1000000000000000000) st := rfl
  by_cases c : k < ns.length
  · obtain ⟨x, hx, ex⟩ := menu (xs := ns.map D.int) h0 (by rw [List.length_map]; exact c)
    obtain ⟨i, _, rfl⟩ := List.mem_map.mp hx
    obtain ⟨g, g0, ab⟩ := ab i
    by_cases q : g < 1000000000000000000
    · exact ⟨0, (i % 2147483423 * 48271 + 6151 * k + 17) % 2147483423, by decide, by simp [b__law_feed, K1__law_feed, K2__law_feed, ln, c, ex, pw, k1, m1, m2, ab, q, lsz]⟩
    · exact ⟨g, (i % 2147483423 * 48271 + 6151 * k + 17) % 2147483423, g0, by simp [b__law_feed, K1__law_feed, K2__law_feed, ln, c, ex, pw, k1, m1, m2, ab, q, lsz]⟩
  · have m3 := m1 0
    exact ⟨0, (6151 * k + 17) % 2147483423, by decide, by simp [b__law_feed, K1__law_feed, K2__law_feed, ln, c, pw, k1, m2, lsz, absB, mul_ok st 1 16 (i := 0) (j := 48271) (by decide) (by decide) (by decide) (by decide) (by decide)]⟩

end Mi

namespace Mi
open PySem L2
theorem thing_at (deep n : Nat) (st : Sto) (r : Nat) (C : Int) (h : Fd r C st) {B : Int} {S E s e : Nat} (hC : C + 4 < 2 ^ 60)
    {b : Int} (rec : 2 ≤ deep → ∀ (st : Sto) (C : Int), Fd r C st → C + b < 2 ^ 60 → Dr r C b (Gt s e) st (Phi prog (n + 1) i__law_thing [.obj r, .int ((deep : Int) - 1)] st)) (hb0 : 0 ≤ b) (hbB : 2 + 3 * b ≤ B) (hCB : C + B < 2 ^ 60) (hsS : 1 + 3 * s ≤ S) (heE : 2 ≤ deep → 1 + e ≤ E) (hB : 4 ≤ B) (hS : 10 ≤ S) :
    Dr r C B (Gt S E) st (Phi prog (n + 2) i__law_thing [.obj r, .int deep] st) := by
  have pw : ∀ st, powD (.int 10) (.int 30) st = .ok (.int 1000000000000000000000000000000) st := fun st => rfl
  rw [Phi__law_thing, runB_eq]
  obtain ⟨way, st1, q1, w0, w1, f1, s1⟩ := take_g n h (many := 16) (by decide) (by decide) (by omega)
  by_cases c1 : way < 6
  · obtain ⟨d, st2, q2, d0, d1, f2, s2⟩ := take_g n f1 (many := 6) (by decide) (by decide) (by omega)
    obtain ⟨x, hx, ex⟩ := menu (xs := [D.int 0, D.int 1, D.int 2, D.int 3, D.int (-1), D.int 1000000000000000000000000000000]) d0 d1
    simp [b__law_thing, q1, c1, pw, q2, lsz, ex]
    refine ⟨x, st2, rfl, ?_, f2.mono (by omega), s1.trans s2⟩
    simp at hx
    rcases hx with rfl | rfl | rfl | rfl | rfl | rfl <;> exact Gt.int (by decide) (by omega)
  by_cases c2 : way < 9
  · obtain ⟨d, st2, q2, d0, d1, f2, s2⟩ := take_g n f1 (many := 8) (by decide) (by decide) (by omega)
    obtain ⟨x, hx, ex⟩ := menu (xs := [D.str "", D.str "a", D.str "A", D.str "ab", D.str "b", D.str "to", D.str "none", D.str "\"\\(,"]) d0 d1
    simp [b__law_thing, q1, c1, c2, q2, lsz, ex]
    refine ⟨x, st2, rfl, Gt.mono (s := 10) (e := 0) ?_ hS (by omega), f2.mono (by omega), s1.trans s2⟩
    simp at hx
    rcases hx with rfl | rfl | rfl | rfl | rfl | rfl | rfl | rfl <;> exact Gt.str (by decide +kernel)
  by_cases c3 : way < 12
  · obtain ⟨x, hx, ex⟩ := menu (xs := [D.non, D.bl false, D.bl true]) (d := way - 9) (by omega) (by simp; omega)
    simp [b__law_thing, q1, c1, c2, c3, lsz, ex]
    refine ⟨x, st1, rfl, ?_, f1.mono (by omega), s1⟩
    simp at hx
    rcases hx with rfl | rfl | rfl
    · exact Gt.non (by omega)
    · exact Gt.bl (by omega)
    · exact Gt.bl (by omega)
  by_cases c4 : way < 14 ∨ (deep : Int) < 2
  · obtain ⟨d, st2, q2, d0, d1, f2, s2⟩ := take_g n f1 (many := 40) (by decide) (by decide) (by omega)
    have : Dr r C B (Gt S E) st (.ok (.int (d - 20)) st2) := ⟨_, st2, rfl, Gt.int (by omega) (by omega), f2.mono (by omega), s1.trans s2⟩
    by_cases c5 : way < 14
    · simpa [b__law_thing, q1, c1, c2, c3, c5, q2] using this
    · have c6 : (deep : Int) < 2 := c4.resolve_left c5
      simpa [b__law_thing, q1, c1, c2, c3, c5, c6, q2] using this
  · have c5 : ¬ way < 14 := fun z => c4 (.inl z)
    have c6 : ¬ (deep : Int) < 2 := fun z => c4 (.inr z)
    obtain ⟨j, st2, q2, d0, d1, f2, s2⟩ := take_g n f1 (many := 4) (by decide) (by decide) (by omega)
    obtain ⟨ys, st3, q3, l3, p3, f3, s3⟩ := comp_draw (r := r) (P := Gt s e) (F := eCall (Phi prog (n + 1) i__law_thing) (aCons (eVar 0) (aCons (e2 subD (eVar 1) (eC (.int 1))) aNil))) (env := [some (.obj r), some (.int deep), some (.int way), none]) (s := 3) hb0
      (fun d st C h hC => by simpa using rec (by omega) st C h hC) (upI 0 j.toNat) st2 (C + 1 + 1) f2 (by rw [upI_len]; have : b * (j.toNat : Int) ≤ b * 3 := Int.mul_le_mul_of_nonneg_left (by omega) hb0; omega)
    rw [upI_len] at l3 f3
    have hj : b * (j.toNat : Int) ≤ b * 3 := Int.mul_le_mul_of_nonneg_left (by omega) hb0
    simp [b__law_thing, q1, c1, c2, c3, c5, c6, q2, rng1_ok (j := j) (by omega) (by omega), upI_len, lsz j.toNat (by omega), wipeE, q3, tupleL]
    exact ⟨_, st3, rfl, (Gt.tup p3 (m := 3) (by omega)).mono hsS (heE (by omega)), f3.mono (by omega), (s1.trans s2).trans s3⟩
theorem thing_g : ∀ (deep n : Nat) (st : Sto) (r : Nat) (C : Int), Fd r C st → C + 4 ^ (deep + 2) < 2 ^ 60 →
    Dr r C (4 ^ (deep + 2)) (Gt (10 * 4 ^ deep) deep) st (Phi prog (n + deep + 2) i__law_thing [.obj r, .int deep] st) := by
  intro deep
  induction deep with
  | zero => exact fun n st r C h hC => thing_at 0 n st r C h (by omega) (b := 0) (s := 0) (e := 0) (fun z => absurd z (by decide)) (by decide) (by decide) (by omega) (by decide) (fun z => absurd z (by decide)) (by decide) (by decide)
  | succ deep ih =>
    intro n st r C h hC
    have e4 : (4 : Int) ^ (deep + 1 + 2) = 4 * 4 ^ (deep + 2) := by rw [Int.pow_succ]; omega
    have e5 : (4 : Int) ^ (deep + 2) = 4 * 4 ^ (deep + 1) := by rw [Int.pow_succ]; omega
    have e4' : (4 : Nat) ^ (deep + 1) = 4 * 4 ^ deep := by rw [Nat.pow_succ]; omega
    have p0 : (0 : Int) < 4 ^ (deep + 1) := Int.pow_pos (by decide)
    have p1 : 0 < 4 ^ deep := Nat.pow_pos (by decide)
    rw [e4] at hC ⊢
    refine thing_at (deep + 1) (n + (deep + 1)) st r C h (by omega) (b := 4 ^ (deep + 2)) (s := 10 * 4 ^ deep) (e := deep) (fun _ st C h hC => ?_) (by omega) (by omega) (by omega) (by omega) (fun _ => by omega) (by omega) (by omega)
    have := ih n st r C h hC
    have ed : ((deep + 1 : Nat) : Int) - 1 = (deep : Int) := by omega
    rw [ed]
    exact this

end Mi

namespace Mi
open PySem L2
theorem signs_g (n : Nat) (st : Sto) (r : Nat) (C : Int) (h : Fd r C st) (hC : C + 50 < 2 ^ 60) :
    Dr r C 50 (fun d => ∃ x, d = .str x ∧ asc x ∧ x.length ≤ 40) st (Phi prog (n + 2) i__law_signs [.obj r, .int 40] st) := by
  rw [Phi__law_signs, runB_eq]
  unfold b__law_signs
  generalize hz : (Str.ofString " !\"#$&'()*+,-./0123456789:;<=>?@ABCDEFGHIJKLMNOPQRSTUVWXYZ[\\]^_`abcdefghijklmnopqrstuvwxyz{|}~") = z
  have zl : z.length = 94 := by rw [← hz]; decide +kernel
  have za : asc z := by rw [← hz]; exact asc_of (by decide +kernel)
  have zs : z.length ≤ sizeLine := by rw [zl, szL]; decide
  obtain ⟨d1, st1, q1, a0, a1, f1, s1⟩ := take_g n h (many := 41) (by decide) (by decide) (by omega)
  obtain ⟨d2, st2, q2, b0, b1, f2, s2⟩ := take_g n f1 (many := 5) (by decide) (by decide) (by omega)
  obtain ⟨x, hx, ex⟩ := menu (xs := [D.int 0, D.int 1, D.int 2, D.int 40, D.int d1]) b0 b1
  obtain ⟨j, rfl, j0, j1⟩ : ∃ j, x = .int j ∧ 0 ≤ j ∧ j ≤ 40 := by
    simp at hx
    rcases hx with rfl | rfl | rfl | rfl | rfl
    · exact ⟨_, rfl, by decide, by decide⟩
    · exact ⟨_, rfl, by decide, by decide⟩
    · exact ⟨_, rfl, by decide, by decide⟩
    · exact ⟨_, rfl, by decide, by decide⟩
    · exact ⟨_, rfl, a0, by omega⟩
  obtain ⟨ys, st3, q3, l3, p3, f3, s3⟩ := comp_draw (r := r) (P := fun y => ∃ c, y = oneS c ∧ c < 128) (F := e2 ixD (eVar 2) (eCall (Phi prog (n + 1) i__law_take) (aCons (eVar 0) (aCons (eCall lenB (aCons (eVar 2) aNil)) aNil)))) (env := [some (.obj r), some (.int 40), some (.str z), some (.int j), none]) (s := 4) (b := 1) (by decide)
    (fun d st C h hC => by
      obtain ⟨i, st', q, i0, i1, f, s⟩ := take_g n h (many := 94) (by decide) (by decide) (by omega)
      have zl' : z.cps.toList.length = 94 := zl
      have hk : i.toNat < z.cps.toList.length := by omega
      have e : atI z.cps.toList i = some z.cps.toList[i.toNat] := by
        have e0 : (i.toNat : Int) = i := by omega
        have e1 := atI_nat' hk
        rw [e0] at e1
        exact e1.trans (List.getElem?_eq_getElem hk)
      have hl : lenB [.str z] st = .ok (.int 94) st := by rw [len_str zs, zl]; rfl
      simp [hl, q, ix_str' zs, e]
      exact ⟨_, st', rfl, ⟨_, rfl, za _ (List.getElem_mem hk)⟩, f, s⟩) (upI 0 j.toNat) st2 (C + 1 + 1) f2 (by rw [upI_len]; omega)
  rw [upI_len] at l3 f3
  obtain ⟨w, qw, wa, wl⟩ := join_ok (st := st3) p3 (by omega)
  simp [q1, q2, ex, lsz, rng1_ok (j := j) (by omega) (by omega), upI_len, lsz j.toNat (by omega), wipeE, q3, hasT_str, qw]
  exact ⟨_, st3, rfl, ⟨w, rfl, wa, by omega⟩, f3.mono (by omega), (s1.trans s2).trans s3⟩

theorem within_p : ∀ (m : Nat) (d : D) (st : Sto), Th d → dp' d < m → sz d ≤ 1000000 → Phi prog m i__law_many_within [d] st = .ok (.int (wi d)) st := by
  intro m
  induction m with
  | zero => intro d st _ h; omega
  | succ m ih =>
    intro d st ht hd hs
    rw [Phi__law_many_within, runB_eq]
    cases d with
    | tup ds =>
      have hl : ds.length ≤ sizeLine := lsz _ (by rw [sz] at hs; have := szs_len ds; omega)
      have e := comp_map (st := st) (F := e2 addD (eC (.int 1)) (eCall (Phi prog m i__law_many_within) (aCons (eVar 1) aNil))) (env := [some (.tup ds), none]) (s := 1) (f := fun d => .int (1 + wi d)) (ds := ds) (fun x hx => by
        have := ih x st (Ths.mem ht x hx) (by rw [dp'] at hd; have := dps_mem hx; omega) (by rw [sz] at hs; have := szs_mem hx; omega)
        simp [this])
      simp [b__law_many_within, isiD, tyD, isi, truD, iterD, hl, wipeE, e, sum_map, wis_sum, wi]
    | kl => exact ht.elim
    | ev => exact ht.elim
    | obj => exact ht.elim
    | fn => exact ht.elim
    | ty => exact ht.elim
    | _ => simp [b__law_many_within, isiD, tyD, isi, truD, wi]
theorem fit_loop (m : Nat) (st : Sto) : ∀ (fu : Nat) (ds : List D), Ths ds → dps' ds + 1 < m → 1 + szs ds ≤ 1000000 → ds.length < fu → ∃ k, whileL (tstB (e2 gtD (eCall (Phi prog m i__law_many_within) (aCons (eVar 0) aNil)) (eC (.int 40)))) (L1__law_fit (Phi prog m)) fu [some (.tup ds)] st = .nx [some (.tup (ds.take k))] st := by
  intro fu
  induction fu with
  | zero => intro ds _ _ _ h; omega
  | succ fu ih =>
    intro ds ht hd hs hl
    have w := within_p m (.tup ds) st ht (by rw [dp']; omega) (by rw [sz]; exact hs)
    rw [whileL]
    by_cases c : 40 < wi (.tup ds)
    · have hne : ds ≠ [] := by
        rintro rfl
        rw [wi, wis] at c
        omega
      have hpos : 0 < ds.length := List.length_pos_iff.mpr hne
      obtain ⟨k, hk⟩ := ih (ds.take (ds.length - 1)) (ht.take _) (by have := dps_take (ds.length - 1) ds; omega) (by have := szs_take (ds.length - 1) ds; omega) (by simp; omega)
      refine ⟨min k (ds.length - 1), ?_⟩
      rw [List.take_take] at hk
      have e1 : L1__law_fit (Phi prog m) [some (.tup ds)] st = .nx [some (.tup (ds.take (ds.length - 1)))] st := by simp [L1__law_fit, slD, cut_last]
      simp [w, c, e1]
      exact hk
    · refine ⟨ds.length, ?_⟩
      simp [w, c]
theorem fit_p (m : Nat) (st : Sto) (ds : List D) (ht : Ths ds) (hd : dps' ds + 2 < m) (hs : 1 + szs ds ≤ 100000) : ∃ k, Phi prog m i__law_fit [.tup ds] st = .ok (.tup (ds.take k)) st := by
  obtain ⟨m, rfl⟩ : ∃ k, m = k + 1 := ⟨m - 1, by omega⟩
  obtain ⟨k, hk⟩ := fit_loop m st FUEL ds ht (by omega) (by omega) (by have := szs_len ds; show ds.length < 1000000; omega)
  refine ⟨k, ?_⟩
  rw [Phi__law_fit, runB_eq]
  simp [b__law_fit, hk]
theorem full_at (deep n : Nat) (st : Sto) (r : Nat) (C : Int) (h : Fd r C st) {B b : Int} {S E s e : Nat} (h4 : deep < 4)
    (rec : 0 < deep → ∀ (st : Sto) (C : Int), Fd r C st → C + b < 2 ^ 60 → Dr r C b (Gt s e) st (Phi prog (n + 10) i__law_full [.obj r, .int ((deep : Int) - 1)] st)) (hb0 : 0 ≤ b) (hbB : 60 + 3 * b ≤ B) (hCB : C + B < 2 ^ 60) (hsS : 1 + 3 * s ≤ S)
    (heE : 0 < deep → 1 + e ≤ E) (he : e ≤ n) (hS : 50 ≤ S) (hS2 : 3 * s < 90000) : Dr r C B (Gt S E) st (Phi prog (n + 11) i__law_full [.obj r, .int deep] st) := by
  have p6 : ∀ st, powD (.int 10) (.int 6) st = .ok (.int 1000000) st := fun st => rfl
  obtain ⟨P60, h60⟩ : ∃ x : Int, x = 10 ^ 60 := ⟨_, rfl⟩
  obtain ⟨P20, h20⟩ : ∃ x : Int, x = 10 ^ 20 := ⟨_, rfl⟩
  have p60 : ∀ st, powD (.int 10) (.int 60) st = .ok (.int P60) st := fun st => by rw [h60]; rfl
  have p20 : ∀ st, powD (.int 10) (.int 20) st = .ok (.int P20) st := fun st => by rw [h20]; rfl
  rw [Phi__law_full, runB_eq]
  obtain ⟨way, st1, q1, w0, w1, f1, s1⟩ := take_g (n + 9) h (many := 8) (by decide) (by decide) (by omega)
  by_cases c1 : way < 3 ∨ (5 < way ∧ (deep : Int) = 0)
  · obtain ⟨far, st2, q2, d0, d1, f2, s2⟩ := take_g (n + 9) f1 (many := 1000000) (by decide) (by decide) (by omega)
    have m1 : ∀ st, mulD (.int far) (.int P20) st = .ok (.int (far * P20)) st := fun st => mul_ok st 20 67 (by omega) (by omega) (by decide) (by decide) (by decide)
    obtain ⟨k, st3, q3, e0, e1, f3, s3⟩ := take_g (n + 9) f2 (many := 8) (by decide) (by decide) (by omega)
    obtain ⟨x, hx, ex⟩ := menu (xs := [D.int 0, D.int 1, D.int (-1), D.int far, D.int (0 - far), D.int (P60 - 1), D.int (1 - P60), D.int (far * P20)]) e0 e1
    have fin : Dr r C B (Gt S E) st (.ok x st3) := by
      refine ⟨x, st3, rfl, ?_, f3.mono (by omega), (s1.trans s2).trans s3⟩
      simp only [List.mem_cons, List.not_mem_nil, or_false] at hx
      rcases hx with rfl | rfl | rfl | rfl | rfl | rfl | rfl | rfl
      · exact Gt.int (by decide) (by omega)
      · exact Gt.int (by decide) (by omega)
      · exact Gt.int (by decide) (by omega)
      · exact Gt.int (by omega) (by omega)
      · exact Gt.int (by omega) (by omega)
      · exact Gt.int (by omega) (by omega)
      · exact Gt.int (by omega) (by omega)
      · exact Gt.int (by subst h20; omega) (by omega)
    have ex' : atI [D.int 0, D.int 1, D.int (-1), D.int far, D.int (-far), D.int (P60 - 1), D.int (1 - P60), D.int (far * P20)] k = some x := by
      have : (0 : Int) - far = -far := by omega
      rw [this] at ex
      exact ex
    by_cases c2 : way < 3
    · simp [b__law_full, q1, c2, p6, q2, p60, p20, m1, q3, lsz, ex']
      exact fin
    · have c3 : 5 < way := (c1.resolve_left c2).1
      have c4 : deep = 0 := by have := (c1.resolve_left c2).2; omega
      subst c4
      simp [b__law_full, q1, c2, c3, p6, q2, p60, p20, m1, q3, lsz, ex']
      exact fin
  have c2 : ¬ way < 3 := fun z => c1 (.inl z)
  have c3 : ¬ (5 < way ∧ (deep : Int) = 0) := fun z => c1 (.inr z)
  by_cases c4 : way < 5
  · obtain ⟨d, st2, q2, ⟨x, rfl, xa, xl⟩, f2, s2⟩ := signs_g (n + 8) st1 r (C + 1) f1 (by omega)
    have c5 : ¬ 5 < way := by omega
    simp [b__law_full, q1, c2, c5, c4, q2]
    exact ⟨_, st2, rfl, ⟨⟨xa, by omega⟩, by rw [sz]; omega, Nat.zero_le _⟩, f2.mono (by omega), s1.trans s2⟩
  by_cases c5 : way = 5
  · subst c5
    obtain ⟨k, st2, q2, e0, e1, f2, s2⟩ := take_g (n + 9) f1 (many := 3) (by decide) (by decide) (by omega)
    obtain ⟨x, hx, ex⟩ := menu (xs := [D.non, D.bl false, D.bl true]) e0 e1
    simp [b__law_full, q1, q2, lsz, ex]
    refine ⟨x, st2, rfl, ?_, f2.mono (by omega), s1.trans s2⟩
    simp at hx
    rcases hx with rfl | rfl | rfl
    · exact Gt.non (by omega)
    · exact Gt.bl (by omega)
    · exact Gt.bl (by omega)
  · have c6 : 5 < way := by omega
    have c7 : ¬ (deep : Int) = 0 := fun z => c3 ⟨c6, z⟩
    have c8 : ¬ (deep : Int) = 4 := by omega
    have c9 : ¬ deep = 0 := by omega
    have c10 : ¬ deep = 4 := by omega
    obtain ⟨k, st2, q2, e0, e1, f2, s2⟩ := take_g (n + 9) f1 (many := 5) (by decide) (by decide) (by omega)
    obtain ⟨x, hx, ex⟩ : ∃ x ∈ [D.int 0, D.int 1, D.int 2, D.int 3, D.int 2], atI [D.int 0, D.int 1, D.int 2, D.int 3, D.int 2, D.int 6] k = some x := by
      have : k = 0 ∨ k = 1 ∨ k = 2 ∨ k = 3 ∨ k = 4 := by omega
      rcases this with rfl | rfl | rfl | rfl | rfl
      · exact ⟨.int 0, by simp, rfl⟩
      · exact ⟨.int 1, by simp, rfl⟩
      · exact ⟨.int 2, by simp, rfl⟩
      · exact ⟨.int 3, by simp, rfl⟩
      · exact ⟨.int 2, by simp, rfl⟩
    obtain ⟨j, rfl, j0, j1⟩ : ∃ j, x = .int j ∧ 0 ≤ j ∧ j ≤ 3 := by
      simp only [List.mem_cons, List.not_mem_nil, or_false] at hx
      rcases hx with rfl | rfl | rfl | rfl | rfl
      · exact ⟨_, rfl, by decide, by decide⟩
      · exact ⟨_, rfl, by decide, by decide⟩
      · exact ⟨_, rfl, by decide, by decide⟩
      · exact ⟨_, rfl, by decide, by decide⟩
      · exact ⟨_, rfl, by decide, by decide⟩
    have hj : b * (j.toNat : Int) ≤ b * 3 := Int.mul_le_mul_of_nonneg_left (by omega) hb0
    obtain ⟨ys, st3, q3, l3, p3, f3, s3⟩ := comp_draw (r := r) (P := Gt s e) (F := eCall (Phi prog (n + 10) i__law_full) (aCons (eVar 0) (aCons (e2 subD (eVar 1) (eC (.int 1))) aNil))) (env := [some (.obj r), some (.int deep), some (.int way), none, some (.int j), none, none]) (s := 6) hb0
      (fun d st C h hC => by simpa using rec (by omega) st C h hC) (upI 0 j.toNat) st2 (C + 1 + 1) f2 (by rw [upI_len]; omega)
    rw [upI_len] at l3 f3
    have g1 : Gt (1 + 3 * s) (1 + e) (.tup ys) := Gt.tup p3 (by omega)
    obtain ⟨t, ht⟩ := fit_p (n + 10) st3 ys g1.th (by have := g1.dp; rw [dp'] at this; omega) (by have := g1.sz; rw [sz] at this; omega)
    have a5 : atI [D.int 5, D.int 6] 0 = some (D.int 5) := rfl
    simp [b__law_full, q1, c2, c4, c5, c6, c7, c8, c9, c10, lsz, q2, ex, rng1_ok (j := j) (by omega) (by omega), upI_len, lsz j.toNat (by omega), wipeE, q3, tupleL, ht]
    exact ⟨_, st3, rfl, (g1.take (k := t)).mono hsS (heE (by omega)), f3.mono (by omega), (s1.trans s2).trans s3⟩
theorem full_g : ∀ (deep n : Nat) (st : Sto) (r : Nat) (C : Int), deep < 4 → Fd r C st → C + 100 * 4 ^ deep < 2 ^ 60 →
    Dr r C (100 * 4 ^ deep) (Gt (50 * 4 ^ deep) deep) st (Phi prog (n + 2 * deep + 11) i__law_full [.obj r, .int deep] st) := by
  intro deep
  induction deep with
  | zero => exact fun n st r C _ h hC => full_at 0 n st r C h (by decide) (b := 0) (s := 0) (e := 0) (fun z => absurd z (by decide)) (by decide) (by decide) (by omega) (by decide) (fun z => absurd z (by decide)) (Nat.zero_le _) (by decide) (by decide)
  | succ deep ih =>
    intro n st r C hd h hC
    have e4 : (4 : Int) ^ (deep + 1) = 4 * 4 ^ deep := by rw [Int.pow_succ]; omega
    have e4' : (4 : Nat) ^ (deep + 1) = 4 * 4 ^ deep := by rw [Nat.pow_succ]; omega
    have p0 : (1 : Int) ≤ 4 ^ deep := by have : (0 : Int) < 4 ^ deep := Int.pow_pos (by decide); omega
    have p1 : 1 ≤ 4 ^ deep := Nat.pow_pos (by decide)
    have p2 : 4 ^ deep ≤ 4 ^ 3 := Nat.pow_le_pow_right (by decide) (by omega)
    rw [e4] at hC ⊢
    refine full_at (deep + 1) (n + 2 * (deep + 1)) st r C h hd (b := 100 * 4 ^ deep) (s := 50 * 4 ^ deep) (e := deep) (fun _ st C h hC => ?_) (by omega) (by omega) (by omega) (by omega) (fun _ => by omega) (by omega) (by omega) (by omega)
    have := ih (n + 1) st r C (by omega) h hC
    have ed : ((deep + 1 : Nat) : Int) - 1 = (deep : Int) := by omega
    have el : n + 1 + 2 * deep + 11 = n + 2 * (deep + 1) + 10 := by omega
    rw [el] at this
    rw [ed]
    exact this

end Mi

namespace Mi
open PySem L2
theorem near_flat (m : Nat) (d : D) (st : Sto) (r : Nat) (C : Int) {s e : Nat} (g : Gt s e d) (hnt : ∀ ds, d ≠ .tup ds) (h : Fd r C st) (hC : C + 4 < 2 ^ 60) :
    Dr r C 4 (Gt (s + 101) (e + 1)) st (Phi prog (m + 2) i__law_near [.obj r, d] st) := by
  rw [Phi__law_near, runB_eq]
  obtain ⟨way, st1, q1, w0, w1, f1, s1⟩ := take_g m h (many := 6) (by decide) (by decide) (by omega)
  have fin : ∀ {x : D} {y : R D}, y = .ok x st1 → Gt (s + 101) (e + 1) x → Dr r C 4 (Gt (s + 101) (e + 1)) st y := fun {x y} e h => ⟨x, st1, e, h, f1.mono (by omega), s1⟩
  have s1' : 1 ≤ s + 101 := by omega
  cases d with
  | tup ds => exact absurd rfl (hnt ds)
  | kl => exact g.th.elim
  | ev => exact g.th.elim
  | obj => exact g.th.elim
  | fn => exact g.th.elim
  | ty => exact g.th.elim
  | non =>
    obtain ⟨x, hx, ex⟩ := at6 (a0 := .int 0) (a1 := .bl false) (a2 := .str "") (a3 := .tup []) (a4 := .str "none") (a5 := .non) w0 w1
    refine fin (x := x) (by simp [b__law_near, q1, isiD, tyD, isi, truD, lsz, ex]) ?_
    simp only [List.mem_cons, List.not_mem_nil, or_false] at hx
    rcases hx with rfl | rfl | rfl | rfl | rfl | rfl
    · exact Gt.int (by decide) s1'
    · exact Gt.bl s1'
    · exact (Gt.str (s := 101) (e := 0) (by decide +kernel)).mono (by omega) (by omega)
    · exact ⟨trivial, by simp [Mi.sz, szs], by simp [dp', dps']⟩
    · exact (Gt.str (s := 101) (e := 0) (by decide +kernel)).mono (by omega) (by omega)
    · exact Gt.non s1'
  | bl b =>
    obtain ⟨x, hx, ex⟩ := at6 (a0 := .int (if b then 1 else 0)) (a1 := .bl ((if b then (1 : Int) else 0) == 1)) (a2 := .str (cutS (if b then "True" else "False") none (some 40))) (a3 := .int (0 - (if b then 1 else 0))) (a4 := .int ((if b then 1 else 0) / 10)) (a5 := .bl b) w0 w1
    have q2 : eqD (.bl b) (.int 1) st1 = .ok (.bl ((if b then (1 : Int) else 0) == 1)) st1 := by cases b <;> rfl
    have q3 : ∀ i : Int, fdivD (.int i) (.int 10) st1 = .ok (.int (i / 10)) st1 := fun i => fdiv_int (by decide) (by decide +kernel)
    have q4 : strB [.bl b] st1 = .ok (.str (if b then "True" else "False")) st1 := rfl
    have l4 : (if b then ("True" : Str) else "False").length ≤ 5 := by cases b <;> decide +kernel
    have a4 : asc (if b then ("True" : Str) else "False") := by cases b <;> exact asc_of (by decide +kernel)
    have q5 : slD (.str (if b then "True" else "False")) none (some 40) st1 = .ok (.str (cutS (if b then "True" else "False") none (some 40))) st1 := sl_str' (Nat.le_trans l4 (by rw [szL]; decide))
    have ex2 := ex
    simp at ex2
    refine fin (x := x) (by simp only [b__law_near] ; simp [q1, isiD, tyD, isi, truD, lsz, q2, q3, q4, q5, ex2]) ?_
    simp only [List.mem_cons, List.not_mem_nil, or_false] at hx
    rcases hx with rfl | rfl | rfl | rfl | rfl | rfl
    · exact Gt.int (by cases b <;> decide) s1'
    · exact Gt.bl s1'
    · have := cut40 a4 l4
      exact Gt.str' this.1 (by omega) (by omega)
    · exact Gt.int (by cases b <;> decide) s1'
    · exact Gt.int (by cases b <;> decide) s1'
    · exact Gt.bl s1'
  | int i =>
    have hi : i.natAbs < 2 ^ 240 := g.th
    have hl : i.natAbs.log2 < 1920 := by have := log_le (a := i.natAbs) (b := 240) hi (by decide); omega
    obtain ⟨T, q4, ia, il⟩ : ∃ T : Str, strB [.int i] st1 = .ok (.str T) st1 ∧ asc T ∧ T.length ≤ 100 :=
      ⟨_, by unfold strB; simp only; rw [if_pos hl], (str_int_asc i hi).1, (str_int_asc i hi).2⟩
    obtain ⟨x, hx, ex⟩ := at6 (a0 := .int i) (a1 := .bl (decide (i = 1))) (a2 := .str (cutS T none (some 40))) (a3 := .int (0 - i)) (a4 := .int (i / 10)) (a5 := .int i) w0 w1
    have q3 : ∀ i : Int, fdivD (.int i) (.int 10) st1 = .ok (.int (i / 10)) st1 := fun i => fdiv_int (by decide) (by decide +kernel)
    have q5 : slD (.str T) none (some 40) st1 = .ok (.str (cutS T none (some 40))) st1 := sl_str' (Nat.le_trans il (by rw [szL]; decide))
    have ex2 := ex
    simp at ex2
    refine fin (x := x) (by simp only [b__law_near]; simp [q1, isiD, tyD, isi, truD, lsz, q3, q4, q5, ex2]) ?_
    simp only [List.mem_cons, List.not_mem_nil, or_false] at hx
    rcases hx with rfl | rfl | rfl | rfl | rfl | rfl
    · exact Gt.int hi s1'
    · exact Gt.bl s1'
    · have := cut40 ia il
      exact Gt.str' this.1 this.2 (by have := this.2; omega)
    · exact Gt.int (by omega) s1'
    · exact Gt.int (by omega) s1'
    · exact Gt.int hi s1'
  | str x0 =>
    obtain ⟨xa, xl⟩ : asc x0 ∧ x0.length ≤ 100 := g.th
    have sb : (" " : Str).length = 1 := by decide +kernel
    have st' : ("~" : Str).length = 1 := by decide +kernel
    have ab : asc (" " : Str) := asc_of (by decide +kernel)
    have at' : asc ("~" : Str) := asc_of (by decide +kernel)
    have z100 : ∀ n, n ≤ 101 → n ≤ sizeLine := fun n h => by rw [szL]; omega
    have q2 : addD (.str x0) (.str " ") st1 = .ok (.str (x0 ++ " ")) st1 := add_str' (z100 _ (by omega))
    have q3 : addD (.str x0) (.str "~") st1 = .ok (.str (x0 ++ "~")) st1 := add_str' (z100 _ (by omega))
    have q4 : ∀ hi, slD (.str x0) none hi st1 = .ok (.str (cutS x0 none hi)) st1 := fun hi => sl_str' (z100 _ (by omega))
    have q5 : ∀ hi, slD (.str (x0 ++ " ")) none hi st1 = .ok (.str (cutS (x0 ++ " ") none hi)) st1 := fun hi => sl_str' (z100 _ (by rw [str_len_app]; omega))
    have q6 : ∀ hi, slD (.str (x0 ++ "~")) none hi st1 = .ok (.str (cutS (x0 ++ "~") none hi)) st1 := fun hi => sl_str' (z100 _ (by rw [str_len_app]; omega))
    have q7 := upper_ok (x := x0) (st := st1) (by omega)
    have q8 := lower_ok (x := x0) (st := st1) (by omega)
    obtain ⟨x, hx, ex⟩ := at6 (a0 := .str (cutS x0 none (some (-1)))) (a1 := .str (cutS (x0 ++ " ") none (some 40))) (a2 := .str (cutS (x0 ++ "~") none (some 40))) (a3 := .str (Txt.upper x0)) (a4 := .str (Txt.lower x0)) (a5 := .str x0) w0 w1
    refine fin (x := x) (by simp only [b__law_near]; simp [q1, isiD, tyD, isi, truD, lsz, q2, q3, q4, q5, q6, q7, q8, hasT_str, ex]) ?_
    simp only [List.mem_cons, List.not_mem_nil, or_false] at hx
    have gs := g.sz
    rw [Mi.sz] at gs
    rcases hx with rfl | rfl | rfl | rfl | rfl | rfl
    · have := cutm xa (Nat.le_refl x0.length)
      exact Gt.str' this.1 (by omega) (by omega)
    · have := cut40_len (x := x0 ++ " ")
      exact Gt.str' (asc_cut (asc_app xa ab)) (by omega) (by omega)
    · have := cut40_len (x := x0 ++ "~")
      exact Gt.str' (asc_cut (asc_app xa at')) (by omega) (by omega)
    · have := up_asc xa
      exact Gt.str' this.1 (by omega) (by omega)
    · have := lo_asc xa
      exact Gt.str' this.1 (by omega) (by omega)
    · exact Gt.str' xa xl (by omega)

theorem near_g : ∀ (m : Nat) (d : D) (st : Sto) (r : Nat) (C : Int), Th d → dp' d + 1 < m → sz d ≤ 100000 → Fd r C st → C + 4 * (dp' d + 1 : Nat) < 2 ^ 60 →
    Dr r C (4 * (dp' d + 1 : Nat)) (Gt (sz d + 101) (dp' d + 1)) st (Phi prog m i__law_near [.obj r, d] st) := by
  intro m
  induction m with
  | zero => intro d st r C _ h; omega
  | succ m ih =>
    intro d st r C ht hd hs h hC
    obtain ⟨m, rfl⟩ : ∃ k, m = k + 1 := ⟨m - 1, by omega⟩
    by_cases nt : ∀ ds, d ≠ .tup ds
    · exact (near_flat m d st r C (s := sz d) (e := dp' d) ⟨ht, Nat.le_refl _, Nat.le_refl _⟩ nt h (by omega)).mono (by omega) (fun _ k => k)
    · obtain ⟨ds, rfl⟩ : ∃ ds, d = .tup ds := by
        cases d with
        | tup ds => exact ⟨ds, rfl⟩
        | _ => exact absurd (fun ds e => by cases e) nt
      rw [Phi__law_near, runB_eq]
      rw [sz] at hs ⊢
      rw [dp'] at hd hC ⊢
      have hl := szs_len ds
      obtain ⟨way, st1, q1, w0, w1, f1, s1⟩ := take_g m h (many := 6) (by decide) (by decide) (by omega)
      obtain ⟨at', st2, q2, a0, a1, f2, s2⟩ := take_g m f1 (many := (ds.length : Int) + 1) (by omega) (by omega) (by omega)
      by_cases c : way = 0 ∨ at' = (ds.length : Int)
      · obtain ⟨w3, st3, q3, b0, b1, f3, s3⟩ := take_g m f2 (many := 3) (by decide) (by decide) (by omega)
        have e1 : cutG (ds ++ [D.non]) none (some 6) = (ds ++ [D.non]).take 6 := cut_to (k := 6)
        obtain ⟨x, hx, ex⟩ := menu (xs := [D.tup (ds.take (ds.length - 1)), .tup ((ds ++ [D.non]).take 6), .tup ds]) b0 b1
        have g0 : Gt (1 + szs ds) (1 + dps' ds) (.tup ds) := ⟨ht, by rw [sz]; omega, by rw [dp']; omega⟩
        have g1 : Gt (1 + szs ds + 101) (1 + dps' ds + 1) (.tup (ds ++ [.non])) := by
          refine ⟨Ths.app ht ⟨trivial, trivial⟩, ?_, ?_⟩
          · rw [sz, szs_app]; simp [szs, sz]; omega
          · rw [dp', dps_app]; simp [dps', dp']
        refine ⟨x, st3, ?_, ?_, f3.mono (by omega), (s1.trans s2).trans s3⟩
        · have hl2 : ds.length + 1 ≤ sizeLine := lsz _ (by omega)
          by_cases c1 : way = 0
          · simp [b__law_near, q1, q2, isiD, tyD, isi, truD, c1, lsz, cut_last, hl2, e1, q3, ex]
          · have c2 : at' = (ds.length : Int) := c.resolve_left c1
            simp [b__law_near, q1, q2, isiD, tyD, isi, truD, c1, c2, lsz, cut_last, hl2, e1, q3, ex]
        · simp only [List.mem_cons, List.not_mem_nil, or_false] at hx
          rcases hx with rfl | rfl | rfl
          · exact g0.take.mono (by omega) (by omega)
          · exact g1.take
          · exact g0.mono (by omega) (by omega)
      · have c1 : ¬ way = 0 := fun e => c (.inl e)
        have c2 : ¬ at' = (ds.length : Int) := fun e => c (.inr e)
        obtain ⟨k, rfl⟩ : ∃ k : Nat, at' = k := ⟨at'.toNat, by omega⟩
        have hk : k < ds.length := by omega
        have hx : ds[k] ∈ ds := List.getElem_mem hk
        have hdx := dps_mem hx
        have hsx := szs_mem hx
        obtain ⟨y, st3, q3, gy, f3, s3⟩ := ih ds[k] st2 r (C + 1 + 1) (Ths.mem ht _ hx) (by omega) (by omega) f2 (by omega)
        have e1 : cutG ds none (some (k : Int)) = ds.take k := cut_to
        have e2 : cutG ds (some ((k : Int) + 1)) none = ds.drop (k + 1) := cut_from (k := k + 1)
        have e3 : atI ds (k : Int) = some ds[k] := (atI_nat' hk).trans (List.getElem?_eq_getElem hk)
        refine ⟨.tup (ds.take k ++ [y] ++ ds.drop (k + 1)), st3, ?_, ?_, f3.mono (by omega), (s1.trans s2).trans s3⟩
        · have l1 : (ds.take k).length + [y].length ≤ sizeLine := lsz _ (by simp; omega)
          have l2 : (ds.take k ++ [y]).length + (ds.drop (k + 1)).length ≤ sizeLine := lsz _ (by simp; omega)
          have a1 := add_tup (st := st3) l1
          have a2 := add_tup (st := st3) l2
          simp only [List.append_assoc] at a2 ⊢
          simp [b__law_near, q1, q2, isiD, tyD, isi, truD, c1, c2, lsz, e1, e2, e3, q3, a1, a2]
        · have es : szs ds = szs (ds.take k) + (sz ds[k] + szs (ds.drop (k + 1))) := by
            have := congrArg szs (cut_at hk)
            rw [szs_app, szs] at this
            exact this
          have ed : dps' ds = max (dps' (ds.take k)) (max (dp' ds[k]) (dps' (ds.drop (k + 1)))) := by
            have := congrArg dps' (cut_at hk)
            rw [dps_app, dps'] at this
            exact this
          have sy := gy.sz
          have dy := gy.dp
          refine ⟨Ths.app (Ths.app (Ths.take k ht) ⟨gy.th, trivial⟩) (Ths.of fun z hz => Ths.mem ht z (List.mem_of_mem_drop hz)), ?_, ?_⟩
          · rw [sz, szs_app, szs_app, szs, szs]
            omega
          · rw [dp', dps_app, dps_app, dps', dps']
            omega

end Mi

namespace Mi
open PySem L2
theorem ic_zero {i j : Int} (h : ic i j = 0) : i = j := by
  unfold ic at h
  by_cases c : i = j
  · exact c
  · rw [if_neg c] at h
    split at h <;> omega
mutual
theorem od_zero : ∀ a b : D, Th a → Th b → od a b = 0 → a = b
  | a, b, ha, hb, h => by
    by_cases c : srt a = srt b
    · cases a with
      | non => cases b <;> first | (exact hb.elim) | (simp [srt] at c; done) | rfl
      | bl x => cases b <;> first | (exact hb.elim) | (simp [srt] at c; done) | (rename_i y; cases x <;> cases y <;> simp_all [od])
      | int x => cases b <;> first | (exact hb.elim) | (simp [srt] at c; done) | (simp only [od] at h; rw [ic_zero h])
      | str x =>
        cases b <;> first | (exact hb.elim) | (simp [srt] at c; done) | skip
        rename_i y
        simp only [od] at h
        by_cases e : x = y
        · rw [e]
        · rw [if_neg e] at h
          split at h <;> omega
      | tup xs =>
        cases b <;> first | (exact hb.elim) | (simp [srt] at c; done) | skip
        rename_i ys
        simp only [od] at h
        by_cases e : fz xs ys = 0
        · rw [if_pos e] at h
          have hl := ic_zero h
          rw [fz_zero xs ys ha hb e (by omega)]
        · rw [if_neg e] at h; exact absurd h e
      | obj => exact ha.elim
      | fn => exact ha.elim
      | ty => exact ha.elim
      | kl => exact ha.elim
      | ev => exact ha.elim
    · rw [od_far ha c] at h
      exact absurd (ic_zero h) c
theorem fz_zero : ∀ xs ys : List D, Ths xs → Ths ys → fz xs ys = 0 → xs.length = ys.length → xs = ys
  | [], [], _, _, _, _ => rfl
  | [], y :: ys, _, _, _, h => by simp at h
  | x :: xs, [], _, _, _, h => by simp at h
  | x :: xs, y :: ys, h, k, e, l => by
    rw [fz] at e
    by_cases z : od x y = 0
    · rw [if_pos z] at e
      rw [od_zero x y h.1 k.1 z, fz_zero xs ys h.2 k.2 e (by simpa using l)]
    · rw [if_neg z] at e; exact absurd e z
end
/-- great letters, by number -/
abbrev AZ : Str := "ABCDEFGHIJKLMNOPQRSTUVWXYZ"
abbrev az : Str := "abcdefghijklmnopqrstuvwxyz"
def gch (c : Nat) : Bool := match Builtin.Str.occurrences (AZ ++ (⟨#[c]⟩ : Str)) ⟨#[c]⟩ 0 (AZ ++ (⟨#[c]⟩ : Str)).length 1 with
  | i :: _ => decide (i < 27) && (az ++ (⟨#[c]⟩ : Str)).cps.toList[i]? == some (PyProof.Rows.lo1 c)
  | [] => false
theorem gch_all : ∀ c < 128, gch c = true := by decide +kernel
theorem great_p (m c : Nat) (h : c < 128) (st : Sto) : ∃ i : Nat, Phi prog (m + 1) i__law_great [.str ⟨#[c]⟩] st = .ok (.int i) st ∧ (az ++ (⟨#[c]⟩ : Str)).cps.toList[i]? = some (PyProof.Rows.lo1 c) := by
  have q := gch_all c h
  unfold gch at q
  cases e : Builtin.Str.occurrences (AZ ++ (⟨#[c]⟩ : Str)) ⟨#[c]⟩ 0 (AZ ++ (⟨#[c]⟩ : Str)).length 1 with
  | nil => rw [e] at q; cases q
  | cons i r =>
    rw [e] at q
    simp only [Bool.and_eq_true, beq_iff_eq, decide_eq_true_eq] at q
    refine ⟨i, ?_, q.2⟩
    rw [Phi__law_great, runB_eq]
    have ln : (AZ ++ (⟨#[c]⟩ : Str)).length = 27 := by rw [str_len_app, show AZ.length = 26 by decide +kernel]; rfl
    have ad : ∀ st, addD (.str "ABCDEFGHIJKLMNOPQRSTUVWXYZ") (.str ⟨#[c]⟩) st = .ok (.str (AZ ++ (⟨#[c]⟩ : Str))) st := fun st => add_str' (by rw [← str_len_app, ln]; exact lsz _ (by decide))
    have sx : sindexM (.str (AZ ++ (⟨#[c]⟩ : Str))) [.str ⟨#[c]⟩] st = .ok (.int (i : Nat)) st := by
      unfold sindexM
      simp only [e]
    have h1 : hasT "list" (.str (AZ ++ (⟨#[c]⟩ : Str))) st = false := rfl
    generalize AZ ++ (⟨#[c]⟩ : Str) = z at *
    simp [b__law_great, ad, h1, hasT_str, sx]
theorem fold_p (m : Nat) (c : Nat) (h : c < 128) (st : Sto) (x0 x1 : Option D) : (e2 ixD (e2 addD (eC (.str "abcdefghijklmnopqrstuvwxyz")) (eVar 3)) (eCall (Phi prog (m + 1) i__law_great) (aCons (eVar 3) (aNil)))) [x0, x1, none, some (.str ⟨#[c]⟩)] st = .ok (.str ⟨#[PyProof.Rows.lo1 c]⟩) st := by
  obtain ⟨i, q, e⟩ := great_p m c h st
  have ln : (az ++ (⟨#[c]⟩ : Str)).length = 27 := by rw [str_len_app, show az.length = 26 by decide +kernel]; rfl
  have ad : ∀ st, addD (.str "abcdefghijklmnopqrstuvwxyz") (.str ⟨#[c]⟩) st = .ok (.str (az ++ (⟨#[c]⟩ : Str))) st := fun st => add_str' (by rw [← str_len_app, ln]; exact lsz _ (by decide))
  have ix : ixD (.str (az ++ (⟨#[c]⟩ : Str))) (.int i) st = .ok (.str ⟨#[PyProof.Rows.lo1 c]⟩) st := by
    rw [ix_str' (by rw [ln]; exact lsz _ (by decide)), atI_n, e]
    rfl
  generalize az ++ (⟨#[c]⟩ : Str) = z at *
  simp [ad, q, ix]
end Mi

namespace Mi
open PySem L2
theorem str_ext {a b : Str} (h : a.cps.toList = b.cps.toList) : a = b := by
  cases a; cases b
  simp only at h
  congr
  exact Array.toList_inj.mp h
theorem app_cps (a b : Str) : (a ++ b).cps.toList = a.cps.toList ++ b.cps.toList := by
  show (a.cps ++ b.cps).toList = _
  simp
theorem join_cps : ∀ cs : List Nat, (Str.join "" (cs.map fun c => (⟨#[c]⟩ : Str))).cps.toList = cs
  | [] => rfl
  | [c] => rfl
  | c :: d :: r => by
    have ih := join_cps (d :: r)
    have e : Str.join "" ((c :: d :: r).map fun c => (⟨#[c]⟩ : Str)) = ⟨#[c]⟩ ++ "" ++ Str.join "" ((d :: r).map fun c => (⟨#[c]⟩ : Str)) := rfl
    have z : (("" : Str)).cps.toList = [] := by decide +kernel
    rw [e, app_cps, app_cps, ih, z]
    simp
theorem join_map (cs : List Nat) (st : Sto) (hl : cs.length ≤ 1000) : joinL (.str "") (cs.map fun c => .str ⟨#[c]⟩) st = .ok (.str ⟨cs.toArray⟩) st := by
  unfold joinL
  simp only
  have e : (cs.map fun c => D.str ⟨#[c]⟩) = (cs.map fun c => (⟨#[c]⟩ : Str)).map .str := by rw [List.map_map]; rfl
  rw [allO_str e]
  simp only
  have s : ((cs.map fun c => (⟨#[c]⟩ : Str)).map (·.length)).sum = cs.length := by
    rw [List.map_map]
    have : ((fun (x : Str) => x.length) ∘ fun c => (⟨#[c]⟩ : Str)) = fun _ => 1 := by funext c; rfl
    rw [this]
    exact sum_ones cs
  have z : (("" : Str)).length = 0 := by decide +kernel
  rw [if_pos (by rw [s, z]; omega)]
  have j : Txt.join "" (cs.map fun c => (⟨#[c]⟩ : Str)) = ⟨cs.toArray⟩ := by
    rw [show Txt.join "" (cs.map fun c => (⟨#[c]⟩ : Str)) = Str.join "" (cs.map fun c => ⟨#[c]⟩) from StrLaws.glued_eq_join _ _]
    exact str_ext (by rw [join_cps])
  rw [j]
theorem taken_p (w : Mw) : ∀ (m : Nat) (d : D) (st : Sto), Th d → dp' d + 1 < m → sz d ≤ 1000000 → Phi prog m i__law_taken_for [.str w.word, d] st = .ok (w.key d) st := by
  intro m
  induction m with
  | zero => intro d st _ h; omega
  | succ m ih =>
    intro d st ht hd hs
    obtain ⟨m, rfl⟩ : ∃ k, m = k + 1 := ⟨m - 1, by omega⟩
    rw [Phi__law_taken_for, runB_eq]
    have w1 : ∀ st, eqD (.str w.word) (.str "wide") st = .ok (.bl (decide (w = .wide))) st := fun st => by cases w <;> simp [Mw.word]
    have w2 : ∀ st, eqD (.str w.word) (.str "folded") st = .ok (.bl (decide (w = .folded))) st := fun st => by cases w <;> simp [Mw.word]
    generalize hw : w.word = ww at *
    cases d with
    | tup ds =>
      have hl : ds.length ≤ sizeLine := lsz _ (by rw [sz] at hs; have := szs_len ds; omega)
      have e := comp_map (st := st) (F := eCall (Phi prog (m + 1) i__law_taken_for) (aCons (eVar 0) (aCons (eVar 2) aNil))) (env := [some (.str ww), some (.tup ds), none, none]) (s := 2) (f := w.key) (ds := ds) (fun x hx => by
        have := ih x st (Ths.mem ht x hx) (by rw [dp'] at hd; have := dps_mem hx; omega) (by rw [sz] at hs; have := szs_mem hx; omega)
        simp [this])
      rw [w.key_tup]
      simp [b__law_taken_for, iterD, hl, wipeE, e, tupleL, lsz]
    | kl => exact ht.elim
    | ev => exact ht.elim
    | obj => exact ht.elim
    | fn => exact ht.elim
    | ty => exact ht.elim
    | non => cases w <;> simp [b__law_taken_for, w1, w2, Mw.key, wd, fo]
    | bl x => cases w <;> simp [b__law_taken_for, w1, w2, Mw.key, wd, fo]
    | int x => cases w <;> simp [b__law_taken_for, w1, w2, Mw.key, wd, fo]
    | str x =>
      by_cases c : w = .folded
      · subst c
        obtain ⟨xa, xl⟩ : asc x ∧ x.length ≤ 100 := ht
        have e := comp_map (st := st) (F := e2 ixD (e2 addD (eC (.str "abcdefghijklmnopqrstuvwxyz")) (eVar 3)) (eCall (Phi prog (m + 1) i__law_great) (aCons (eVar 3) (aNil)))) (env := [some (.str ww), some (.str x), none, none]) (s := 3) (f := fun d => match d with | .str y => .str ⟨(y.cps.toList.map PyProof.Rows.lo1).toArray⟩ | d => d) (ds := x.cps.toList.map fun c => .str ⟨#[c]⟩) (fun d hx => by
          obtain ⟨c, hc, rfl⟩ := List.mem_map.mp hx
          exact fold_p m c (xa c hc) st (some (.str ww)) (some (.str x)))
        rw [List.map_map] at e
        have e2 : (List.map ((fun d => match d with | .str y => D.str ⟨(y.cps.toList.map PyProof.Rows.lo1).toArray⟩ | d => d) ∘ fun c => D.str ⟨#[c]⟩) x.cps.toList) = (x.cps.toList.map PyProof.Rows.lo1).map fun c => .str ⟨#[c]⟩ := by rw [List.map_map]; rfl
        rw [e2] at e
        have j := join_map (x.cps.toList.map PyProof.Rows.lo1) st (by rw [List.length_map]; have : x.cps.toList.length = x.length := by simp [Str.length]
                                                                      omega)
        have il : iterD (.str x) st = some (x.cps.toList.map fun c => .str ⟨#[c]⟩, []) := rfl
        have hl : (x.cps.toList.map fun c => D.str ⟨#[c]⟩).length ≤ sizeLine := lsz _ (by rw [List.length_map]; have : x.cps.toList.length = x.length := by simp [Str.length]
                                                                                          omega)
        have fin : fo (.str x) = .str ⟨(x.cps.toList.map PyProof.Rows.lo1).toArray⟩ := by
          rw [fo, PyProof.Rows.lower_ascii xa]
          congr
          exact Array.toList_inj.mp (by simp)
        show _ = R.ok (fo (.str x)) st
        rw [fin]
        generalize (x.cps.toList.map fun c => D.str ⟨#[c]⟩) = L at *
        generalize (x.cps.toList.map PyProof.Rows.lo1) = cs at *
        unfold b__law_taken_for
        generalize hz : Str.ofString "abcdefghijklmnopqrstuvwxyz" = z at *
        simp [w1, w2, il, hl, wipeE, e, hasT_str, j]
      · have e : w.key (.str x) = .str x := by cases w <;> simp_all [Mw.key, wd]
        rw [e]
        simp [b__law_taken_for, w1, w2, c]
theorem fdig_p (w : Mw) (m : Nat) (a : D) (st : Sto) (ha : Ok a) (hm : 31 ≤ m) : Phi prog m (fDig w) [a] st = .ok (.int (pd (w.key a))) st := by
  obtain ⟨m, rfl⟩ : ∃ k, m = k + 1 := ⟨m - 1, by omega⟩
  have ka := ha.key w
  have := ha.dp
  have := ka.dp
  cases w with
  | plain => exact dig_p _ a st ha.th (by omega) ha.sz
  | turned => exact dig_p _ a st ha.th (by omega) ha.sz
  | wide =>
    have q1 := widened_p m a st ha.th (by omega) ha.sz
    have kd : dp' (wd a) ≤ 20 := ka.dp
    have q3 := dig_p m (wd a) st ka.th (by omega) ka.sz
    show Phi prog (m + 1) i_wide_digest [a] st = .ok (.int (pd (wd a))) st
    rw [Phi_wide_digest, runB_eq]
    simp [b_wide_digest, q1, q3]
  | folded =>
    have q1 := folded_p m a st ha.th (by omega) ha.sz
    have kd : dp' (fo a) ≤ 20 := ka.dp
    have q3 := dig_p m (fo a) st ka.th (by omega) ka.sz
    show Phi prog (m + 1) i_folded_digest [a] st = .ok (.int (pd (fo a))) st
    rw [Phi_folded_digest, runB_eq]
    simp [b_folded_digest, q1, q3]
theorem ok1_dig (w : Mw) : ok_1 (fDig w) = true := by cases w <;> rfl
theorem digest_p (w : Mw) (m : Nat) {st : Sto} {n : Nat} (h : st[n]? = some (manOb w)) (a : D) (ha : Ok a) (hm : 32 ≤ m) : Phi prog m i_Manner__digest_of [.obj n, a] st = .ok (.int (pd (w.key a))) st := by
  obtain ⟨m, rfl⟩ : ∃ k, m = k + 1 := ⟨m - 1, by omega⟩
  have q := fdig_p w m a st ha (by omega)
  rw [Phi_Manner__digest_of, runB_eq]
  simp [b_Manner__digest_of, h, manOb, T_held_digest, List.lookup, ok1_dig, q]
theorem od_dig (w : Mw) {a b : D} (ha : Th a) (hb : Th b) (h : w.od a b = 0) : pd (w.key a) = pd (w.key b) := by
  unfold Mw.od at h
  by_cases c : w = .turned
  · subst c
    rw [if_pos rfl] at h
    show pd a = pd b
    rw [od_zero b a hb ha h]
  · rw [if_neg c] at h
    rw [od_zero _ _ (w.key_th ha).1 (w.key_th hb).1 h]
end Mi

namespace Mi
open PySem L2
/-! ### a store: what stood, and what is new -/
@[simp] theorem at_add {st t : Sto} {k : Nat} : (st ++ t)[st.length + k]? = t[k]? := by
  rw [List.getElem?_append_right (by omega)]
  congr 1
  omega
@[simp] theorem at_add0 {st t : Sto} : (st ++ t)[st.length]? = t[0]? := at_add (k := 0)
@[simp] theorem set_add {st t : Sto} {k : Nat} {o : Ob} : (st ++ t).set (st.length + k) o = st ++ t.set k o := by
  rw [List.set_append_right _ _ (by omega)]
  congr 2
  omega
@[simp] theorem set_add0 {st t : Sto} {o : Ob} : (st ++ t).set st.length o = st ++ t.set 0 o := set_add (k := 0)
theorem mul2 {A B : D} {st : Sto} : mulD (.ev [A, B]) (.int 2) st = .ok (.obj st.length) (st ++ [.lst [A, B, A, B]]) := by
  unfold mulD
  simp [lsz]
@[simp] theorem has_lst {n : Nat} {st : Sto} : hasT "list" (.obj n) st = (seqOf st n).isSome := rfl
def appO (o : Option Ob) (n : Nat) (d : D) (st : Sto) : R D := match o with | some (.lst ds) => if ds.length < sizeLine then .ok .non (st.set n (.lst (ds ++ [d]))) else .stuck | _ => .stuck
@[simp] theorem app_at {n : Nat} {d : D} {st : Sto} : appendM (.obj n) [d] st = appO st[n]? n d st := by unfold appendM appO; rfl
@[simp] theorem appO_lst {n : Nat} {ds : List D} {d : D} {st : Sto} : appO (some (.lst ds)) n d st = if ds.length < sizeLine then .ok .non (st.set n (.lst (ds ++ [d]))) else .stuck := rfl
theorem lsz1 (n : Nat) (h : n < 1000000) : n < sizeLine := by rw [szL]; omega
theorem ev_eq {st : Sto} {m : Nat} {ds : List D} (hm : st[m]? = some (.lst ds)) (h : Ths ds) (hd : dps' ds ≤ 60) : eqD (.ev ds) (.obj m) st = .ok (.bl true) st ∧ neD (.ev ds) (.obj m) st = .ok (.bl false) st :=
  eq_same ⟨fun _ z => (nomatch z), fun _ z => (nomatch z)⟩ (toP_ev h hd) (toP_obj hm h hd) h hd
def tf (b : Bool) : Str := if b then "True" else "False"
theorem tf_th (b : Bool) : Th (.str (tf b)) := by
  cases b
  · exact ⟨asc_of (by decide +kernel), by decide +kernel⟩
  · exact ⟨asc_of (by decide +kernel), by decide +kernel⟩
theorem rep_bl (b : Bool) (st : Sto) : reprB [.bl b] st = .ok (.str (tf b)) st := by
  have e : toP st 66 (.bl b) = some (.bool b) := rfl
  unfold reprB
  simp only [e]
  have : reprO (.bool b) = some (tf b) := by
    unfold reprO
    rw [if_pos]
    · rw [PyData.shown]; rfl
    · refine ⟨?_, by simp only [PyData.hasDict]⟩
      rw [PyData.showable, Bool.true_and, Bool.and_eq_true, decide_eq_true_eq, decide_eq_true_eq, szL]
      refine ⟨by simp only [PyData.depth]; omega, ?_⟩
      rw [PyData.shown]
      cases b <;> decide +kernel
  rw [this]
end Mi

namespace Mi
open PySem L2
theorem k1_p (w : Mw) (m : Nat) (x0 x1 x3 x10 x11 x12 : Option D) (n2 n4 : Nat) (i j : Int) (a b : D) (u v f : Int) (st : Sto) (h2 : st[n2]? = some (manOb w)) (hf : f = w.od a b) (ha : Ok a) (hb : Ok b) (hm : 32 ≤ m)
    (hu : ∀ t : Sto, ixD (.obj n4) (.int i) (st ++ t) = .ok (.int u) (st ++ t)) (hv : ∀ t : Sto, ixD (.obj n4) (.int j) (st ++ t) = .ok (.int v) (st ++ t)) (huv : f = 0 → u = v) :
    ∃ y10 y11 t, K1__law_right (Phi prog m) [x0, x1, some (.obj n2), x3, some (.obj n4), some (.int i), some a, some (.int j), some b, some (.int f), x10, x11, x12] st = .nx [x0, x1, some (.obj n2), x3, some (.obj n4), some (.int i), some a, some (.int j), some b, some (.int f), y10, y11, x12] (st ++ t) := by
  have rl : ∀ (b : Bool) st, reprB [.bl b] st = .ok (.str (tf b)) st := rep_bl
  have ql : ∀ t, Phi prog m i_Manner__is_like [.obj n2, a, b] (st ++ t) = .ok (.bl (decide (f = 0))) (st ++ t) := fun t => by rw [hf]; exact is_like_p w m (at_old h2) a b ha hb hm
  have qs : ∀ t, Phi prog m i_Manner__is_less [.obj n2, a, b] (st ++ t) = .ok (.bl (decide (f < 0))) (st ++ t) := fun t => by rw [hf]; exact is_less_p w m (at_old h2) a b ha hb hm
  have h2' : ∀ t : Sto, (st ++ t)[n2]? = some (manOb w) := fun t => at_old h2
  have c1 : clsO (some (manOb w)) tb_is_less_2 "is_less" = some i_Manner__is_less := by simp [manOb, List.lookup, tb_is_less_2]
  have c2 : clsO (some (manOb w)) tb_is_like_2 "is_like" = some i_Manner__is_like := by simp [manOb, List.lookup, tb_is_like_2]
  have t1 : ∀ (A B : Bool), Ths [.str (tf A), .str (tf B), .str (tf A), .str (tf B)] ∧ dps' [.str (tf A), .str (tf B), .str (tf A), .str (tf B)] ≤ 60 := fun A B => ⟨⟨tf_th _, tf_th _, tf_th _, tf_th _, trivial⟩, by simp [dps', dp']⟩
  generalize manOb w = mo at *
  have ne : neD (.obj (st.length + 1)) (.obj st.length) (st ++ [.lst [.str (tf (decide (f = 0))), .str (tf (decide (f < 0))), .str (tf (decide (f = 0))), .str (tf (decide (f < 0)))], .lst [.str (tf (decide (f = 0))), .str (tf (decide (f < 0))), .str (tf (decide (f = 0))), .str (tf (decide (f < 0)))]]) = .ok (.bl false) _ := (eq_oo (ds := [.str (tf (decide (f = 0))), .str (tf (decide (f < 0))), .str (tf (decide (f = 0))), .str (tf (decide (f < 0)))]) (by simp) (by simp) (t1 _ _).1 (t1 _ _).2).2
  by_cases c : f = 0
  · simp [K1__law_right, rl, lsz, lsz1, mul2, h2, h2', c1, c2, ql, qs, ne, hu, hv, c, huv c] at ne ⊢
    simp [ne, hu, hv, huv c]
  · simp [K1__law_right, rl, lsz, lsz1, mul2, h2, h2', c1, c2, ql, qs, ne, hu, hv, c] at ne ⊢
    simp [ne, hu, hv, c]
end Mi

namespace Mi
open PySem L2
theorem ix_ok {st : Sto} {n i : Nat} {ds : List D} {d : D} (h : st[n]? = some (.lst ds)) (e : ds[i]? = some d) : ixD (.obj n) (.int (i : Nat)) st = .ok d st := by
  rw [ix_obj' h, atI_n, e]
  rfl
/-- what stands while a manner is looked at -/
structure Rt (w : Mw) (xs : List D) (n1 n2 n3 n4 : Nat) (st : Sto) : Prop where
  h1 : st[n1]? = some (.lst xs)
  h2 : st[n2]? = some (manOb w)
  h3 : st[n3]? = some (.lst (xs.map w.key))
  h4 : st[n4]? = some (.lst (xs.map fun x => .int (pd (w.key x))))
theorem Rt.app {w : Mw} {xs : List D} {n1 n2 n3 n4 : Nat} {st t : Sto} (h : Rt w xs n1 n2 n3 n4 st) : Rt w xs n1 n2 n3 n4 (st ++ t) := ⟨at_old h.h1, at_old h.h2, at_old h.h3, at_old h.h4⟩
theorem l1_p (w : Mw) (m : Nat) (xs : List D) (n1 n2 n3 n4 i j : Nat) (a b : D) (st : Sto) (h : Rt w xs n1 n2 n3 n4 st) (ea : xs[i]? = some a) (eb : xs[j]? = some b) (ha : Ok a) (hb : Ok b) (hm : 50 ≤ m) (x9 x10 x11 x12 : Option D) :
    ∃ y9 y10 y11 t, L1__law_right (Phi prog m) [some (.str w.word), some (.obj n1), some (.obj n2), some (.obj n3), some (.obj n4), some (.int i), some a, some (.int j), some b, x9, x10, x11, x12] st = .nx [some (.str w.word), some (.obj n1), some (.obj n2), some (.obj n3), some (.obj n4), some (.int i), some a, some (.int j), some b, y9, y10, y11, x12] (st ++ t) := by
  have ka := ha.key w
  have kb := hb.key w
  have := ka.dp
  obtain ⟨t1, q1⟩ := ord_p m (w.key a) (w.key b) st ka.th kb.th (by omega) ka.sz kb.sz
  have i1 := ix_ok h.h3 (i := i) (d := w.key a) (by rw [List.getElem?_map, ea]; rfl)
  have i2 := ix_ok h.h3 (i := j) (d := w.key b) (by rw [List.getElem?_map, eb]; rfl)
  have H := h.app (t := t1)
  have hu : ∀ t : Sto, ixD (.obj n4) (.int i) (st ++ t1 ++ t) = .ok (.int (pd (w.key a))) (st ++ t1 ++ t) := fun t => ix_ok (H.app (t := t)).h4 (by rw [List.getElem?_map, ea]; rfl)
  have hv : ∀ t : Sto, ixD (.obj n4) (.int j) (st ++ t1 ++ t) = .ok (.int (pd (w.key b))) (st ++ t1 ++ t) := fun t => ix_ok (H.app (t := t)).h4 (by rw [List.getElem?_map, eb]; rfl)
  have wt : ∀ st, eqD (.str w.word) (.str "turned") st = .ok (.bl (decide (w = .turned))) st := fun st => by cases w <;> simp [Mw.word]
  generalize hf : (if w = .turned then 0 - Mi.od (w.key a) (w.key b) else Mi.od (w.key a) (w.key b)) = f
  have hfo : f = w.od a b := by
    rw [← hf]
    unfold Mw.od
    by_cases c : w = .turned
    · subst c
      rw [if_pos rfl, if_pos rfl]
      have := od_anti a b ha.th hb.th
      show 0 - Mi.od a b = _
      omega
    · rw [if_neg c, if_neg c]
  obtain ⟨y10, y11, t2, q2⟩ := k1_p w m (some (.str w.word)) (some (.obj n1)) (some (.obj n3)) x10 x11 x12 n2 n4 i j a b _ _ f (st ++ t1) H.h2 hfo ha hb (by omega) hu hv (fun z => od_dig w ha.th hb.th (by rw [← hfo]; exact z))
  refine ⟨some (.int f), y10, y11, t1 ++ t2, ?_⟩
  rw [← List.append_assoc]
  generalize w.word = ww at *
  by_cases c : w = .turned
  · rw [if_pos c] at hf
    have wt1 : ∀ st, eqD (.str ww) (.str "turned") st = .ok (.bl true) st := fun st => by rw [wt]; simp [c]
    simp at hf
    simp [L1__law_right, i1, i2, q1, wt1, hf]
    simpa using q2
  · rw [if_neg c] at hf
    rw [hf] at q1
    have wt1 : ∀ st, eqD (.str ww) (.str "turned") st = .ok (.bl false) st := fun st => by rw [wt]; simp [c]
    simp [L1__law_right, i1, i2, q1, wt1]
    simpa using q2
theorem enum_ok {n : Nat} {xs : List D} {st : Sto} (h : st[n]? = some (.lst xs)) : enumS (.obj n) st = .ok (numb xs, [(n, xs)]) st := enumS_ok (seq_lst h)
theorem right_p (w : Mw) (m : Nat) (xs : List D) (n1 : Nat) (st : Sto) (h : st[n1]? = some (.lst xs)) (hx : ∀ x ∈ xs, Ok x) (hl : xs.length ≤ 1000) (hm : 60 ≤ m) : ∃ t, Phi prog m i__law_right [.str w.word, .obj n1] st = .ok (.bl true) (st ++ t) := by
  obtain ⟨m, rfl⟩ : ∃ k, m = k + 3 := ⟨m - 3, by omega⟩
  rw [Phi__law_right, runB_eq]
  have q1 := manner_p w m st
  have it : ∀ t : Sto, iterD (.obj n1) (st ++ t) = some (xs, [(n1, xs)]) := fun t => iter_obj (at_old h)
  have wk : ∀ t : Sto, okW [(n1, xs)] (st ++ t) = true := fun t => okW_at (at_old h)
  have lx := lsz _ (show xs.length ≤ 1000000 by omega)
  -- the comprehensions
  have c1 : ∀ (env : Env) (t : Sto), env[0]? = some (some (.str w.word)) → env.length = 13 → compL [(n1, xs)] (.nm 12) cYes (eCall (Phi prog (m + 2) i__law_taken_for) (aCons (eVar 0) (aCons (eVar 12) aNil))) env xs (st ++ t) = .ok (xs.map w.key) (st ++ t) := fun env t e0 el => by
    refine comp_mapW (wk t) fun d hd => ?_
    have := (hx d hd).dp
    have q := taken_p w (m + 2) d (st ++ t) (hx d hd).th (by omega) (hx d hd).sz
    have g0 : (env.set 12 (some d))[0]? = some (some (.str w.word)) := by rw [List.getElem?_set_ne (by decide)]; exact e0
    have g12 : (env.set 12 (some d))[12]? = some (some d) := by rw [List.getElem?_set_self (by omega)]
    simp [g0, g12, q]
  have c2 : ∀ (env : Env) (t : Sto) (n2 : Nat), env[2]? = some (some (.obj n2)) → (st ++ t)[n2]? = some (manOb w) → env.length = 13 → compL [(n1, xs)] (.nm 12) cYes (eMeth tb_digest_of_1 "digest_of" (Phi prog (m + 2)) (eVar 2) (aCons (eVar 12) aNil)) env xs (st ++ t) = .ok (xs.map fun x => .int (pd (w.key x))) (st ++ t) := fun env t n2 e2 h2 el => by
    refine comp_mapW (wk t) fun d hd => ?_
    have q := digest_p w (m + 2) h2 d (hx d hd) (by omega)
    have g0 : (env.set 12 (some d))[2]? = some (some (.obj n2)) := by rw [List.getElem?_set_ne (by decide)]; exact e2
    have g12 : (env.set 12 (some d))[12]? = some (some d) := by rw [List.getElem?_set_self (by omega)]
    have c1 : clsO (some (manOb w)) tb_digest_of_1 "digest_of" = some i_Manner__digest_of := by simp [manOb, List.lookup, tb_digest_of_1]
    generalize manOb w = mo at *
    simp [g0, g12, h2, c1, q]
  have loop : ∀ (n2 n3 n4 : Nat) (S : Sto), Rt w xs n1 n2 n3 n4 S → ∃ y5 y6 y7 y8 y9 y10 y11 y12 t, forL [(n1, xs)] (.tp [5, 6]) (L2__law_right (Phi prog (m + 2))) (numb xs) [some (.str w.word), some (.obj n1), some (.obj n2), some (.obj n3), some (.obj n4), none, none, none, none, none, none, none, none] S = .nx [some (.str w.word), some (.obj n1), some (.obj n2), some (.obj n3), some (.obj n4), y5, y6, y7, y8, y9, y10, y11, y12] (S ++ t) := by
    intro n2 n3 n4 S hS
    have inner : ∀ (i : Nat) (a : D) (t : Sto) (x7 x8 x9 x10 x11 x12 : Option D), xs[i]? = some a → a ∈ xs → ∃ y7 y8 y9 y10 y11 y12 t', forL [(n1, xs)] (.tp [7, 8]) (L1__law_right (Phi prog (m + 2))) (numb xs) [some (.str w.word), some (.obj n1), some (.obj n2), some (.obj n3), some (.obj n4), some (.int i), some a, x7, x8, x9, x10, x11, x12] (S ++ t) = .nx [some (.str w.word), some (.obj n1), some (.obj n2), some (.obj n3), some (.obj n4), some (.int i), some a, y7, y8, y9, y10, y11, y12] (S ++ t') := by
      intro i a t x7 x8 x9 x10 x11 x12 ea ha
      obtain ⟨env', st', q, y7, y8, y9, y10, y11, y12, t', rfl, rfl⟩ := for_inv (w := [(n1, xs)]) (t := .tp [7, 8]) (B := L1__law_right (Phi prog (m + 2))) (J := fun env s => ∃ y7 y8 y9 y10 y11 y12 t', env = [some (.str w.word), some (.obj n1), some (.obj n2), some (.obj n3), some (.obj n4), some (.int i), some a, y7, y8, y9, y10, y11, y12] ∧ s = S ++ t')
        (by rintro env s ⟨_, _, _, _, _, _, t', _, rfl⟩; exact okW_at hS.app.h1) (numb xs) [some (.str w.word), some (.obj n1), some (.obj n2), some (.obj n3), some (.obj n4), some (.int i), some a, x7, x8, x9, x10, x11, x12] (S ++ t)
        (by
          rintro d hd env s ⟨y7, y8, y9, y10, y11, y12, t', rfl, rfl⟩
          obtain ⟨j, b, rfl, hj, eb, hb⟩ := numb_mem hd
          obtain ⟨z9, z10, z11, t2, q⟩ := l1_p w (m + 2) xs n1 n2 n3 n4 i j a b (S ++ t') hS.app ea eb (hx a ha) (hx b hb) (by omega) y9 y10 y11 y12
          exact ⟨_, _, _, rfl, q, _, _, _, _, _, _, t' ++ t2, rfl, List.append_assoc _ _ _⟩) ⟨_, _, _, _, _, _, t, rfl, rfl⟩
      exact ⟨_, _, _, _, _, _, _, q⟩
    obtain ⟨env', st', q, y5, y6, y7, y8, y9, y10, y11, y12, t', rfl, rfl⟩ := for_inv (w := [(n1, xs)]) (t := .tp [5, 6]) (B := L2__law_right (Phi prog (m + 2))) (J := fun env s => ∃ y5 y6 y7 y8 y9 y10 y11 y12 t', env = [some (.str w.word), some (.obj n1), some (.obj n2), some (.obj n3), some (.obj n4), y5, y6, y7, y8, y9, y10, y11, y12] ∧ s = S ++ t')
        (by rintro env s ⟨_, _, _, _, _, _, _, _, t', _, rfl⟩; exact okW_at hS.app.h1) (numb xs) [some (.str w.word), some (.obj n1), some (.obj n2), some (.obj n3), some (.obj n4), none, none, none, none, none, none, none, none] S
        (by
          rintro d hd env s ⟨y5, y6, y7, y8, y9, y10, y11, y12, t', rfl, rfl⟩
          obtain ⟨i, a, rfl, hi, ea, ha⟩ := numb_mem hd
          obtain ⟨z7, z8, z9, z10, z11, z12, t2, q⟩ := inner i a t' y7 y8 y9 y10 y11 y12 ea ha
          have en := enum_ok (hS.app (t := t')).h1
          have q' : L2__law_right (Phi prog (m + 2)) [some (.str w.word), some (.obj n1), some (.obj n2), some (.obj n3), some (.obj n4), some (.int i), some a, y7, y8, y9, y10, y11, y12] (S ++ t') = .nx [some (.str w.word), some (.obj n1), some (.obj n2), some (.obj n3), some (.obj n4), some (.int i), some a, z7, z8, z9, z10, z11, z12] (S ++ t2) := by simp [L2__law_right, en, q]
          exact ⟨_, _, _, rfl, q', _, _, _, _, _, _, _, _, t2, rfl, rfl⟩) ⟨_, _, _, _, _, _, _, _, [], rfl, (List.append_nil _).symm⟩
    exact ⟨_, _, _, _, _, _, _, _, _, q⟩
  have S3 : Rt w xs n1 st.length (st.length + 1) (st.length + 2) (st ++ [manOb w, .lst (xs.map w.key), .lst (xs.map fun x => .int (pd (w.key x)))]) := ⟨at_old h, by simp, by simp, by simp⟩
  obtain ⟨y5, y6, y7, y8, y9, y10, y11, y12, t, q⟩ := loop _ _ _ _ S3
  have en := enum_ok S3.h1
  have i4 := iter_obj S3.h4
  have ds : Ths (xs.map fun x => .int (pd (w.key x))) ∧ dps' (xs.map fun x => .int (pd (w.key x))) ≤ 60 := ⟨Ths.of fun d hd => by
    obtain ⟨x, _, rfl⟩ := List.mem_map.mp hd
    have := pd_rng (w.key x)
    exact th_small _ (by omega), dps_le fun d hd => by
    obtain ⟨x, _, rfl⟩ := List.mem_map.mp hd
    simp [dp']⟩
  have no : ∀ (env : Env), env.length = 13 → compL [(st.length + 2, xs.map fun x => .int (pd (w.key x)))] (.nm 6) (bOr (bNot (tst (e1 (isiD Ty.int) (eVar 6)))) (tst (e1 (isiD Ty.bool) (eVar 6)))) (eVar 6) env (xs.map fun x => .int (pd (w.key x))) (st ++ [manOb w, .lst (xs.map w.key), .lst (xs.map fun x => .int (pd (w.key x)))]) = .ok [] _ := fun env el => by
    refine comp_none (okW_at S3.h4) fun d hd => ?_
    obtain ⟨x, _, rfl⟩ := List.mem_map.mp hd
    have g6 : (env.set 6 (some (.int (pd (w.key x)))))[6]? = some (some (.int (pd (w.key x)))) := by rw [List.getElem?_set_self (by omega)]
    simp [g6]
  have e0 : ∀ st, neD (.ev []) (.ev []) st = .ok (.bl false) st := fun st => ne_ev_ev trivial (by simp [dps'])
  have last := (S3.app (t := t))
  have fin := ev_eq last.h4 ds.1 ds.2
  refine ⟨[manOb w, .lst (xs.map w.key), .lst (xs.map fun x => .int (pd (w.key x)))] ++ t, ?_⟩
  rw [← List.append_assoc]
  have h2 : ∀ t : Sto, (st ++ (manOb w :: t))[st.length]? = some (manOb w) := fun t => by simp
  have hd : (xs.map fun x => D.int (pd (w.key x))).length ≤ sizeLine := by rw [List.length_map]; exact lx
  have itl := iter_obj (last.h1)
  have c2l := c2 [some (.str w.word), some (.obj n1), some (.obj st.length), some (.obj (st.length + 1)), some (.obj (st.length + 2)), y5, y6, y7, y8, y9, y10, y11, none] ([manOb w, .lst (xs.map w.key), .lst (xs.map fun x => .int (pd (w.key x)))] ++ t) st.length rfl (h2 _) rfl
  rw [← List.append_assoc] at c2l
  generalize hM : manOb w = mo at *
  generalize hK : xs.map w.key = ks at *
  generalize hD : (xs.map fun x => D.int (pd (w.key x))) = dd at *
  simp [b__law_right, q1, it, lx, wipeE, c1, c2, i4, hd, no, e0, en, q]
  simp at fin
  simp [fin]
end Mi

namespace Mi
open PySem L2
theorem full3 (n r : Nat) (C : Int) (st : Sto) (h : Fd r C st) (hC : C + 6400 < 2 ^ 60) : ∃ a st', Phi prog (n + 40) i__law_full [.obj r, .int 3] st = .ok a st' ∧ Gt 3200 4 a ∧ Fd r (C + 6400) st' ∧ Sm r st st' := by
  obtain ⟨a, st1, q1, g1, f1, s1⟩ := full_g 3 (n + 23) st r C (by decide) h (by omega)
  exact ⟨a, st1, q1, g1.mono (by decide) (by decide), f1.mono (by omega), s1⟩
theorem thing4 (n r : Nat) (C : Int) (st : Sto) (h : Fd r C st) (hC : C + 4096 < 2 ^ 60) : ∃ a st', Phi prog (n + 40) i__law_thing [.obj r, .int 4] st = .ok a st' ∧ Gt 3200 4 a ∧ Fd r (C + 4096) st' ∧ Sm r st st' := by
  obtain ⟨a, st1, q1, g1, f1, s1⟩ := thing_g 4 (n + 34) st r C h (by omega)
  exact ⟨a, st1, q1, g1.mono (by decide) (by decide), f1.mono (by omega), s1⟩
theorem draw_p (n r : Nat) (C : Int) (st : Sto) (env : Env) (h : Fd r C st) (hC : C + 10497 < 2 ^ 60) (e2' : env[2]? = some (some (.obj r))) : Dr r C 10497 (Gt 3200 4) st (E1_law (Phi prog (n + 40)) env st) := by
  obtain ⟨a, st1, q1, g1, f1, s1⟩ := full3 n r C st h (by omega)
  obtain ⟨b, st2, q2, g2, f2, s2⟩ := thing4 n r _ st1 f1 (by omega)
  obtain ⟨c, st3, q3, c0, c1, f3, s3⟩ := take_g (n + 39) f2 (many := 2) (by decide) (by decide) (by omega)
  obtain ⟨x, hx, ex⟩ := menu (xs := [a, b]) c0 c1
  refine ⟨x, st3, by simp [E1_law, e2', q1, q2, q3, ex, lsz], ?_, f3.mono (by omega), (s1.trans s2).trans s3⟩
  simp only [List.mem_cons, List.not_mem_nil, or_false] at hx
  rcases hx with rfl | rfl
  · exact g1
  · exact g2
def words : List D := [.str "plain", .str "wide", .str "turned", .str "folded", .str "plain"]
theorem turn_p (ns : List Int) (k : Nat) (x2 x3 x4 x5 x6 x7 : Option D) (m : Nat) (st : Sto) (hk : k < 6) (hm : 90 ≤ m) :
    ∃ y2 y3 y4 y5 y6 y7 st', L2_law (Phi prog m) [some (.kl (ns.map .int)), some (.int k), x2, x3, x4, x5, x6, x7] st = .nx [some (.kl (ns.map .int)), some (.int k), y2, y3, y4, y5, y6, y7] st' := by
  obtain ⟨n, rfl⟩ : ∃ n, m = n + 40 := ⟨m - 40, by omega⟩
  obtain ⟨G, M, hG, q⟩ := feed_p (n + 39) ns k st (by omega) (by omega)
  have f0 : Fd st.length 0 (st ++ [.lst [.int G, .int M, .int 0]]) := ⟨G, M, 0, by simp, hG, by decide, by decide⟩
  generalize hS : st ++ [Ob.lst [.int G, .int M, .int 0]] = S at *
  generalize hr : st.length = r at *
  have hrS : r < S.length := f0.lt
  have step : ∀ (d : D) (st : Sto) (C : Int), Fd r C st → C + 10497 < 2 ^ 60 → Dr r C 10497 (Gt 3200 4) st (E1_law (Phi prog (n + 40)) ([some (.kl (ns.map .int)), some (.int k), some (.obj r), x3, x4, x5, none, x7].set 6 (some d)) st) := fun d st C h hC => draw_p n r C st _ h hC (by simp)
  obtain ⟨ys, s1, q1, l1, g1, f1, m1⟩ := comp_draw (by decide) step (upI 0 4) S 0 f0 (by rw [upI_len]; decide)
  rw [upI_len] at l1 f1
  have hs1 : s1.length = S.length := m1.1
  have f2 : Fd r 50000 (s1 ++ [.lst ys]) := f1.app.mono (by omega)
  have h2 : (s1 ++ [Ob.lst ys])[s1.length]? = some (.lst ys) := by simp
  have hn : s1.length ≠ r := by omega
  obtain ⟨zs, s2, q2, l2, g2, f3, m2⟩ := comp_inv (w := [(s1.length, ys)]) (F := eCall (Phi prog (n + 40) i__law_near) (aCons (eVar 2) (aCons (eVar 7) aNil))) (env := [some (.kl (ns.map .int)), some (.int k), some (.obj r), some (.obj s1.length), x4, x5, x6, none]) (s := 7) (N := 10) (J := fun st' k => Fd r (50000 + 100 * (k : Nat)) st' ∧ Sm r (s1 ++ [.lst ys]) st') (P := fun d y => Gt 3301 5 y)
    (fun st' k hj => okW_at (by rw [hj.2.2 _ hn]; exact h2)) ys (s1 ++ [.lst ys]) 0
    (fun d hd st' k hk hj => by
      have g := g1 d hd
      have gs := g.sz
      have gd := g.dp
      obtain ⟨y, st2, q, gy, f, s⟩ := near_g (n + 40) d st' r (50000 + 100 * (k : Nat)) g.th (by omega) (by omega) hj.1 (by omega)
      exact ⟨y, st2, by simp [q], gy.mono (by omega) (by omega), f.mono (by omega), hj.2.trans s⟩) (by omega) ⟨by simpa using f2, Sm.refl⟩
  have h3 : s2[s1.length]? = some (.lst ys) := by rw [m2.2 _ hn]; exact h2
  have ad := add_oe (ys := zs) h3 (lsz _ (by omega))
  have it := iter_obj h2
  have gx : ∀ x ∈ ys ++ zs, Gt 3301 5 x := fun x hx => (List.mem_append.mp hx).elim (fun h => (g1 x h).mono (by decide) (by decide)) fun h => (g2 x h).elim fun _ z => z.2
  generalize hX : ys ++ zs = X at *
  have lX : X.length = 8 := by rw [← hX, List.length_append]; omega
  have thX : Ths X := Ths.of fun x hx => (gx x hx).th
  have dX : dps' X ≤ 60 := Nat.le_trans (dps_le fun x hx => (gx x hx).dp) (by decide)
  have sX : szs X ≤ 100000 := Nat.le_trans (szs_le fun x hx => (gx x hx).sz) (by rw [lX]; decide)
  have h4 : ∀ t : Sto, (s2 ++ (.lst X :: t))[s2.length]? = some (.lst X) := fun t => by simp
  have rp : ∀ t : Sto, reprB [.obj s2.length] (s2 ++ (.lst X :: t)) = .ok (.str (rpl X)) (s2 ++ (.lst X :: t)) := fun t => repr_p (h4 t) thX sX dX
  obtain ⟨env', st', q', y5, t', rfl, rfl⟩ := for_inv (w := []) (t := .nm 5) (B := L1_law (Phi prog (n + 40))) (J := fun env s => ∃ y5 t, env = [some (.kl (ns.map .int)), some (.int k), some (.obj r), some (.obj s2.length), some (.str (rpl X)), y5, x6, x7] ∧ s = s2 ++ (.lst X :: t))
    (fun _ _ _ => rfl) words [some (.kl (ns.map .int)), some (.int k), some (.obj r), some (.obj s2.length), some (.str (rpl X)), x5, x6, x7] (s2 ++ [.lst X])
    (by
      rintro d hd env s ⟨y5, t, rfl, rfl⟩
      have hw : ∃ w : Mw, d = .str w.word := by
        simp only [words, List.mem_cons, List.not_mem_nil, or_false] at hd
        rcases hd with rfl | rfl | rfl | rfl | rfl
        · exact ⟨.plain, rfl⟩
        · exact ⟨.wide, rfl⟩
        · exact ⟨.turned, rfl⟩
        · exact ⟨.folded, rfl⟩
        · exact ⟨.plain, rfl⟩
      obtain ⟨w, rfl⟩ := hw
      obtain ⟨t2, q⟩ := right_p w (n + 40) X s2.length (s2 ++ (.lst X :: t)) (h4 t) (fun x hx => (gx x hx).ok (by decide) (by decide)) (by omega) (by omega)
      have q' : L1_law (Phi prog (n + 40)) [some (.kl (ns.map .int)), some (.int k), some (.obj r), some (.obj s2.length), some (.str (rpl X)), some (.str w.word), x6, x7] (s2 ++ (.lst X :: t)) = .nx [some (.kl (ns.map .int)), some (.int k), some (.obj r), some (.obj s2.length), some (.str (rpl X)), some (.str w.word), x6, x7] (s2 ++ (.lst X :: t) ++ t2) := by
        generalize w.word = ww at *
        simp [L1_law, q]
      exact ⟨_, _, _, rfl, q', some (.str w.word), t ++ t2, rfl, by simp⟩) ⟨x5, [], rfl, rfl⟩
  have it5 : ∀ st, iterD (.tup [.str "plain", .str "wide", .str "turned", .str "folded", .str "plain"]) st = some (words, []) := fun st => rfl
  refine ⟨some (.obj r), some (.obj s2.length), some (.str (rpl X)), y5, x6, x7, s2 ++ (.lst X :: t'), ?_⟩
  simp [L2_law, q, lsz, rng1_ok, wipeE, upI_len, q1, it, l1, q2, ad, rp, it5, q']
end Mi

namespace Mi
open PySem L2
def X1 : List D := [.str "_", .str "a", .str "A", .str "Z", .str "z", .str "[", .tup [.str "A", .tup [.str "_"]], .tup [.str "a", .tup [.str "Z"]]]
def X2 : List D := [.tup [.tup [.bl true]], .tup [.tup [.int 1]], .tup [.tup [.tup [.int 0], .bl true]], .tup [.tup [.tup [.bl false], .int 1]], .tup [.tup [.int 2]]]
theorem ok_s {x : Str} (h : (ascB x && decide (x.length ≤ 100)) = true) : Ok (.str x) := by
  rw [Bool.and_eq_true, decide_eq_true_eq] at h
  exact ⟨⟨asc_of h.1, h.2⟩, by simp [dp'], by rw [sz]; omega⟩
theorem ok_t {ds : List D} (h : ∀ d ∈ ds, Th d ∧ dp' d ≤ 10 ∧ sz d ≤ 1000) (hl : ds.length ≤ 10) : Th (.tup ds) ∧ dp' (.tup ds) ≤ 11 ∧ sz (.tup ds) ≤ 10001 := by
  refine ⟨Ths.of fun d hd => (h d hd).1, ?_, ?_⟩
  · rw [dp']; have := dps_le fun d hd => (h d hd).2.1; omega
  · rw [sz]
    have := szs_le fun d hd => (h d hd).2.2
    have : ds.length * 1000 ≤ 10 * 1000 := Nat.mul_le_mul_right _ hl
    omega
theorem th_s {x : Str} (h : (ascB x && decide (x.length ≤ 100)) = true) : Th (.str x) := (ok_s h).th
theorem ok1 : ∀ x ∈ X1, Ok x := by
  intro x hx
  simp only [X1, List.mem_cons, List.not_mem_nil, or_false] at hx
  rcases hx with rfl | rfl | rfl | rfl | rfl | rfl | rfl | rfl
  · exact ok_s (by decide +kernel)
  · exact ok_s (by decide +kernel)
  · exact ok_s (by decide +kernel)
  · exact ok_s (by decide +kernel)
  · exact ok_s (by decide +kernel)
  · exact ok_s (by decide +kernel)
  · exact ⟨⟨th_s (by decide +kernel), ⟨th_s (by decide +kernel), trivial⟩, trivial⟩, by simp [dp', dps'], by decide +kernel⟩
  · exact ⟨⟨th_s (by decide +kernel), ⟨th_s (by decide +kernel), trivial⟩, trivial⟩, by simp [dp', dps'], by decide +kernel⟩
theorem ok2 : ∀ x ∈ X2, Ok x := by
  intro x hx
  simp only [X2, List.mem_cons, List.not_mem_nil, or_false] at hx
  rcases hx with rfl | rfl | rfl | rfl | rfl
  · exact ⟨⟨⟨trivial, trivial⟩, trivial⟩, by simp [dp', dps'], by simp [sz, szs]⟩
  · exact ⟨⟨⟨th_small _ (by decide), trivial⟩, trivial⟩, by simp [dp', dps'], by simp [sz, szs]⟩
  · exact ⟨⟨⟨⟨th_small _ (by decide), trivial⟩, trivial, trivial⟩, trivial⟩, by simp [dp', dps'], by simp [sz, szs]⟩
  · exact ⟨⟨⟨⟨trivial, trivial⟩, th_small _ (by decide), trivial⟩, trivial⟩, by simp [dp', dps'], by simp [sz, szs]⟩
  · exact ⟨⟨⟨th_small _ (by decide), trivial⟩, trivial⟩, by simp [dp', dps'], by simp [sz, szs]⟩
theorem yes (ns : List Int) (h : ns.length ≤ 63) : ∃ st, Phi prog 100 i_law [.kl (ns.map .int)] [] = .ok (.bl true) st := by
  rw [Phi_law, runB_eq]
  obtain ⟨env', st', q', y1, y2, y3, y4, y5, y6, y7, rfl⟩ := for_inv (w := []) (t := .nm 1) (J := fun env s => ∃ y1 y2 y3 y4 y5 y6 y7, env = [some (.kl (ns.map .int)), y1, y2, y3, y4, y5, y6, y7]) (B := L2_law (Phi prog 99))
    (fun _ _ _ => rfl) (upI 0 5) [some (.kl (ns.map .int)), none, none, none, none, none, none, none] [] (by
      rintro d hd env s ⟨y1, y2, y3, y4, y5, y6, y7, rfl⟩
      obtain ⟨k, hk, rfl⟩ : ∃ k : Nat, k < 6 ∧ d = .int k := by
        simp [upI] at hd
        obtain ⟨a, h1, rfl⟩ := hd
        exact ⟨a, by omega, by simp⟩
      obtain ⟨z2, z3, z4, z5, z6, z7, s', q⟩ := turn_p ns k y2 y3 y4 y5 y6 y7 99 s hk (by decide)
      exact ⟨_, _, s', rfl, q, _, _, _, _, _, _, _, rfl⟩) ⟨_, _, _, _, _, _, _, rfl⟩
  obtain ⟨t1, q1⟩ := right_p .folded 99 X1 st'.length (st' ++ [.lst X1]) (by simp) ok1 (by decide) (by decide)
  generalize hs1 : st' ++ [.lst X1] ++ t1 = s1 at *
  obtain ⟨t2, q2⟩ := right_p .wide 99 X2 s1.length (s1 ++ [.lst X2]) (by simp) ok2 (by decide) (by decide)
  refine ⟨s1 ++ [.lst X2] ++ t2, ?_⟩
  simp [b_law, rng1_ok, q', lsz]
  have e1 : Phi prog 99 i__law_right [.str "folded", .obj st'.length] (st' ++ [.lst [.str "_", .str "a", .str "A", .str "Z", .str "z", .str "[", .tup [.str "A", .tup [.str "_"]], .tup [.str "a", .tup [.str "Z"]]]]) = .ok (.bl true) s1 := q1
  have e2 : Phi prog 99 i__law_right [.str "wide", .obj s1.length] (s1 ++ [.lst [.tup [.tup [.bl true]], .tup [.tup [.int 1]], .tup [.tup [.tup [.int 0], .bl true]], .tup [.tup [.tup [.bl false], .int 1]], .tup [.tup [.int 2]]]]) = .ok (.bl true) (s1 ++ [.lst X2] ++ t2) := q2
  simp [e1, lsz]
  rw [e2]
  simp
end Mi

namespace Mi
open PySem L2

/-! the text by places (printed by wip/gen2.py) -/
def topS (i : Nat) : Stmt := PySem.Challenge.pw_oneprotocol_k04_manners_by_words.main.body.getD i (.Pass ⟨0, 0, 0, 0⟩)
abbrev s_sort_of : Stmt := topS 3
abbrev N_sort_of : List Str := ["thing"]
abbrev s_rank_of : Stmt := topS 4
abbrev N_rank_of : List Str := ["thing", "part"]
abbrev s_plain_like : Stmt := topS 5
abbrev N_plain_like : List Str := ["one", "other"]
abbrev s_plain_less : Stmt := topS 6
abbrev N_plain_less : List Str := ["one", "other"]
abbrev s_stirred_on : Stmt := topS 7
abbrev N_stirred_on : List Str := ["found", "number"]
abbrev s_plain_digest : Stmt := topS 8
abbrev N_plain_digest : List Str := ["thing", "found", "part"]
abbrev s_Manner____init__ : Stmt := inClass (topS 10) 0
abbrev N_Manner____init__ : List Str := ["self", "like", "less", "digest"]
abbrev s_Manner__is_like : Stmt := inClass (topS 10) 1
abbrev N_Manner__is_like : List Str := ["self", "one", "other", "handed"]
abbrev s_Manner__is_less : Stmt := inClass (topS 10) 2
abbrev N_Manner__is_less : List Str := ["self", "one", "other", "handed"]
abbrev s_Manner__digest_of : Stmt := inClass (topS 10) 3
abbrev N_Manner__digest_of : List Str := ["self", "thing", "handed"]
abbrev s_widened : Stmt := topS 11
abbrev N_widened : List Str := ["thing", "part"]
abbrev s_folded : Stmt := topS 12
abbrev N_folded : List Str := ["thing", "part"]
abbrev s_wide_like : Stmt := topS 13
abbrev N_wide_like : List Str := ["one", "other"]
abbrev s_wide_less : Stmt := topS 14
abbrev N_wide_less : List Str := ["one", "other"]
abbrev s_wide_digest : Stmt := topS 15
abbrev N_wide_digest : List Str := ["thing"]
abbrev s_turned_less : Stmt := topS 16
abbrev N_turned_less : List Str := ["one", "other"]
abbrev s_folded_like : Stmt := topS 17
abbrev N_folded_like : List Str := ["one", "other"]
abbrev s_folded_less : Stmt := topS 18
abbrev N_folded_less : List Str := ["one", "other"]
abbrev s_folded_digest : Stmt := topS 19
abbrev N_folded_digest : List Str := ["thing"]
abbrev s_manner_of : Stmt := topS 20
abbrev N_manner_of : List Str := ["word"]
abbrev s__law_feed : Stmt := topS 22
abbrev N__law_feed : List Str := ["_law_script", "_law_k", "_law_cell", "_law_great_here"]
abbrev s__law_take : Stmt := topS 23
abbrev N__law_take : List Str := ["_law_feed_here", "_law_many", "_law_digit", "_law_many_so", "_law_mixed"]
abbrev s__law_thing : Stmt := topS 24
abbrev N__law_thing : List Str := ["_law_feed_here", "_law_deep", "_law_way", "_law_k"]
abbrev s__law_signs : Stmt := topS 25
abbrev N__law_signs : List Str := ["_law_feed_here", "_law_most", "_law_signs_here", "_law_size", "_law_k"]
abbrev s__law_full : Stmt := topS 26
abbrev N__law_full : List Str := ["_law_feed_here", "_law_deep", "_law_way", "_law_far", "_law_size", "_law_found", "_law_k"]
abbrev s__law_fit : Stmt := topS 27
abbrev N__law_fit : List Str := ["_law_found"]
abbrev s__law_many_within : Stmt := topS 28
abbrev N__law_many_within : List Str := ["_law_given", "_law_one"]
abbrev s__law_sort : Stmt := topS 29
abbrev N__law_sort : List Str := ["_law_thing_here", "_law_marks"]
abbrev s__law_order : Stmt := topS 30
abbrev N__law_order : List Str := ["_law_one", "_law_other", "_law_first", "_law_last", "_law_part", "_law_part2", "_law_found"]
abbrev s__law_near : Stmt := topS 31
abbrev N__law_near : List Str := ["_law_feed_here", "_law_thing_here", "_law_way", "_law_at"]
abbrev s__law_taken_for : Stmt := topS 32
abbrev N__law_taken_for : List Str := ["_law_word", "_law_thing_here", "_law_part", "_law_sign"]
abbrev s__law_great : Stmt := topS 33
abbrev N__law_great : List Str := ["_law_sign"]
abbrev s__law_right : Stmt := topS 34
abbrev N__law_right : List Str := ["_law_word", "_law_things", "_law_manner_so", "_law_plain", "_law_told", "_law_at", "_law_one", "_law_at2", "_law_other", "_law_found", "_law_due", "_law_answers", "_law_thing_here"]
abbrev s_law : Stmt := topS 35
abbrev N_law : List Str := ["_law_script", "_law_k", "_law_feed_here", "_law_things", "_law_kept", "_law_word", "_law_turn", "_law_thing_here"]
theorem bb_abs : bootBuiltins "abs" = some (.builtin "abs") := by decide +kernel
theorem bb_bool : bootBuiltins "bool" = some (.type "bool") := by decide +kernel
theorem bb_enumerate : bootBuiltins "enumerate" = some (.type "enumerate") := by decide +kernel
theorem bb_int : bootBuiltins "int" = some (.type "int") := by decide +kernel
theorem bb_isinstance : bootBuiltins "isinstance" = some (.builtin "isinstance") := by decide +kernel
theorem bb_len : bootBuiltins "len" = some (.builtin "len") := by decide +kernel
theorem bb_range : bootBuiltins "range" = some (.type "range") := by decide +kernel
theorem bb_repr : bootBuiltins "repr" = some (.builtin "repr") := by decide +kernel
theorem bb_str : bootBuiltins "str" = some (.type "str") := by decide +kernel
theorem bb_sum : bootBuiltins "sum" = some (.builtin "sum") := by decide +kernel
theorem bb_tuple : bootBuiltins "tuple" = some (.type "tuple") := by decide +kernel
theorem bb_zip : bootBuiltins "zip" = some (.type "zip") := by decide +kernel
structure FI where
  a : Addr
  d : FuncData
def faF (fi : Nat → FI) (j : Nat) : Option Addr := some (fi j).a
def caF (ci : Nat → Addr) (c : Nat) : Option Addr := some (ci c)
structure Txt (g : Gd) (fi : Nat → FI) (ci : Nat → Addr) : Prop where
  hfa : ∀ j, g.fa j = some (fi j).a
  hca : ∀ c, g.ca c = some (ci c)
  F_sort_of : Fun g.K "sort_of" "sort_of" s_sort_of (fi 0).a (fi 0).d
  m_sort_of : g.mg "sort_of" = some (.ref (fi 0).a)
  b_sort_of : Binds g.K (fi 0).d ["thing"] []
  F_rank_of : Fun g.K "rank_of" "rank_of" s_rank_of (fi 1).a (fi 1).d
  m_rank_of : g.mg "rank_of" = some (.ref (fi 1).a)
  b_rank_of : Binds g.K (fi 1).d ["thing"] []
  F_plain_like : Fun g.K "plain_like" "plain_like" s_plain_like (fi 2).a (fi 2).d
  m_plain_like : g.mg "plain_like" = some (.ref (fi 2).a)
  b_plain_like : Binds g.K (fi 2).d ["one", "other"] []
  F_plain_less : Fun g.K "plain_less" "plain_less" s_plain_less (fi 3).a (fi 3).d
  m_plain_less : g.mg "plain_less" = some (.ref (fi 3).a)
  b_plain_less : Binds g.K (fi 3).d ["one", "other"] []
  F_stirred_on : Fun g.K "stirred_on" "stirred_on" s_stirred_on (fi 4).a (fi 4).d
  m_stirred_on : g.mg "stirred_on" = some (.ref (fi 4).a)
  b_stirred_on : Binds g.K (fi 4).d ["found", "number"] []
  F_plain_digest : Fun g.K "plain_digest" "plain_digest" s_plain_digest (fi 5).a (fi 5).d
  m_plain_digest : g.mg "plain_digest" = some (.ref (fi 5).a)
  b_plain_digest : Binds g.K (fi 5).d ["thing"] []
  F_Manner____init__ : Fun g.K "__init__" "Manner.__init__" s_Manner____init__ (fi 6).a (fi 6).d
  F_Manner__is_like : Fun g.K "is_like" "Manner.is_like" s_Manner__is_like (fi 7).a (fi 7).d
  b_Manner__is_like : Binds g.K (fi 7).d ["self", "one", "other"] []
  F_Manner__is_less : Fun g.K "is_less" "Manner.is_less" s_Manner__is_less (fi 8).a (fi 8).d
  b_Manner__is_less : Binds g.K (fi 8).d ["self", "one", "other"] []
  F_Manner__digest_of : Fun g.K "digest_of" "Manner.digest_of" s_Manner__digest_of (fi 9).a (fi 9).d
  b_Manner__digest_of : Binds g.K (fi 9).d ["self", "thing"] []
  F_widened : Fun g.K "widened" "widened" s_widened (fi 10).a (fi 10).d
  m_widened : g.mg "widened" = some (.ref (fi 10).a)
  b_widened : Binds g.K (fi 10).d ["thing"] []
  F_folded : Fun g.K "folded" "folded" s_folded (fi 11).a (fi 11).d
  m_folded : g.mg "folded" = some (.ref (fi 11).a)
  b_folded : Binds g.K (fi 11).d ["thing"] []
  F_wide_like : Fun g.K "wide_like" "wide_like" s_wide_like (fi 12).a (fi 12).d
  m_wide_like : g.mg "wide_like" = some (.ref (fi 12).a)
  b_wide_like : Binds g.K (fi 12).d ["one", "other"] []
  F_wide_less : Fun g.K "wide_less" "wide_less" s_wide_less (fi 13).a (fi 13).d
  m_wide_less : g.mg "wide_less" = some (.ref (fi 13).a)
  b_wide_less : Binds g.K (fi 13).d ["one", "other"] []
  F_wide_digest : Fun g.K "wide_digest" "wide_digest" s_wide_digest (fi 14).a (fi 14).d
  m_wide_digest : g.mg "wide_digest" = some (.ref (fi 14).a)
  b_wide_digest : Binds g.K (fi 14).d ["thing"] []
  F_turned_less : Fun g.K "turned_less" "turned_less" s_turned_less (fi 15).a (fi 15).d
  m_turned_less : g.mg "turned_less" = some (.ref (fi 15).a)
  b_turned_less : Binds g.K (fi 15).d ["one", "other"] []
  F_folded_like : Fun g.K "folded_like" "folded_like" s_folded_like (fi 16).a (fi 16).d
  m_folded_like : g.mg "folded_like" = some (.ref (fi 16).a)
  b_folded_like : Binds g.K (fi 16).d ["one", "other"] []
  F_folded_less : Fun g.K "folded_less" "folded_less" s_folded_less (fi 17).a (fi 17).d
  m_folded_less : g.mg "folded_less" = some (.ref (fi 17).a)
  b_folded_less : Binds g.K (fi 17).d ["one", "other"] []
  F_folded_digest : Fun g.K "folded_digest" "folded_digest" s_folded_digest (fi 18).a (fi 18).d
  m_folded_digest : g.mg "folded_digest" = some (.ref (fi 18).a)
  b_folded_digest : Binds g.K (fi 18).d ["thing"] []
  F_manner_of : Fun g.K "manner_of" "manner_of" s_manner_of (fi 19).a (fi 19).d
  m_manner_of : g.mg "manner_of" = some (.ref (fi 19).a)
  b_manner_of : Binds g.K (fi 19).d ["word"] []
  F__law_feed : Fun g.K "_law_feed" "_law_feed" s__law_feed (fi 20).a (fi 20).d
  m__law_feed : g.mg "_law_feed" = some (.ref (fi 20).a)
  b__law_feed : Binds g.K (fi 20).d ["_law_script", "_law_k"] []
  F__law_take : Fun g.K "_law_take" "_law_take" s__law_take (fi 21).a (fi 21).d
  m__law_take : g.mg "_law_take" = some (.ref (fi 21).a)
  b__law_take : Binds g.K (fi 21).d ["_law_feed_here", "_law_many"] []
  F__law_thing : Fun g.K "_law_thing" "_law_thing" s__law_thing (fi 22).a (fi 22).d
  m__law_thing : g.mg "_law_thing" = some (.ref (fi 22).a)
  b__law_thing : Binds g.K (fi 22).d ["_law_feed_here", "_law_deep"] []
  F__law_signs : Fun g.K "_law_signs" "_law_signs" s__law_signs (fi 23).a (fi 23).d
  m__law_signs : g.mg "_law_signs" = some (.ref (fi 23).a)
  b__law_signs : Binds g.K (fi 23).d ["_law_feed_here", "_law_most"] []
  F__law_full : Fun g.K "_law_full" "_law_full" s__law_full (fi 24).a (fi 24).d
  m__law_full : g.mg "_law_full" = some (.ref (fi 24).a)
  b__law_full : Binds g.K (fi 24).d ["_law_feed_here", "_law_deep"] []
  F__law_fit : Fun g.K "_law_fit" "_law_fit" s__law_fit (fi 25).a (fi 25).d
  m__law_fit : g.mg "_law_fit" = some (.ref (fi 25).a)
  b__law_fit : Binds g.K (fi 25).d ["_law_found"] []
  F__law_many_within : Fun g.K "_law_many_within" "_law_many_within" s__law_many_within (fi 26).a (fi 26).d
  m__law_many_within : g.mg "_law_many_within" = some (.ref (fi 26).a)
  b__law_many_within : Binds g.K (fi 26).d ["_law_given"] []
  F__law_sort : Fun g.K "_law_sort" "_law_sort" s__law_sort (fi 27).a (fi 27).d
  m__law_sort : g.mg "_law_sort" = some (.ref (fi 27).a)
  b__law_sort : Binds g.K (fi 27).d ["_law_thing_here"] []
  F__law_order : Fun g.K "_law_order" "_law_order" s__law_order (fi 28).a (fi 28).d
  m__law_order : g.mg "_law_order" = some (.ref (fi 28).a)
  b__law_order : Binds g.K (fi 28).d ["_law_one", "_law_other"] []
  F__law_near : Fun g.K "_law_near" "_law_near" s__law_near (fi 29).a (fi 29).d
  m__law_near : g.mg "_law_near" = some (.ref (fi 29).a)
  b__law_near : Binds g.K (fi 29).d ["_law_feed_here", "_law_thing_here"] []
  F__law_taken_for : Fun g.K "_law_taken_for" "_law_taken_for" s__law_taken_for (fi 30).a (fi 30).d
  m__law_taken_for : g.mg "_law_taken_for" = some (.ref (fi 30).a)
  b__law_taken_for : Binds g.K (fi 30).d ["_law_word", "_law_thing_here"] []
  F__law_great : Fun g.K "_law_great" "_law_great" s__law_great (fi 31).a (fi 31).d
  m__law_great : g.mg "_law_great" = some (.ref (fi 31).a)
  b__law_great : Binds g.K (fi 31).d ["_law_sign"] []
  F__law_right : Fun g.K "_law_right" "_law_right" s__law_right (fi 32).a (fi 32).d
  m__law_right : g.mg "_law_right" = some (.ref (fi 32).a)
  b__law_right : Binds g.K (fi 32).d ["_law_word", "_law_things"] []
  F_law : Fun g.K "law" "law" s_law (fi 33).a (fi 33).d
  m_law : g.mg "law" = some (.ref (fi 33).a)
  b_law : Binds g.K (fi 33).d ["_law_script"] []
  z_abs : g.mg "abs" = none
  z_bool : g.mg "bool" = none
  z_enumerate : g.mg "enumerate" = none
  z_int : g.mg "int" = none
  z_isinstance : g.mg "isinstance" = none
  z_len : g.mg "len" = none
  z_range : g.mg "range" = none
  z_repr : g.mg "repr" = none
  z_str : g.mg "str" = none
  z_sum : g.mg "sum" = none
  z_tuple : g.mg "tuple" = none
  z_zip : g.mg "zip" = none
  c_MOST_DIGEST : ∃ t, g.mg "MOST_DIGEST" = some (.int (2147483648) t)
  c_SIGNS : ∃ t, g.mg "SIGNS" = some (.str " !\"#$&'()*+,-./0123456789:;<=>?@ABCDEFGHIJKLMNOPQRSTUVWXYZ[\\]^_`abcdefghijklmnopqrstuvwxyz{|}~" t)
  k_Manner : g.mg "Manner" = some (.ref (ci 0))
  cl_Manner : Cls g.K (ci 0)
  mk_Manner : L2.Mk g.K (ci 0) (fi 6).a
  me_Manner_digest_of : Meth g.K (ci 0) "digest_of" (fi 9).a
  me_Manner_is_less : Meth g.K (ci 0) "is_less" (fi 8).a
  me_Manner_is_like : Meth g.K (ci 0) "is_like" (fi 7).a
  na_Manner_held_digest : NoAttr g.K (ci 0) "held_digest"
  na_Manner_held_less : NoAttr g.K (ci 0) "held_less"
  na_Manner_held_like : NoAttr g.K (ci 0) "held_like"
  kb_Manner____init___ : KBd g (fi 6).d ["self", "like", "less", "digest"] 1 [] gd_Manner____init___
  kb_Manner____init___less : KBd g (fi 6).d ["self", "like", "less", "digest"] 1 ["less"] gd_Manner____init___less
  kb_Manner____init___like_less_digest : KBd g (fi 6).d ["self", "like", "less", "digest"] 1 ["like", "less", "digest"] gd_Manner____init___like_less_digest
structure Fns (g : Gd) (fi : Nat → FI) (Φ : Fam) (k : Nat) : Prop where
  f_sort_of : FG g k (fi 0).a (fi 0).d ["thing"] (spD g 1 (Φ i_sort_of))
  f_rank_of : FG g k (fi 1).a (fi 1).d ["thing"] (spD g 1 (Φ i_rank_of))
  f_plain_like : FG g k (fi 2).a (fi 2).d ["one", "other"] (spD g 2 (Φ i_plain_like))
  f_plain_less : FG g k (fi 3).a (fi 3).d ["one", "other"] (spD g 2 (Φ i_plain_less))
  f_stirred_on : FG g k (fi 4).a (fi 4).d ["found", "number"] (spD g 2 (Φ i_stirred_on))
  f_plain_digest : FG g k (fi 5).a (fi 5).d ["thing"] (spD g 1 (Φ i_plain_digest))
  f_Manner____init__ : FG g k (fi 6).a (fi 6).d ["self", "like", "less", "digest"] (spD g 4 (Φ i_Manner____init__))
  f_Manner__is_like : FG g k (fi 7).a (fi 7).d ["self", "one", "other"] (spD g 3 (Φ i_Manner__is_like))
  f_Manner__is_less : FG g k (fi 8).a (fi 8).d ["self", "one", "other"] (spD g 3 (Φ i_Manner__is_less))
  f_Manner__digest_of : FG g k (fi 9).a (fi 9).d ["self", "thing"] (spD g 2 (Φ i_Manner__digest_of))
  f_widened : FG g k (fi 10).a (fi 10).d ["thing"] (spD g 1 (Φ i_widened))
  f_folded : FG g k (fi 11).a (fi 11).d ["thing"] (spD g 1 (Φ i_folded))
  f_wide_like : FG g k (fi 12).a (fi 12).d ["one", "other"] (spD g 2 (Φ i_wide_like))
  f_wide_less : FG g k (fi 13).a (fi 13).d ["one", "other"] (spD g 2 (Φ i_wide_less))
  f_wide_digest : FG g k (fi 14).a (fi 14).d ["thing"] (spD g 1 (Φ i_wide_digest))
  f_turned_less : FG g k (fi 15).a (fi 15).d ["one", "other"] (spD g 2 (Φ i_turned_less))
  f_folded_like : FG g k (fi 16).a (fi 16).d ["one", "other"] (spD g 2 (Φ i_folded_like))
  f_folded_less : FG g k (fi 17).a (fi 17).d ["one", "other"] (spD g 2 (Φ i_folded_less))
  f_folded_digest : FG g k (fi 18).a (fi 18).d ["thing"] (spD g 1 (Φ i_folded_digest))
  f_manner_of : FG g k (fi 19).a (fi 19).d ["word"] (spD g 1 (Φ i_manner_of))
  f__law_feed : FG g k (fi 20).a (fi 20).d ["_law_script", "_law_k"] (spD g 2 (Φ i__law_feed))
  f__law_take : FG g k (fi 21).a (fi 21).d ["_law_feed_here", "_law_many"] (spD g 2 (Φ i__law_take))
  f__law_thing : FG g k (fi 22).a (fi 22).d ["_law_feed_here", "_law_deep"] (spD g 2 (Φ i__law_thing))
  f__law_signs : FG g k (fi 23).a (fi 23).d ["_law_feed_here", "_law_most"] (spD g 2 (Φ i__law_signs))
  f__law_full : FG g k (fi 24).a (fi 24).d ["_law_feed_here", "_law_deep"] (spD g 2 (Φ i__law_full))
  f__law_fit : FG g k (fi 25).a (fi 25).d ["_law_found"] (spD g 1 (Φ i__law_fit))
  f__law_many_within : FG g k (fi 26).a (fi 26).d ["_law_given"] (spD g 1 (Φ i__law_many_within))
  f__law_sort : FG g k (fi 27).a (fi 27).d ["_law_thing_here"] (spD g 1 (Φ i__law_sort))
  f__law_order : FG g k (fi 28).a (fi 28).d ["_law_one", "_law_other"] (spD g 2 (Φ i__law_order))
  f__law_near : FG g k (fi 29).a (fi 29).d ["_law_feed_here", "_law_thing_here"] (spD g 2 (Φ i__law_near))
  f__law_taken_for : FG g k (fi 30).a (fi 30).d ["_law_word", "_law_thing_here"] (spD g 2 (Φ i__law_taken_for))
  f__law_great : FG g k (fi 31).a (fi 31).d ["_law_sign"] (spD g 1 (Φ i__law_great))
  f__law_right : FG g k (fi 32).a (fi 32).d ["_law_word", "_law_things"] (spD g 2 (Φ i__law_right))
  f_law : FG g k (fi 33).a (fi 33).d ["_law_script"] (spD g 1 (Φ i_law))
variable {g : Gd} {fi : Nat → FI} {ci : Nat → Addr} {Φ : Fam} {k : Nat}
theorem fl_held_digest (T : Txt g fi ci) : ∀ c C, T_held_digest c = true → g.ca c = some C → Cls g.K C ∧ NoAttr g.K C "held_digest" := by
  intro c C h hc
  rw [T.hca] at hc
  cases hc
  unfold T_held_digest at h
  split at h
  · exact ⟨T.cl_Manner, T.na_Manner_held_digest⟩
  · cases h
theorem fl_held_less (T : Txt g fi ci) : ∀ c C, T_held_less c = true → g.ca c = some C → Cls g.K C ∧ NoAttr g.K C "held_less" := by
  intro c C h hc
  rw [T.hca] at hc
  cases hc
  unfold T_held_less at h
  split at h
  · exact ⟨T.cl_Manner, T.na_Manner_held_less⟩
  · cases h
theorem fl_held_like (T : Txt g fi ci) : ∀ c C, T_held_like c = true → g.ca c = some C → Cls g.K C ∧ NoAttr g.K C "held_like" := by
  intro c C h hc
  rw [T.hca] at hc
  cases hc
  unfold T_held_like at h
  split at h
  · exact ⟨T.cl_Manner, T.na_Manner_held_like⟩
  · cases h
theorem mt_digest_of_1 (T : Txt g fi ci) (h : Fns g fi Φ k) : MtT g k "digest_of" 1 tb_digest_of_1 Φ := by
  intro c C i hi hc
  rw [T.hca] at hc
  cases hc
  unfold tb_digest_of_1 at hi
  split at hi
  · cases hi; exact ⟨T.cl_Manner, _, _, _, T.me_Manner_digest_of, h.f_Manner__digest_of, T.b_Manner__digest_of⟩
  · cases hi
theorem mt_is_less_2 (T : Txt g fi ci) (h : Fns g fi Φ k) : MtT g k "is_less" 2 tb_is_less_2 Φ := by
  intro c C i hi hc
  rw [T.hca] at hc
  cases hc
  unfold tb_is_less_2 at hi
  split at hi
  · cases hi; exact ⟨T.cl_Manner, _, _, _, T.me_Manner_is_less, h.f_Manner__is_less, T.b_Manner__is_less⟩
  · cases hi
theorem mt_is_like_2 (T : Txt g fi ci) (h : Fns g fi Φ k) : MtT g k "is_like" 2 tb_is_like_2 Φ := by
  intro c C i hi hc
  rw [T.hca] at hc
  cases hc
  unfold tb_is_like_2 at hi
  split at hi
  · cases hi; exact ⟨T.cl_Manner, _, _, _, T.me_Manner_is_like, h.f_Manner__is_like, T.b_Manner__is_like⟩
  · cases hi
theorem ft_1 (T : Txt g fi ci) (h : Fns g fi Φ k) : FnT g k 1 ok_1 Φ := by
  intro j f hj hf
  rw [T.hfa] at hf
  cases hf
  unfold ok_1 at hj
  split at hj
  · exact ⟨T.F_sort_of.kp, _, _, h.f_sort_of, T.b_sort_of⟩
  · exact ⟨T.F_rank_of.kp, _, _, h.f_rank_of, T.b_rank_of⟩
  · exact ⟨T.F_plain_digest.kp, _, _, h.f_plain_digest, T.b_plain_digest⟩
  · exact ⟨T.F_widened.kp, _, _, h.f_widened, T.b_widened⟩
  · exact ⟨T.F_folded.kp, _, _, h.f_folded, T.b_folded⟩
  · exact ⟨T.F_wide_digest.kp, _, _, h.f_wide_digest, T.b_wide_digest⟩
  · exact ⟨T.F_folded_digest.kp, _, _, h.f_folded_digest, T.b_folded_digest⟩
  · exact ⟨T.F_manner_of.kp, _, _, h.f_manner_of, T.b_manner_of⟩
  · exact ⟨T.F__law_fit.kp, _, _, h.f__law_fit, T.b__law_fit⟩
  · exact ⟨T.F__law_many_within.kp, _, _, h.f__law_many_within, T.b__law_many_within⟩
  · exact ⟨T.F__law_sort.kp, _, _, h.f__law_sort, T.b__law_sort⟩
  · exact ⟨T.F__law_great.kp, _, _, h.f__law_great, T.b__law_great⟩
  · exact ⟨T.F_law.kp, _, _, h.f_law, T.b_law⟩
  · cases hj
theorem ft_2 (T : Txt g fi ci) (h : Fns g fi Φ k) : FnT g k 2 ok_2 Φ := by
  intro j f hj hf
  rw [T.hfa] at hf
  cases hf
  unfold ok_2 at hj
  split at hj
  · exact ⟨T.F_plain_like.kp, _, _, h.f_plain_like, T.b_plain_like⟩
  · exact ⟨T.F_plain_less.kp, _, _, h.f_plain_less, T.b_plain_less⟩
  · exact ⟨T.F_stirred_on.kp, _, _, h.f_stirred_on, T.b_stirred_on⟩
  · exact ⟨T.F_wide_like.kp, _, _, h.f_wide_like, T.b_wide_like⟩
  · exact ⟨T.F_wide_less.kp, _, _, h.f_wide_less, T.b_wide_less⟩
  · exact ⟨T.F_turned_less.kp, _, _, h.f_turned_less, T.b_turned_less⟩
  · exact ⟨T.F_folded_like.kp, _, _, h.f_folded_like, T.b_folded_like⟩
  · exact ⟨T.F_folded_less.kp, _, _, h.f_folded_less, T.b_folded_less⟩
  · exact ⟨T.F__law_feed.kp, _, _, h.f__law_feed, T.b__law_feed⟩
  · exact ⟨T.F__law_take.kp, _, _, h.f__law_take, T.b__law_take⟩
  · exact ⟨T.F__law_thing.kp, _, _, h.f__law_thing, T.b__law_thing⟩
  · exact ⟨T.F__law_signs.kp, _, _, h.f__law_signs, T.b__law_signs⟩
  · exact ⟨T.F__law_full.kp, _, _, h.f__law_full, T.b__law_full⟩
  · exact ⟨T.F__law_order.kp, _, _, h.f__law_order, T.b__law_order⟩
  · exact ⟨T.F__law_near.kp, _, _, h.f__law_near, T.b__law_near⟩
  · exact ⟨T.F__law_taken_for.kp, _, _, h.f__law_taken_for, T.b__law_taken_for⟩
  · exact ⟨T.F__law_right.kp, _, _, h.f__law_right, T.b__law_right⟩
  · cases hj
theorem sc_sort_of : FnScope N_sort_of ["thing"] (defScope s_sort_of) := ⟨rfl, rfl, rfl, by decide +kernel, rfl, by decide +kernel, by decide +kernel⟩
theorem ok_sort_of (T : Txt g fi ci) (h : Fns g fi Φ k) : FG g (k + 2) (fi 0).a (fi 0).d ["thing"] (spD g 1 (prog Φ i_sort_of)) := by
  show FG g (k + 1 + 1) _ _ _ (spD g 1 (runB N_sort_of.length (b_sort_of Φ)))
  refine fg_of T.F_sort_of sc_sort_of rfl (by decide) fun cdv A fr s H E c hr1 => ?_
  have hr := hr1.mono (Nat.le_succ k)
  exact (os_cons (os_if (ot_cmp op_isD (OE.v (oe_var 0)) (OE.v oe_non)) (os_cons (os_ret oe_int)
    os_nil) os_nil)
    (os_cons (os_if (ot_val c (oe_isi c .bool (oe_var 0) bb_bool bb_isinstance T.z_isinstance T.z_bool)) (os_cons (os_ret oe_int)
    os_nil) os_nil)
    (os_cons (os_if (ot_val c (oe_isi c .int (oe_var 0) bb_int bb_isinstance T.z_isinstance T.z_int)) (os_cons (os_ret oe_int)
    os_nil) os_nil)
    (os_cons (os_ret (oe_if (ot_val c (oe_isi c .str (oe_var 0) bb_str bb_isinstance T.z_isinstance T.z_str)) oe_int oe_int))
    os_nil))))
theorem sc_rank_of : FnScope N_rank_of ["thing"] (defScope s_rank_of) := ⟨rfl, rfl, rfl, by decide +kernel, rfl, by decide +kernel, by decide +kernel⟩
theorem ok_rank_of (T : Txt g fi ci) (h : Fns g fi Φ k) : FG g (k + 2) (fi 1).a (fi 1).d ["thing"] (spD g 1 (prog Φ i_rank_of)) := by
  show FG g (k + 1 + 1) _ _ _ (spD g 1 (runB N_rank_of.length (b_rank_of Φ)))
  refine fg_of T.F_rank_of sc_rank_of rfl (by decide) fun cdv A fr s H E c hr1 => ?_
  have hr := hr1.mono (Nat.le_succ k)
  exact (os_cons (os_if (ot_cmp op_isD (OE.v (oe_var 0)) (OE.v oe_non)) (os_cons (os_ret (oe_tup (oa_cons oe_int (oa_cons oe_int oa_nil))))
    os_nil) os_nil)
    (os_cons (os_if (ot_val c (oe_isi c .tuple (oe_var 0) bb_tuple bb_isinstance T.z_isinstance T.z_tuple)) (os_cons (os_ret (oe_tup (oa_cons oe_int (oa_cons (oe_callTyL c (bil_tuple c) bb_tuple T.z_tuple (ol_comp c (blkOk_by (N := N_rank_of) (sc := defScope s_rank_of) (own := [("part", 1)]) (by decide +kernel)) (oi_val c (oe_var 0)) (fun _ _ _ _ _ => (og_nm c.blk.nd)) (fun _ _ _ _ _ => ots_nil) (fun _ _ _ _ _ => (oe_call c.blk h.f_rank_of hr T.m_rank_of T.F_rank_of.kp T.b_rank_of (oa_cons (oe_var 1) oa_nil) (hgl := (aCons_len aNil_len)))) (by decide))) oa_nil))))
    os_nil) os_nil)
    (os_cons (os_ret (oe_tup (oa_cons (oe_call c h.f_sort_of hr T.m_sort_of T.F_sort_of.kp T.b_sort_of (oa_cons (oe_var 0) oa_nil) (hgl := (aCons_len aNil_len))) (oa_cons (oe_var 0) oa_nil))))
    os_nil)))
theorem sc_plain_like : FnScope N_plain_like ["one", "other"] (defScope s_plain_like) := ⟨rfl, rfl, rfl, by decide +kernel, rfl, by decide +kernel, by decide +kernel⟩
theorem ok_plain_like (T : Txt g fi ci) (h : Fns g fi Φ k) : FG g (k + 2) (fi 2).a (fi 2).d ["one", "other"] (spD g 2 (prog Φ i_plain_like)) := by
  show FG g (k + 1 + 1) _ _ _ (spD g 2 (runB N_plain_like.length (b_plain_like Φ)))
  refine fg_of T.F_plain_like sc_plain_like rfl (by decide) fun cdv A fr s H E c hr1 => ?_
  have hr := hr1.mono (Nat.le_succ k)
  exact (os_cons (os_ret (oe_cmp (op_eqQ c) (OE.v (oe_call c h.f_rank_of hr T.m_rank_of T.F_rank_of.kp T.b_rank_of (oa_cons (oe_var 0) oa_nil) (hgl := (aCons_len aNil_len)))) (OE.v (oe_call c h.f_rank_of hr T.m_rank_of T.F_rank_of.kp T.b_rank_of (oa_cons (oe_var 1) oa_nil) (hgl := (aCons_len aNil_len))))))
    os_nil)
theorem sc_plain_less : FnScope N_plain_less ["one", "other"] (defScope s_plain_less) := ⟨rfl, rfl, rfl, by decide +kernel, rfl, by decide +kernel, by decide +kernel⟩
theorem ok_plain_less (T : Txt g fi ci) (h : Fns g fi Φ k) : FG g (k + 2) (fi 3).a (fi 3).d ["one", "other"] (spD g 2 (prog Φ i_plain_less)) := by
  show FG g (k + 1 + 1) _ _ _ (spD g 2 (runB N_plain_less.length (b_plain_less Φ)))
  refine fg_of T.F_plain_less sc_plain_less rfl (by decide) fun cdv A fr s H E c hr1 => ?_
  have hr := hr1.mono (Nat.le_succ k)
  exact (os_cons (os_ret (oe_cmp (op_ltQ c) (OE.v (oe_call c h.f_rank_of hr T.m_rank_of T.F_rank_of.kp T.b_rank_of (oa_cons (oe_var 0) oa_nil) (hgl := (aCons_len aNil_len)))) (OE.v (oe_call c h.f_rank_of hr T.m_rank_of T.F_rank_of.kp T.b_rank_of (oa_cons (oe_var 1) oa_nil) (hgl := (aCons_len aNil_len))))))
    os_nil)
theorem sc_stirred_on : FnScope N_stirred_on ["found", "number"] (defScope s_stirred_on) := ⟨rfl, rfl, rfl, by decide +kernel, rfl, by decide +kernel, by decide +kernel⟩
theorem ok_stirred_on (T : Txt g fi ci) (h : Fns g fi Φ k) : FG g (k + 2) (fi 4).a (fi 4).d ["found", "number"] (spD g 2 (prog Φ i_stirred_on)) := by
  show FG g (k + 1 + 1) _ _ _ (spD g 2 (runB N_stirred_on.length (b_stirred_on Φ)))
  refine fg_of T.F_stirred_on sc_stirred_on rfl (by decide) fun cdv A fr s H E c hr1 => ?_
  have hr := hr1.mono (Nat.le_succ k)
  exact (os_cons (os_ret (oe_bin op_modD (OE.v (oe_bin (op_addD c) (OE.v (oe_bin (op_addD c) (OE.v (oe_bin (op_mulD c) (OE.v (oe_var 0)) (OE.v oe_int))) (OE.v (oe_bin (op_mulD c) (OE.v (oe_var 1)) (OE.v oe_int))))) (OE.v oe_int))) (OE.v (oe_glob (v := .int (2147483648)) c (Classical.choose_spec T.c_MOST_DIGEST) ⟨_, rfl⟩ (fun _ _ => rfl)))))
    os_nil)
theorem sc_plain_digest : FnScope N_plain_digest ["thing"] (defScope s_plain_digest) := ⟨rfl, rfl, rfl, by decide +kernel, rfl, by decide +kernel, by decide +kernel⟩
theorem ok_plain_digest (T : Txt g fi ci) (h : Fns g fi Φ k) : FG g (k + 2) (fi 5).a (fi 5).d ["thing"] (spD g 1 (prog Φ i_plain_digest)) := by
  show FG g (k + 1 + 1) _ _ _ (spD g 1 (runB N_plain_digest.length (b_plain_digest Φ)))
  refine fg_of T.F_plain_digest sc_plain_digest rfl (by decide) fun cdv A fr s H E c hr1 => ?_
  have hr := hr1.mono (Nat.le_succ k)
  exact (os_cons (os_set c (oe_call c h.f_stirred_on hr T.m_stirred_on T.F_stirred_on.kp T.b_stirred_on (oa_cons oe_int (oa_cons (oe_call c h.f_sort_of hr T.m_sort_of T.F_sort_of.kp T.b_sort_of (oa_cons (oe_var 0) oa_nil) (hgl := (aCons_len aNil_len))) oa_nil)) (hgl := (aCons_len (aCons_len aNil_len)))))
    (os_cons (os_if (ot_cmp op_isD (OE.v (oe_var 0)) (OE.v oe_non)) (os_cons (os_ret (oe_var 1))
    os_nil) os_nil)
    (os_cons (os_if (ot_val c (oe_isi c .int (oe_var 0) bb_int bb_isinstance T.z_isinstance T.z_int)) (os_cons (os_ret (oe_call c h.f_stirred_on hr T.m_stirred_on T.F_stirred_on.kp T.b_stirred_on (oa_cons (oe_var 1) (oa_cons (oe_callTy c (bi_int) bb_int T.z_int (oa_cons (oe_var 0) oa_nil)) oa_nil)) (hgl := (aCons_len (aCons_len aNil_len)))))
    os_nil) os_nil)
    (os_cons (os_for c (oi_val c (oe_var 0)) (og_nm c.nd) (os_cons (os_set c (oe_call c h.f_stirred_on hr T.m_stirred_on T.F_stirred_on.kp T.b_stirred_on (oa_cons (oe_var 1) (oa_cons (oe_if (ot_val c (oe_isi c .str (oe_var 0) bb_str bb_isinstance T.z_isinstance T.z_str)) (oe_mt c PySem.F.plainAttrs_str PySem.F.slot_str_find PySem.F.type_str_find mt_findD (oe_glob (v := .str " !\"#$&'()*+,-./0123456789:;<=>?@ABCDEFGHIJKLMNOPQRSTUVWXYZ[\\]^_`abcdefghijklmnopqrstuvwxyz{|}~") c (Classical.choose_spec T.c_SIGNS) ⟨_, rfl⟩ (fun _ _ => rfl)) (oa_cons (oe_var 2) oa_nil)) (oe_call c h.f_plain_digest hr T.m_plain_digest T.F_plain_digest.kp T.b_plain_digest (oa_cons (oe_var 2) oa_nil) (hgl := (aCons_len aNil_len)))) oa_nil)) (hgl := (aCons_len (aCons_len aNil_len)))))
    os_nil))
    (os_cons (os_ret (oe_call c h.f_stirred_on hr T.m_stirred_on T.F_stirred_on.kp T.b_stirred_on (oa_cons (oe_var 1) (oa_cons (oe_callB c (bi_len c) bb_len T.z_len (oa_cons (oe_var 0) oa_nil)) oa_nil)) (hgl := (aCons_len (aCons_len aNil_len)))))
    os_nil)))))
theorem sc_Manner____init__ : FnScope N_Manner____init__ ["self", "like", "less", "digest"] (defScope s_Manner____init__) := ⟨rfl, rfl, rfl, by decide +kernel, rfl, by decide +kernel, by decide +kernel⟩
theorem ok_Manner____init__ (T : Txt g fi ci) (h : Fns g fi Φ k) : FG g (k + 2) (fi 6).a (fi 6).d ["self", "like", "less", "digest"] (spD g 4 (prog Φ i_Manner____init__)) := by
  show FG g (k + 1 + 1) _ _ _ (spD g 4 (runB N_Manner____init__.length (b_Manner____init__ Φ)))
  refine fg_of T.F_Manner____init__ sc_Manner____init__ rfl (by decide) fun cdv A fr s H E c hr1 => ?_
  have hr := hr1.mono (Nat.le_succ k)
  exact (os_cons (os_fld c (oe_if (ot_cmp op_isD (OE.v (oe_var 1)) (OE.v oe_non)) (oe_fn c T.m_plain_like (T.hfa 2)) (oe_var 1)) (oe_var 0) (fl_held_like T))
    (os_cons (os_fld c (oe_if (ot_cmp op_isD (OE.v (oe_var 2)) (OE.v oe_non)) (oe_fn c T.m_plain_less (T.hfa 3)) (oe_var 2)) (oe_var 0) (fl_held_less T))
    (os_cons (os_fld c (oe_if (ot_cmp op_isD (OE.v (oe_var 3)) (OE.v oe_non)) (oe_fn c T.m_plain_digest (T.hfa 5)) (oe_var 3)) (oe_var 0) (fl_held_digest T))
    os_nil)))
theorem sc_Manner__is_like : FnScope N_Manner__is_like ["self", "one", "other"] (defScope s_Manner__is_like) := ⟨rfl, rfl, rfl, by decide +kernel, rfl, by decide +kernel, by decide +kernel⟩
theorem ok_Manner__is_like (T : Txt g fi ci) (h : Fns g fi Φ k) : FG g (k + 2) (fi 7).a (fi 7).d ["self", "one", "other"] (spD g 3 (prog Φ i_Manner__is_like)) := by
  show FG g (k + 1 + 1) _ _ _ (spD g 3 (runB N_Manner__is_like.length (b_Manner__is_like Φ)))
  refine fg_of T.F_Manner__is_like sc_Manner__is_like rfl (by decide) fun cdv A fr s H E c hr1 => ?_
  have hr := hr1.mono (Nat.le_succ k)
  exact (os_cons (os_set c (oe_fld c (oe_var 0) (fl_held_like T)))
    (os_cons (os_ret (oe_callV c (i := 3) (ft_2 T h) hr (oa_cons (oe_var 1) (oa_cons (oe_var 2) oa_nil)) (hgl := (aCons_len (aCons_len aNil_len)))))
    os_nil))
theorem sc_Manner__is_less : FnScope N_Manner__is_less ["self", "one", "other"] (defScope s_Manner__is_less) := ⟨rfl, rfl, rfl, by decide +kernel, rfl, by decide +kernel, by decide +kernel⟩
theorem ok_Manner__is_less (T : Txt g fi ci) (h : Fns g fi Φ k) : FG g (k + 2) (fi 8).a (fi 8).d ["self", "one", "other"] (spD g 3 (prog Φ i_Manner__is_less)) := by
  show FG g (k + 1 + 1) _ _ _ (spD g 3 (runB N_Manner__is_less.length (b_Manner__is_less Φ)))
  refine fg_of T.F_Manner__is_less sc_Manner__is_less rfl (by decide) fun cdv A fr s H E c hr1 => ?_
  have hr := hr1.mono (Nat.le_succ k)
  exact (os_cons (os_set c (oe_fld c (oe_var 0) (fl_held_less T)))
    (os_cons (os_ret (oe_callV c (i := 3) (ft_2 T h) hr (oa_cons (oe_var 1) (oa_cons (oe_var 2) oa_nil)) (hgl := (aCons_len (aCons_len aNil_len)))))
    os_nil))
theorem sc_Manner__digest_of : FnScope N_Manner__digest_of ["self", "thing"] (defScope s_Manner__digest_of) := ⟨rfl, rfl, rfl, by decide +kernel, rfl, by decide +kernel, by decide +kernel⟩
theorem ok_Manner__digest_of (T : Txt g fi ci) (h : Fns g fi Φ k) : FG g (k + 2) (fi 9).a (fi 9).d ["self", "thing"] (spD g 2 (prog Φ i_Manner__digest_of)) := by
  show FG g (k + 1 + 1) _ _ _ (spD g 2 (runB N_Manner__digest_of.length (b_Manner__digest_of Φ)))
  refine fg_of T.F_Manner__digest_of sc_Manner__digest_of rfl (by decide) fun cdv A fr s H E c hr1 => ?_
  have hr := hr1.mono (Nat.le_succ k)
  exact (os_cons (os_set c (oe_fld c (oe_var 0) (fl_held_digest T)))
    (os_cons (os_ret (oe_callV c (i := 2) (ft_1 T h) hr (oa_cons (oe_var 1) oa_nil) (hgl := (aCons_len aNil_len))))
    os_nil))
theorem sc_widened : FnScope N_widened ["thing"] (defScope s_widened) := ⟨rfl, rfl, rfl, by decide +kernel, rfl, by decide +kernel, by decide +kernel⟩
theorem ok_widened (T : Txt g fi ci) (h : Fns g fi Φ k) : FG g (k + 2) (fi 10).a (fi 10).d ["thing"] (spD g 1 (prog Φ i_widened)) := by
  show FG g (k + 1 + 1) _ _ _ (spD g 1 (runB N_widened.length (b_widened Φ)))
  refine fg_of T.F_widened sc_widened rfl (by decide) fun cdv A fr s H E c hr1 => ?_
  have hr := hr1.mono (Nat.le_succ k)
  exact (os_cons (os_if (ot_val c (oe_isi c .bool (oe_var 0) bb_bool bb_isinstance T.z_isinstance T.z_bool)) (os_cons (os_ret (oe_callTy c (bi_int) bb_int T.z_int (oa_cons (oe_var 0) oa_nil)))
    os_nil) os_nil)
    (os_cons (os_ret (oe_if (ot_val c (oe_isi c .tuple (oe_var 0) bb_tuple bb_isinstance T.z_isinstance T.z_tuple)) (oe_callTyL c (bil_tuple c) bb_tuple T.z_tuple (ol_comp c (blkOk_by (N := N_widened) (sc := defScope s_widened) (own := [("part", 1)]) (by decide +kernel)) (oi_val c (oe_var 0)) (fun _ _ _ _ _ => (og_nm c.blk.nd)) (fun _ _ _ _ _ => ots_nil) (fun _ _ _ _ _ => (oe_call c.blk h.f_widened hr T.m_widened T.F_widened.kp T.b_widened (oa_cons (oe_var 1) oa_nil) (hgl := (aCons_len aNil_len)))) (by decide))) (oe_var 0)))
    os_nil))
theorem sc_folded : FnScope N_folded ["thing"] (defScope s_folded) := ⟨rfl, rfl, rfl, by decide +kernel, rfl, by decide +kernel, by decide +kernel⟩
theorem ok_folded (T : Txt g fi ci) (h : Fns g fi Φ k) : FG g (k + 2) (fi 11).a (fi 11).d ["thing"] (spD g 1 (prog Φ i_folded)) := by
  show FG g (k + 1 + 1) _ _ _ (spD g 1 (runB N_folded.length (b_folded Φ)))
  refine fg_of T.F_folded sc_folded rfl (by decide) fun cdv A fr s H E c hr1 => ?_
  have hr := hr1.mono (Nat.le_succ k)
  exact (os_cons (os_if (ot_val c (oe_isi c .str (oe_var 0) bb_str bb_isinstance T.z_isinstance T.z_str)) (os_cons (os_ret (oe_mt0 c PySem.F.plainAttrs_str PySem.F.slot_str_lower PySem.F.type_str_lower mt_lowerD (oe_var 0)))
    os_nil) os_nil)
    (os_cons (os_ret (oe_if (ot_val c (oe_isi c .tuple (oe_var 0) bb_tuple bb_isinstance T.z_isinstance T.z_tuple)) (oe_callTyL c (bil_tuple c) bb_tuple T.z_tuple (ol_comp c (blkOk_by (N := N_folded) (sc := defScope s_folded) (own := [("part", 1)]) (by decide +kernel)) (oi_val c (oe_var 0)) (fun _ _ _ _ _ => (og_nm c.blk.nd)) (fun _ _ _ _ _ => ots_nil) (fun _ _ _ _ _ => (oe_call c.blk h.f_folded hr T.m_folded T.F_folded.kp T.b_folded (oa_cons (oe_var 1) oa_nil) (hgl := (aCons_len aNil_len)))) (by decide))) (oe_var 0)))
    os_nil))
theorem sc_wide_like : FnScope N_wide_like ["one", "other"] (defScope s_wide_like) := ⟨rfl, rfl, rfl, by decide +kernel, rfl, by decide +kernel, by decide +kernel⟩
theorem ok_wide_like (T : Txt g fi ci) (h : Fns g fi Φ k) : FG g (k + 2) (fi 12).a (fi 12).d ["one", "other"] (spD g 2 (prog Φ i_wide_like)) := by
  show FG g (k + 1 + 1) _ _ _ (spD g 2 (runB N_wide_like.length (b_wide_like Φ)))
  refine fg_of T.F_wide_like sc_wide_like rfl (by decide) fun cdv A fr s H E c hr1 => ?_
  have hr := hr1.mono (Nat.le_succ k)
  exact (os_cons (os_ret (oe_call c h.f_plain_like hr T.m_plain_like T.F_plain_like.kp T.b_plain_like (oa_cons (oe_call c h.f_widened hr T.m_widened T.F_widened.kp T.b_widened (oa_cons (oe_var 0) oa_nil) (hgl := (aCons_len aNil_len))) (oa_cons (oe_call c h.f_widened hr T.m_widened T.F_widened.kp T.b_widened (oa_cons (oe_var 1) oa_nil) (hgl := (aCons_len aNil_len))) oa_nil)) (hgl := (aCons_len (aCons_len aNil_len)))))
    os_nil)
theorem sc_wide_less : FnScope N_wide_less ["one", "other"] (defScope s_wide_less) := ⟨rfl, rfl, rfl, by decide +kernel, rfl, by decide +kernel, by decide +kernel⟩
theorem ok_wide_less (T : Txt g fi ci) (h : Fns g fi Φ k) : FG g (k + 2) (fi 13).a (fi 13).d ["one", "other"] (spD g 2 (prog Φ i_wide_less)) := by
  show FG g (k + 1 + 1) _ _ _ (spD g 2 (runB N_wide_less.length (b_wide_less Φ)))
  refine fg_of T.F_wide_less sc_wide_less rfl (by decide) fun cdv A fr s H E c hr1 => ?_
  have hr := hr1.mono (Nat.le_succ k)
  exact (os_cons (os_ret (oe_call c h.f_plain_less hr T.m_plain_less T.F_plain_less.kp T.b_plain_less (oa_cons (oe_call c h.f_widened hr T.m_widened T.F_widened.kp T.b_widened (oa_cons (oe_var 0) oa_nil) (hgl := (aCons_len aNil_len))) (oa_cons (oe_call c h.f_widened hr T.m_widened T.F_widened.kp T.b_widened (oa_cons (oe_var 1) oa_nil) (hgl := (aCons_len aNil_len))) oa_nil)) (hgl := (aCons_len (aCons_len aNil_len)))))
    os_nil)
theorem sc_wide_digest : FnScope N_wide_digest ["thing"] (defScope s_wide_digest) := ⟨rfl, rfl, rfl, by decide +kernel, rfl, by decide +kernel, by decide +kernel⟩
theorem ok_wide_digest (T : Txt g fi ci) (h : Fns g fi Φ k) : FG g (k + 2) (fi 14).a (fi 14).d ["thing"] (spD g 1 (prog Φ i_wide_digest)) := by
  show FG g (k + 1 + 1) _ _ _ (spD g 1 (runB N_wide_digest.length (b_wide_digest Φ)))
  refine fg_of T.F_wide_digest sc_wide_digest rfl (by decide) fun cdv A fr s H E c hr1 => ?_
  have hr := hr1.mono (Nat.le_succ k)
  exact (os_cons (os_ret (oe_call c h.f_plain_digest hr T.m_plain_digest T.F_plain_digest.kp T.b_plain_digest (oa_cons (oe_call c h.f_widened hr T.m_widened T.F_widened.kp T.b_widened (oa_cons (oe_var 0) oa_nil) (hgl := (aCons_len aNil_len))) oa_nil) (hgl := (aCons_len aNil_len))))
    os_nil)
theorem sc_turned_less : FnScope N_turned_less ["one", "other"] (defScope s_turned_less) := ⟨rfl, rfl, rfl, by decide +kernel, rfl, by decide +kernel, by decide +kernel⟩
theorem ok_turned_less (T : Txt g fi ci) (h : Fns g fi Φ k) : FG g (k + 2) (fi 15).a (fi 15).d ["one", "other"] (spD g 2 (prog Φ i_turned_less)) := by
  show FG g (k + 1 + 1) _ _ _ (spD g 2 (runB N_turned_less.length (b_turned_less Φ)))
  refine fg_of T.F_turned_less sc_turned_less rfl (by decide) fun cdv A fr s H E c hr1 => ?_
  have hr := hr1.mono (Nat.le_succ k)
  exact (os_cons (os_ret (oe_call c h.f_plain_less hr T.m_plain_less T.F_plain_less.kp T.b_plain_less (oa_cons (oe_var 1) (oa_cons (oe_var 0) oa_nil)) (hgl := (aCons_len (aCons_len aNil_len)))))
    os_nil)
theorem sc_folded_like : FnScope N_folded_like ["one", "other"] (defScope s_folded_like) := ⟨rfl, rfl, rfl, by decide +kernel, rfl, by decide +kernel, by decide +kernel⟩
theorem ok_folded_like (T : Txt g fi ci) (h : Fns g fi Φ k) : FG g (k + 2) (fi 16).a (fi 16).d ["one", "other"] (spD g 2 (prog Φ i_folded_like)) := by
  show FG g (k + 1 + 1) _ _ _ (spD g 2 (runB N_folded_like.length (b_folded_like Φ)))
  refine fg_of T.F_folded_like sc_folded_like rfl (by decide) fun cdv A fr s H E c hr1 => ?_
  have hr := hr1.mono (Nat.le_succ k)
  exact (os_cons (os_ret (oe_call c h.f_plain_like hr T.m_plain_like T.F_plain_like.kp T.b_plain_like (oa_cons (oe_call c h.f_folded hr T.m_folded T.F_folded.kp T.b_folded (oa_cons (oe_var 0) oa_nil) (hgl := (aCons_len aNil_len))) (oa_cons (oe_call c h.f_folded hr T.m_folded T.F_folded.kp T.b_folded (oa_cons (oe_var 1) oa_nil) (hgl := (aCons_len aNil_len))) oa_nil)) (hgl := (aCons_len (aCons_len aNil_len)))))
    os_nil)
theorem sc_folded_less : FnScope N_folded_less ["one", "other"] (defScope s_folded_less) := ⟨rfl, rfl, rfl, by decide +kernel, rfl, by decide +kernel, by decide +kernel⟩
theorem ok_folded_less (T : Txt g fi ci) (h : Fns g fi Φ k) : FG g (k + 2) (fi 17).a (fi 17).d ["one", "other"] (spD g 2 (prog Φ i_folded_less)) := by
  show FG g (k + 1 + 1) _ _ _ (spD g 2 (runB N_folded_less.length (b_folded_less Φ)))
  refine fg_of T.F_folded_less sc_folded_less rfl (by decide) fun cdv A fr s H E c hr1 => ?_
  have hr := hr1.mono (Nat.le_succ k)
  exact (os_cons (os_ret (oe_call c h.f_plain_less hr T.m_plain_less T.F_plain_less.kp T.b_plain_less (oa_cons (oe_call c h.f_folded hr T.m_folded T.F_folded.kp T.b_folded (oa_cons (oe_var 0) oa_nil) (hgl := (aCons_len aNil_len))) (oa_cons (oe_call c h.f_folded hr T.m_folded T.F_folded.kp T.b_folded (oa_cons (oe_var 1) oa_nil) (hgl := (aCons_len aNil_len))) oa_nil)) (hgl := (aCons_len (aCons_len aNil_len)))))
    os_nil)
theorem sc_folded_digest : FnScope N_folded_digest ["thing"] (defScope s_folded_digest) := ⟨rfl, rfl, rfl, by decide +kernel, rfl, by decide +kernel, by decide +kernel⟩
theorem ok_folded_digest (T : Txt g fi ci) (h : Fns g fi Φ k) : FG g (k + 2) (fi 18).a (fi 18).d ["thing"] (spD g 1 (prog Φ i_folded_digest)) := by
  show FG g (k + 1 + 1) _ _ _ (spD g 1 (runB N_folded_digest.length (b_folded_digest Φ)))
  refine fg_of T.F_folded_digest sc_folded_digest rfl (by decide) fun cdv A fr s H E c hr1 => ?_
  have hr := hr1.mono (Nat.le_succ k)
  exact (os_cons (os_ret (oe_call c h.f_plain_digest hr T.m_plain_digest T.F_plain_digest.kp T.b_plain_digest (oa_cons (oe_call c h.f_folded hr T.m_folded T.F_folded.kp T.b_folded (oa_cons (oe_var 0) oa_nil) (hgl := (aCons_len aNil_len))) oa_nil) (hgl := (aCons_len aNil_len))))
    os_nil)
theorem sc_manner_of : FnScope N_manner_of ["word"] (defScope s_manner_of) := ⟨rfl, rfl, rfl, by decide +kernel, rfl, by decide +kernel, by decide +kernel⟩
theorem ok_manner_of (T : Txt g fi ci) (h : Fns g fi Φ k) : FG g (k + 2) (fi 19).a (fi 19).d ["word"] (spD g 1 (prog Φ i_manner_of)) := by
  show FG g (k + 1 + 1) _ _ _ (spD g 1 (runB N_manner_of.length (b_manner_of Φ)))
  refine fg_of T.F_manner_of sc_manner_of rfl (by decide) fun cdv A fr s H E c hr1 => ?_
  have hr := hr1.mono (Nat.le_succ k)
  exact (os_cons (os_if (ot_cmp (op_eqQ c) (OE.v (oe_var 0)) (OE.v oe_str)) (os_cons (os_ret (oe_makeK0 c (T.hca 0) T.mk_Manner h.f_Manner____init__ hr1 T.k_Manner T.kb_Manner____init___like_less_digest (ok_cons (oe_fn c T.m_wide_like (T.hfa 12)) (ok_cons (oe_fn c T.m_wide_less (T.hfa 13)) (ok_cons (oe_fn c T.m_wide_digest (T.hfa 14)) ok_nil))) (hgl' := (aCons_len (aCons_len (aCons_len aNil_len)))) (hgd := gl_Manner____init___like_less_digest)))
    os_nil) os_nil)
    (os_cons (os_if (ot_cmp (op_eqQ c) (OE.v (oe_var 0)) (OE.v oe_str)) (os_cons (os_ret (oe_makeK0 c (T.hca 0) T.mk_Manner h.f_Manner____init__ hr1 T.k_Manner T.kb_Manner____init___like_less_digest (ok_cons (oe_fn c T.m_folded_like (T.hfa 16)) (ok_cons (oe_fn c T.m_folded_less (T.hfa 17)) (ok_cons (oe_fn c T.m_folded_digest (T.hfa 18)) ok_nil))) (hgl' := (aCons_len (aCons_len (aCons_len aNil_len)))) (hgd := gl_Manner____init___like_less_digest)))
    os_nil) os_nil)
    (os_cons (os_ret (oe_if (ot_cmp (op_eqQ c) (OE.v (oe_var 0)) (OE.v oe_str)) (oe_makeK0 c (T.hca 0) T.mk_Manner h.f_Manner____init__ hr1 T.k_Manner T.kb_Manner____init___less (ok_cons (oe_fn c T.m_turned_less (T.hfa 15)) ok_nil) (hgl' := (aCons_len aNil_len)) (hgd := gl_Manner____init___less)) (oe_makeD0 c (T.hca 0) T.mk_Manner h.f_Manner____init__ hr1 T.k_Manner T.kb_Manner____init___ (hgd := gl_Manner____init___))))
    os_nil)))
theorem sc__law_feed : FnScope N__law_feed ["_law_script", "_law_k"] (defScope s__law_feed) := ⟨rfl, rfl, rfl, by decide +kernel, rfl, by decide +kernel, by decide +kernel⟩
theorem ok__law_feed (T : Txt g fi ci) (h : Fns g fi Φ k) : FG g (k + 2) (fi 20).a (fi 20).d ["_law_script", "_law_k"] (spD g 2 (prog Φ i__law_feed)) := by
  show FG g (k + 1 + 1) _ _ _ (spD g 2 (runB N__law_feed.length (b__law_feed Φ)))
  refine fg_of T.F__law_feed sc__law_feed rfl (by decide) fun cdv A fr s H E c hr1 => ?_
  have hr := hr1.mono (Nat.le_succ k)
  exact (os_cons (os_set c oe_int)
    (os_cons (os_if (ot_cmp (op_ltQ c) (OE.v (oe_var 1)) (OE.v (oe_callB c (bi_len c) bb_len T.z_len (oa_cons (oe_var 0) oa_nil)))) (os_cons (os_set c (oe_ix c (OE.v (oe_var 0)) (oe_var 1)))
    os_nil) os_nil)
    (os_cons (os_set c (oe_callB c (bi_abs) bb_abs T.z_abs (oa_cons (oe_var 2) oa_nil)))
    (os_cons (os_if (ot_cmp (op_ltQ c) (OE.v (oe_var 3)) (OE.v (oe_bin op_powD (OE.v oe_int) (OE.v oe_int)))) (os_cons (os_set c oe_int)
    os_nil) os_nil)
    (os_cons (os_ret (oe_lst (oa_cons (oe_var 3) (oa_cons (oe_bin op_modD (OE.v (oe_bin (op_addD c) (OE.v (oe_bin (op_addD c) (OE.v (oe_bin (op_mulD c) (OE.v (oe_bin op_modD (OE.v (oe_var 2)) (OE.v oe_int))) (OE.v oe_int))) (OE.v (oe_bin (op_mulD c) (OE.v oe_int) (OE.v (oe_var 1)))))) (OE.v oe_int))) (OE.v oe_int)) (oa_cons oe_int oa_nil)))))
    os_nil)))))
theorem sc__law_take : FnScope N__law_take ["_law_feed_here", "_law_many"] (defScope s__law_take) := ⟨rfl, rfl, rfl, by decide +kernel, rfl, by decide +kernel, by decide +kernel⟩
theorem ok__law_take (T : Txt g fi ci) (h : Fns g fi Φ k) : FG g (k + 2) (fi 21).a (fi 21).d ["_law_feed_here", "_law_many"] (spD g 2 (prog Φ i__law_take)) := by
  show FG g (k + 1 + 1) _ _ _ (spD g 2 (runB N__law_take.length (b__law_take Φ)))
  refine fg_of T.F__law_take sc__law_take rfl (by decide) fun cdv A fr s H E c hr1 => ?_
  have hr := hr1.mono (Nat.le_succ k)
  exact (os_cons (os_if (ot_cmp op_gtD (OE.v (oe_ix c (OE.v (oe_var 0)) oe_int)) (OE.v oe_int)) (os_cons (os_set c (oe_bin op_modD (OE.v (oe_ix c (OE.v (oe_var 0)) oe_int)) (OE.v (oe_var 1))))
    (os_cons (os_sub c (oe_bin op_fdivD (OE.v (oe_ix c (OE.v (oe_var 0)) oe_int)) (OE.v (oe_var 1))) (oe_var 0) oe_int)
    (os_cons (os_ret (oe_var 2))
    os_nil))) os_nil)
    (os_cons (os_set c (oe_bin (op_addD c) (OE.v (oe_ix c (OE.v (oe_var 0)) oe_int)) (OE.v oe_int)))
    (os_cons (os_sub c (oe_var 3) (oe_var 0) oe_int)
    (os_cons (os_set c (oe_bin op_modD (OE.v (oe_bin (op_addD c) (OE.v (oe_bin (op_addD c) (OE.v (oe_ix c (OE.v (oe_var 0)) oe_int)) (OE.v (oe_bin (op_mulD c) (OE.v (oe_bin (op_mulD c) (OE.v oe_int) (OE.v (oe_var 3)))) (OE.v (oe_var 3)))))) (OE.v (oe_bin (op_mulD c) (OE.v oe_int) (OE.v (oe_var 3)))))) (OE.v oe_int)))
    (os_cons (os_set c (oe_bin op_modD (OE.v (oe_bin (op_addD c) (OE.v (oe_bin (op_addD c) (OE.v (oe_bin (op_mulD c) (OE.v (oe_var 4)) (OE.v (oe_var 4)))) (OE.v (oe_bin (op_mulD c) (OE.v oe_int) (OE.v (oe_var 4)))))) (OE.v (oe_var 3)))) (OE.v oe_int)))
    (os_cons (os_set c (oe_bin op_modD (OE.v (oe_bin (op_addD c) (OE.v (oe_bin (op_mulD c) (OE.v (oe_var 4)) (OE.v (oe_var 4)))) (OE.v (oe_bin (op_mulD c) (OE.v oe_int) (OE.v (oe_var 4)))))) (OE.v oe_int)))
    (os_cons (os_ret (oe_bin op_modD (OE.v (oe_bin op_fdivD (OE.v (oe_var 4)) (OE.v oe_int))) (OE.v (oe_var 1))))
    os_nil)))))))
theorem sc__law_thing : FnScope N__law_thing ["_law_feed_here", "_law_deep"] (defScope s__law_thing) := ⟨rfl, rfl, rfl, by decide +kernel, rfl, by decide +kernel, by decide +kernel⟩
theorem ok__law_thing (T : Txt g fi ci) (h : Fns g fi Φ k) : FG g (k + 2) (fi 22).a (fi 22).d ["_law_feed_here", "_law_deep"] (spD g 2 (prog Φ i__law_thing)) := by
  show FG g (k + 1 + 1) _ _ _ (spD g 2 (runB N__law_thing.length (b__law_thing Φ)))
  refine fg_of T.F__law_thing sc__law_thing rfl (by decide) fun cdv A fr s H E c hr1 => ?_
  have hr := hr1.mono (Nat.le_succ k)
  exact (os_cons (os_set c (oe_call c h.f__law_take hr T.m__law_take T.F__law_take.kp T.b__law_take (oa_cons (oe_var 0) (oa_cons oe_int oa_nil)) (hgl := (aCons_len (aCons_len aNil_len)))))
    (os_cons (os_if (ot_cmp (op_ltQ c) (OE.v (oe_var 2)) (OE.v oe_int)) (os_cons (os_ret (oe_ix c (OL.v (ol_disp (oa_cons oe_int (oa_cons oe_int (oa_cons oe_int (oa_cons oe_int (oa_cons (oe_un op_negD oe_int) (oa_cons (oe_bin op_powD (OE.v oe_int) (OE.v oe_int)) oa_nil)))))))) (oe_call c h.f__law_take hr T.m__law_take T.F__law_take.kp T.b__law_take (oa_cons (oe_var 0) (oa_cons oe_int oa_nil)) (hgl := (aCons_len (aCons_len aNil_len))))))
    os_nil) os_nil)
    (os_cons (os_if (ot_cmp (op_ltQ c) (OE.v (oe_var 2)) (OE.v oe_int)) (os_cons (os_ret (oe_ix c (OL.v (ol_disp (oa_cons oe_str (oa_cons oe_str (oa_cons oe_str (oa_cons oe_str (oa_cons oe_str (oa_cons oe_str (oa_cons oe_str (oa_cons oe_str oa_nil)))))))))) (oe_call c h.f__law_take hr T.m__law_take T.F__law_take.kp T.b__law_take (oa_cons (oe_var 0) (oa_cons oe_int oa_nil)) (hgl := (aCons_len (aCons_len aNil_len))))))
    os_nil) os_nil)
    (os_cons (os_if (ot_cmp (op_ltQ c) (OE.v (oe_var 2)) (OE.v oe_int)) (os_cons (os_ret (oe_ix c (OL.v (ol_disp (oa_cons oe_non (oa_cons oe_bl (oa_cons oe_bl oa_nil))))) (oe_bin op_subD (OE.v (oe_var 2)) (OE.v oe_int))))
    os_nil) os_nil)
    (os_cons (os_if (OW.ot (ow_or (ot_cmp (op_ltQ c) (OE.v (oe_var 2)) (OE.v oe_int)) (ow_or1 (ot_cmp (op_ltQ c) (OE.v (oe_var 1)) (OE.v oe_int))))) (os_cons (os_ret (oe_bin op_subD (OE.v (oe_call c h.f__law_take hr T.m__law_take T.F__law_take.kp T.b__law_take (oa_cons (oe_var 0) (oa_cons oe_int oa_nil)) (hgl := (aCons_len (aCons_len aNil_len))))) (OE.v oe_int)))
    os_nil) os_nil)
    (os_cons (os_ret (oe_callTyL c (bil_tuple c) bb_tuple T.z_tuple (ol_comp c (blkOk_by (N := N__law_thing) (sc := defScope s__law_thing) (own := [("_law_k", 3)]) (by decide +kernel)) (oi_range1 c (oa_cons (oe_call c h.f__law_take hr T.m__law_take T.F__law_take.kp T.b__law_take (oa_cons (oe_var 0) (oa_cons oe_int oa_nil)) (hgl := (aCons_len (aCons_len aNil_len)))) oa_nil) T.z_range) (fun _ _ _ _ _ => (og_nm c.blk.nd)) (fun _ _ _ _ _ => ots_nil) (fun _ _ _ _ _ => (oe_call c.blk h.f__law_thing hr T.m__law_thing T.F__law_thing.kp T.b__law_thing (oa_cons (oe_var 0) (oa_cons (oe_bin op_subD (OE.v (oe_var 1)) (OE.v oe_int)) oa_nil)) (hgl := (aCons_len (aCons_len aNil_len))))) (by decide))))
    os_nil))))))
theorem sc__law_signs : FnScope N__law_signs ["_law_feed_here", "_law_most"] (defScope s__law_signs) := ⟨rfl, rfl, rfl, by decide +kernel, rfl, by decide +kernel, by decide +kernel⟩
theorem ok__law_signs (T : Txt g fi ci) (h : Fns g fi Φ k) : FG g (k + 2) (fi 23).a (fi 23).d ["_law_feed_here", "_law_most"] (spD g 2 (prog Φ i__law_signs)) := by
  show FG g (k + 1 + 1) _ _ _ (spD g 2 (runB N__law_signs.length (b__law_signs Φ)))
  refine fg_of T.F__law_signs sc__law_signs rfl (by decide) fun cdv A fr s H E c hr1 => ?_
  have hr := hr1.mono (Nat.le_succ k)
  exact (os_cons (os_set c oe_str)
    (os_cons (os_set c (oe_ix c (OL.v (ol_disp (oa_cons oe_int (oa_cons oe_int (oa_cons oe_int (oa_cons (oe_var 1) (oa_cons (oe_call c h.f__law_take hr T.m__law_take T.F__law_take.kp T.b__law_take (oa_cons (oe_var 0) (oa_cons (oe_bin (op_addD c) (OE.v (oe_var 1)) (OE.v oe_int)) oa_nil)) (hgl := (aCons_len (aCons_len aNil_len)))) oa_nil))))))) (oe_call c h.f__law_take hr T.m__law_take T.F__law_take.kp T.b__law_take (oa_cons (oe_var 0) (oa_cons oe_int oa_nil)) (hgl := (aCons_len (aCons_len aNil_len))))))
    (os_cons (os_ret (oe_mtL c PySem.F.plainAttrs_str PySem.F.slot_str_join PySem.F.type_str_join (mtl_join c) oe_str (ol_comp c (blkOk_by (N := N__law_signs) (sc := defScope s__law_signs) (own := [("_law_k", 4)]) (by decide +kernel)) (oi_range1 c (oa_cons (oe_var 3) oa_nil) T.z_range) (fun _ _ _ _ _ => (og_nm c.blk.nd)) (fun _ _ _ _ _ => ots_nil) (fun _ _ _ _ _ => (oe_ix c.blk (OE.v (oe_var 2)) (oe_call c.blk h.f__law_take hr T.m__law_take T.F__law_take.kp T.b__law_take (oa_cons (oe_var 0) (oa_cons (oe_callB c.blk (bi_len c.blk) bb_len T.z_len (oa_cons (oe_var 2) oa_nil)) oa_nil)) (hgl := (aCons_len (aCons_len aNil_len)))))) (by decide))))
    os_nil)))
theorem sc__law_full : FnScope N__law_full ["_law_feed_here", "_law_deep"] (defScope s__law_full) := ⟨rfl, rfl, rfl, by decide +kernel, rfl, by decide +kernel, by decide +kernel⟩
theorem ok__law_full (T : Txt g fi ci) (h : Fns g fi Φ k) : FG g (k + 2) (fi 24).a (fi 24).d ["_law_feed_here", "_law_deep"] (spD g 2 (prog Φ i__law_full)) := by
  show FG g (k + 1 + 1) _ _ _ (spD g 2 (runB N__law_full.length (b__law_full Φ)))
  refine fg_of T.F__law_full sc__law_full rfl (by decide) fun cdv A fr s H E c hr1 => ?_
  have hr := hr1.mono (Nat.le_succ k)
  exact (os_cons (os_set c (oe_call c h.f__law_take hr T.m__law_take T.F__law_take.kp T.b__law_take (oa_cons (oe_var 0) (oa_cons oe_int oa_nil)) (hgl := (aCons_len (aCons_len aNil_len)))))
    (os_cons (os_if (OW.ot (ow_or (ot_cmp (op_ltQ c) (OE.v (oe_var 2)) (OE.v oe_int)) (ow_or1 (OW.ot (ow_and (ot_cmp op_gtD (OE.v (oe_var 2)) (OE.v oe_int)) (ow_and1 (ot_cmp (op_eqQ c) (OE.v (oe_var 1)) (OE.v oe_int)))))))) (os_cons (os_set c (oe_call c h.f__law_take hr T.m__law_take T.F__law_take.kp T.b__law_take (oa_cons (oe_var 0) (oa_cons (oe_bin op_powD (OE.v oe_int) (OE.v oe_int)) oa_nil)) (hgl := (aCons_len (aCons_len aNil_len)))))
    (os_cons (os_ret (oe_ix c (OL.v (ol_disp (oa_cons oe_int (oa_cons oe_int (oa_cons (oe_un op_negD oe_int) (oa_cons (oe_var 3) (oa_cons (oe_bin op_subD (OE.v oe_int) (OE.v (oe_var 3))) (oa_cons (oe_bin op_subD (OE.v (oe_bin op_powD (OE.v oe_int) (OE.v oe_int))) (OE.v oe_int)) (oa_cons (oe_bin op_subD (OE.v oe_int) (OE.v (oe_bin op_powD (OE.v oe_int) (OE.v oe_int)))) (oa_cons (oe_bin (op_mulD c) (OE.v (oe_var 3)) (OE.v (oe_bin op_powD (OE.v oe_int) (OE.v oe_int)))) oa_nil)))))))))) (oe_call c h.f__law_take hr T.m__law_take T.F__law_take.kp T.b__law_take (oa_cons (oe_var 0) (oa_cons oe_int oa_nil)) (hgl := (aCons_len (aCons_len aNil_len))))))
    os_nil)) os_nil)
    (os_cons (os_if (ot_cmp (op_ltQ c) (OE.v (oe_var 2)) (OE.v oe_int)) (os_cons (os_ret (oe_call c h.f__law_signs hr T.m__law_signs T.F__law_signs.kp T.b__law_signs (oa_cons (oe_var 0) (oa_cons oe_int oa_nil)) (hgl := (aCons_len (aCons_len aNil_len)))))
    os_nil) os_nil)
    (os_cons (os_if (ot_cmp (op_eqQ c) (OE.v (oe_var 2)) (OE.v oe_int)) (os_cons (os_ret (oe_ix c (OL.v (ol_disp (oa_cons oe_non (oa_cons oe_bl (oa_cons oe_bl oa_nil))))) (oe_call c h.f__law_take hr T.m__law_take T.F__law_take.kp T.b__law_take (oa_cons (oe_var 0) (oa_cons oe_int oa_nil)) (hgl := (aCons_len (aCons_len aNil_len))))))
    os_nil) os_nil)
    (os_cons (os_set c (oe_ix c (OL.v (ol_disp (oa_cons oe_int (oa_cons oe_int (oa_cons oe_int (oa_cons oe_int (oa_cons oe_int (oa_cons oe_int oa_nil)))))))) (oe_call c h.f__law_take hr T.m__law_take T.F__law_take.kp T.b__law_take (oa_cons (oe_var 0) (oa_cons (oe_ix c (OL.v (ol_disp (oa_cons oe_int (oa_cons oe_int oa_nil)))) (oe_callTy c (bi_int) bb_int T.z_int (oa_cons (oe_cmp (op_eqQ c) (OE.v (oe_var 1)) (OE.v oe_int)) oa_nil))) oa_nil)) (hgl := (aCons_len (aCons_len aNil_len))))))
    (os_cons (os_set c (oe_callTyL c (bil_tuple c) bb_tuple T.z_tuple (ol_comp c (blkOk_by (N := N__law_full) (sc := defScope s__law_full) (own := [("_law_k", 6)]) (by decide +kernel)) (oi_range1 c (oa_cons (oe_var 4) oa_nil) T.z_range) (fun _ _ _ _ _ => (og_nm c.blk.nd)) (fun _ _ _ _ _ => ots_nil) (fun _ _ _ _ _ => (oe_call c.blk h.f__law_full hr T.m__law_full T.F__law_full.kp T.b__law_full (oa_cons (oe_var 0) (oa_cons (oe_bin op_subD (OE.v (oe_var 1)) (OE.v oe_int)) oa_nil)) (hgl := (aCons_len (aCons_len aNil_len))))) (by decide))))
    (os_cons (os_ret (oe_call c h.f__law_fit hr T.m__law_fit T.F__law_fit.kp T.b__law_fit (oa_cons (oe_var 5) oa_nil) (hgl := (aCons_len aNil_len))))
    os_nil)))))))
theorem sc__law_fit : FnScope N__law_fit ["_law_found"] (defScope s__law_fit) := ⟨rfl, rfl, rfl, by decide +kernel, rfl, by decide +kernel, by decide +kernel⟩
theorem ok__law_fit (T : Txt g fi ci) (h : Fns g fi Φ k) : FG g (k + 2) (fi 25).a (fi 25).d ["_law_found"] (spD g 1 (prog Φ i__law_fit)) := by
  show FG g (k + 1 + 1) _ _ _ (spD g 1 (runB N__law_fit.length (b__law_fit Φ)))
  refine fg_of T.F__law_fit sc__law_fit rfl (by decide) fun cdv A fr s H E c hr1 => ?_
  have hr := hr1.mono (Nat.le_succ k)
  exact (os_cons (os_while c FUEL (ot_cmp op_gtD (OE.v (oe_call c h.f__law_many_within hr T.m__law_many_within T.F__law_many_within.kp T.b__law_many_within (oa_cons (oe_var 0) oa_nil) (hgl := (aCons_len aNil_len)))) (OE.v oe_int)) (os_cons (os_set c (oe_sl c (oe_var 0) oo_no (oo_part (oe_un op_negD oe_int))))
    os_nil))
    (os_cons (os_ret (oe_var 0))
    os_nil))
theorem sc__law_many_within : FnScope N__law_many_within ["_law_given"] (defScope s__law_many_within) := ⟨rfl, rfl, rfl, by decide +kernel, rfl, by decide +kernel, by decide +kernel⟩
theorem ok__law_many_within (T : Txt g fi ci) (h : Fns g fi Φ k) : FG g (k + 2) (fi 26).a (fi 26).d ["_law_given"] (spD g 1 (prog Φ i__law_many_within)) := by
  show FG g (k + 1 + 1) _ _ _ (spD g 1 (runB N__law_many_within.length (b__law_many_within Φ)))
  refine fg_of T.F__law_many_within sc__law_many_within rfl (by decide) fun cdv A fr s H E c hr1 => ?_
  have hr := hr1.mono (Nat.le_succ k)
  exact (os_cons (os_if (ot_not (ot_val c (oe_isi c .tuple (oe_var 0) bb_tuple bb_isinstance T.z_isinstance T.z_tuple))) (os_cons (os_ret oe_int)
    os_nil) os_nil)
    (os_cons (os_ret (oe_callBL c ((bis_sum c).l) bb_sum T.z_sum (ol_comp c (blkOk_by (N := N__law_many_within) (sc := defScope s__law_many_within) (own := [("_law_one", 1)]) (by decide +kernel)) (oi_val c (oe_var 0)) (fun _ _ _ _ _ => (og_nm c.blk.nd)) (fun _ _ _ _ _ => ots_nil) (fun _ _ _ _ _ => (oe_bin (op_addD c.blk) (OE.v oe_int) (OE.v (oe_call c.blk h.f__law_many_within hr T.m__law_many_within T.F__law_many_within.kp T.b__law_many_within (oa_cons (oe_var 1) oa_nil) (hgl := (aCons_len aNil_len)))))) (by decide))))
    os_nil))
theorem sc__law_sort : FnScope N__law_sort ["_law_thing_here"] (defScope s__law_sort) := ⟨rfl, rfl, rfl, by decide +kernel, rfl, by decide +kernel, by decide +kernel⟩
theorem ok__law_sort (T : Txt g fi ci) (h : Fns g fi Φ k) : FG g (k + 2) (fi 27).a (fi 27).d ["_law_thing_here"] (spD g 1 (prog Φ i__law_sort)) := by
  show FG g (k + 1 + 1) _ _ _ (spD g 1 (runB N__law_sort.length (b__law_sort Φ)))
  refine fg_of T.F__law_sort sc__law_sort rfl (by decide) fun cdv A fr s H E c hr1 => ?_
  have hr := hr1.mono (Nat.le_succ k)
  exact (os_cons (os_if (ot_cmp op_isD (OE.v (oe_var 0)) (OE.v oe_non)) (os_cons (os_ret oe_int)
    os_nil) os_nil)
    (os_cons (os_set c (oe_lst (oa_cons (oe_isi c .bool (oe_var 0) bb_bool bb_isinstance T.z_isinstance T.z_bool) (oa_cons (oe_isi c .int (oe_var 0) bb_int bb_isinstance T.z_isinstance T.z_int) (oa_cons (oe_isi c .str (oe_var 0) bb_str bb_isinstance T.z_isinstance T.z_str) (oa_cons (oe_isi c .tuple (oe_var 0) bb_tuple bb_isinstance T.z_isinstance T.z_tuple) oa_nil))))))
    (os_cons (os_ret (oe_bin (op_addD c) (OE.v oe_int) (OE.v (oe_alt (oe_mt c PySem.F.plainAttrs_list PySem.F.slot_list_index PySem.F.type_list_index (mt_indexD c) (oe_var 1) (oa_cons oe_bl oa_nil)) (oe_mt c PySem.F.plainAttrs_str PySem.F.slot_str_index PySem.F.type_str_index mt_sindexD (oe_var 1) (oa_cons oe_bl oa_nil))))))
    os_nil)))
theorem sc__law_order : FnScope N__law_order ["_law_one", "_law_other"] (defScope s__law_order) := ⟨rfl, rfl, rfl, by decide +kernel, rfl, by decide +kernel, by decide +kernel⟩
theorem ok__law_order (T : Txt g fi ci) (h : Fns g fi Φ k) : FG g (k + 2) (fi 28).a (fi 28).d ["_law_one", "_law_other"] (spD g 2 (prog Φ i__law_order)) := by
  show FG g (k + 1 + 1) _ _ _ (spD g 2 (runB N__law_order.length (b__law_order Φ)))
  refine fg_of T.F__law_order sc__law_order rfl (by decide) fun cdv A fr s H E c hr1 => ?_
  have hr := hr1.mono (Nat.le_succ k)
  exact (os_cons (os_par c (oa_cons (oe_call c h.f__law_sort hr T.m__law_sort T.F__law_sort.kp T.b__law_sort (oa_cons (oe_var 0) oa_nil) (hgl := (aCons_len aNil_len))) (oa_cons (oe_call c h.f__law_sort hr T.m__law_sort T.F__law_sort.kp T.b__law_sort (oa_cons (oe_var 1) oa_nil) (hgl := (aCons_len aNil_len))) oa_nil)) (by decide) (by rfl))
    (os_cons (os_if (ot_cmp (op_neQ c) (OE.v (oe_var 2)) (OE.v (oe_var 3))) (os_cons (os_ret (oe_ix c (OL.v (ol_disp (oa_cons oe_int (oa_cons (oe_un op_negD oe_int) oa_nil)))) (oe_callTy c (bi_int) bb_int T.z_int (oa_cons (oe_cmp (op_ltQ c) (OE.v (oe_var 2)) (OE.v (oe_var 3))) oa_nil))))
    os_nil) os_nil)
    (os_cons (os_if (ot_val c (oe_isi c .tuple (oe_var 0) bb_tuple bb_isinstance T.z_isinstance T.z_tuple)) (os_cons (os_for c (oi_zip c (oa_cons (oe_var 0) (oa_cons (oe_var 1) oa_nil)) T.z_zip) (og_tp c.calm (ogs_cons c.nd (ogs_cons c.nd ogs_nil))) (os_cons (os_set c (oe_call c h.f__law_order hr T.m__law_order T.F__law_order.kp T.b__law_order (oa_cons (oe_var 4) (oa_cons (oe_var 5) oa_nil)) (hgl := (aCons_len (aCons_len aNil_len)))))
    (os_cons (os_if (ot_cmp (op_neQ c) (OE.v (oe_var 6)) (OE.v oe_int)) (os_cons (os_ret (oe_var 6))
    os_nil) os_nil)
    os_nil)))
    (os_cons (os_ret (oe_call c h.f__law_order hr T.m__law_order T.F__law_order.kp T.b__law_order (oa_cons (oe_callB c (bi_len c) bb_len T.z_len (oa_cons (oe_var 0) oa_nil)) (oa_cons (oe_callB c (bi_len c) bb_len T.z_len (oa_cons (oe_var 1) oa_nil)) oa_nil)) (hgl := (aCons_len (aCons_len aNil_len)))))
    os_nil)) os_nil)
    (os_cons (os_if (OW.ot (ow_or (ot_cmp op_isD (OE.v (oe_var 0)) (OE.v oe_non)) (ow_or1 (ot_cmp (op_eqQ c) (OE.v (oe_var 0)) (OE.v (oe_var 1)))))) (os_cons (os_ret oe_int)
    os_nil) os_nil)
    (os_cons (os_ret (oe_ix c (OL.v (ol_disp (oa_cons oe_int (oa_cons (oe_un op_negD oe_int) oa_nil)))) (oe_callTy c (bi_int) bb_int T.z_int (oa_cons (oe_cmp (op_ltQ c) (OE.v (oe_var 0)) (OE.v (oe_var 1))) oa_nil))))
    os_nil)))))
theorem sc__law_near : FnScope N__law_near ["_law_feed_here", "_law_thing_here"] (defScope s__law_near) := ⟨rfl, rfl, rfl, by decide +kernel, rfl, by decide +kernel, by decide +kernel⟩
theorem ok__law_near (T : Txt g fi ci) (h : Fns g fi Φ k) : FG g (k + 2) (fi 29).a (fi 29).d ["_law_feed_here", "_law_thing_here"] (spD g 2 (prog Φ i__law_near)) := by
  show FG g (k + 1 + 1) _ _ _ (spD g 2 (runB N__law_near.length (b__law_near Φ)))
  refine fg_of T.F__law_near sc__law_near rfl (by decide) fun cdv A fr s H E c hr1 => ?_
  have hr := hr1.mono (Nat.le_succ k)
  exact (os_cons (os_set c (oe_call c h.f__law_take hr T.m__law_take T.F__law_take.kp T.b__law_take (oa_cons (oe_var 0) (oa_cons oe_int oa_nil)) (hgl := (aCons_len (aCons_len aNil_len)))))
    (os_cons (os_if (ot_val c (oe_isi c .tuple (oe_var 1) bb_tuple bb_isinstance T.z_isinstance T.z_tuple)) (os_cons (os_set c (oe_call c h.f__law_take hr T.m__law_take T.F__law_take.kp T.b__law_take (oa_cons (oe_var 0) (oa_cons (oe_bin (op_addD c) (OE.v (oe_callB c (bi_len c) bb_len T.z_len (oa_cons (oe_var 1) oa_nil))) (OE.v oe_int)) oa_nil)) (hgl := (aCons_len (aCons_len aNil_len)))))
    (os_cons (os_if (OW.ot (ow_or (ot_cmp (op_eqQ c) (OE.v (oe_var 2)) (OE.v oe_int)) (ow_or1 (ot_cmp (op_eqQ c) (OE.v (oe_var 3)) (OE.v (oe_callB c (bi_len c) bb_len T.z_len (oa_cons (oe_var 1) oa_nil))))))) (os_cons (os_ret (oe_ix c (OL.v (ol_disp (oa_cons (oe_sl c (oe_var 1) oo_no (oo_part (oe_un op_negD oe_int))) (oa_cons (oe_sl c (oe_bin (op_addD c) (OE.v (oe_var 1)) (OE.v (oe_tup (oa_cons oe_non oa_nil)))) oo_no (oo_part oe_int)) (oa_cons (oe_var 1) oa_nil))))) (oe_call c h.f__law_take hr T.m__law_take T.F__law_take.kp T.b__law_take (oa_cons (oe_var 0) (oa_cons oe_int oa_nil)) (hgl := (aCons_len (aCons_len aNil_len))))))
    os_nil) os_nil)
    (os_cons (os_ret (oe_bin (op_addD c) (OE.v (oe_bin (op_addD c) (OE.v (oe_sl c (oe_var 1) oo_no (oo_part (oe_var 3)))) (OE.v (oe_tup (oa_cons (oe_call c h.f__law_near hr T.m__law_near T.F__law_near.kp T.b__law_near (oa_cons (oe_var 0) (oa_cons (oe_ix c (OE.v (oe_var 1)) (oe_var 3)) oa_nil)) (hgl := (aCons_len (aCons_len aNil_len)))) oa_nil))))) (OE.v (oe_sl c (oe_var 1) (oo_part (oe_bin (op_addD c) (OE.v (oe_var 3)) (OE.v oe_int))) oo_no))))
    os_nil))) os_nil)
    (os_cons (os_if (ot_val c (oe_isi c .str (oe_var 1) bb_str bb_isinstance T.z_isinstance T.z_str)) (os_cons (os_ret (oe_ix c (OL.v (ol_disp (oa_cons (oe_sl c (oe_var 1) oo_no (oo_part (oe_un op_negD oe_int))) (oa_cons (oe_sl c (oe_bin (op_addD c) (OE.v (oe_var 1)) (OE.v oe_str)) oo_no (oo_part oe_int)) (oa_cons (oe_sl c (oe_bin (op_addD c) (OE.v (oe_var 1)) (OE.v oe_str)) oo_no (oo_part oe_int)) (oa_cons (oe_mt0 c PySem.F.plainAttrs_str PySem.F.slot_str_upper PySem.F.type_str_upper mt_upperD (oe_var 1)) (oa_cons (oe_mt0 c PySem.F.plainAttrs_str PySem.F.slot_str_lower PySem.F.type_str_lower mt_lowerD (oe_var 1)) (oa_cons (oe_var 1) oa_nil)))))))) (oe_var 2)))
    os_nil) os_nil)
    (os_cons (os_if (ot_val c (oe_isi c .int (oe_var 1) bb_int bb_isinstance T.z_isinstance T.z_int)) (os_cons (os_ret (oe_ix c (OL.v (ol_disp (oa_cons (oe_callTy c (bi_int) bb_int T.z_int (oa_cons (oe_var 1) oa_nil)) (oa_cons (oe_cmp (op_eqQ c) (OE.v (oe_var 1)) (OE.v oe_int)) (oa_cons (oe_sl c (oe_callTy c (bi_str) bb_str T.z_str (oa_cons (oe_var 1) oa_nil)) oo_no (oo_part oe_int)) (oa_cons (oe_bin op_subD (OE.v oe_int) (OE.v (oe_callTy c (bi_int) bb_int T.z_int (oa_cons (oe_var 1) oa_nil)))) (oa_cons (oe_bin op_fdivD (OE.v (oe_callTy c (bi_int) bb_int T.z_int (oa_cons (oe_var 1) oa_nil))) (OE.v oe_int)) (oa_cons (oe_var 1) oa_nil)))))))) (oe_var 2)))
    os_nil) os_nil)
    (os_cons (os_ret (oe_ix c (OL.v (ol_disp (oa_cons oe_int (oa_cons oe_bl (oa_cons oe_str (oa_cons (oe_tup oa_nil) (oa_cons oe_str (oa_cons oe_non oa_nil)))))))) (oe_var 2)))
    os_nil)))))
theorem sc__law_taken_for : FnScope N__law_taken_for ["_law_word", "_law_thing_here"] (defScope s__law_taken_for) := ⟨rfl, rfl, rfl, by decide +kernel, rfl, by decide +kernel, by decide +kernel⟩
theorem ok__law_taken_for (T : Txt g fi ci) (h : Fns g fi Φ k) : FG g (k + 2) (fi 30).a (fi 30).d ["_law_word", "_law_thing_here"] (spD g 2 (prog Φ i__law_taken_for)) := by
  show FG g (k + 1 + 1) _ _ _ (spD g 2 (runB N__law_taken_for.length (b__law_taken_for Φ)))
  refine fg_of T.F__law_taken_for sc__law_taken_for rfl (by decide) fun cdv A fr s H E c hr1 => ?_
  have hr := hr1.mono (Nat.le_succ k)
  exact (os_cons (os_if (ot_val c (oe_isi c .tuple (oe_var 1) bb_tuple bb_isinstance T.z_isinstance T.z_tuple)) (os_cons (os_ret (oe_callTyL c (bil_tuple c) bb_tuple T.z_tuple (ol_comp c (blkOk_by (N := N__law_taken_for) (sc := defScope s__law_taken_for) (own := [("_law_part", 2)]) (by decide +kernel)) (oi_val c (oe_var 1)) (fun _ _ _ _ _ => (og_nm c.blk.nd)) (fun _ _ _ _ _ => ots_nil) (fun _ _ _ _ _ => (oe_call c.blk h.f__law_taken_for hr T.m__law_taken_for T.F__law_taken_for.kp T.b__law_taken_for (oa_cons (oe_var 0) (oa_cons (oe_var 2) oa_nil)) (hgl := (aCons_len (aCons_len aNil_len))))) (by decide))))
    os_nil) os_nil)
    (os_cons (os_if (OW.ot (ow_and (ot_cmp (op_eqQ c) (OE.v (oe_var 0)) (OE.v oe_str)) (ow_and1 (ot_val c (oe_isi c .bool (oe_var 1) bb_bool bb_isinstance T.z_isinstance T.z_bool))))) (os_cons (os_ret (oe_callTy c (bi_int) bb_int T.z_int (oa_cons (oe_var 1) oa_nil)))
    os_nil) os_nil)
    (os_cons (os_if (OW.ot (ow_and (ot_cmp (op_eqQ c) (OE.v (oe_var 0)) (OE.v oe_str)) (ow_and1 (ot_val c (oe_isi c .str (oe_var 1) bb_str bb_isinstance T.z_isinstance T.z_str))))) (os_cons (os_ret (oe_mtL c PySem.F.plainAttrs_str PySem.F.slot_str_join PySem.F.type_str_join (mtl_join c) oe_str (ol_comp c (blkOk_by (N := N__law_taken_for) (sc := defScope s__law_taken_for) (own := [("_law_sign", 3)]) (by decide +kernel)) (oi_val c (oe_var 1)) (fun _ _ _ _ _ => (og_nm c.blk.nd)) (fun _ _ _ _ _ => ots_nil) (fun _ _ _ _ _ => (oe_ix c.blk (OE.v (oe_bin (op_addD c.blk) (OE.v oe_str) (OE.v (oe_var 3)))) (oe_call c.blk h.f__law_great hr T.m__law_great T.F__law_great.kp T.b__law_great (oa_cons (oe_var 3) oa_nil) (hgl := (aCons_len aNil_len))))) (by decide))))
    os_nil) os_nil)
    (os_cons (os_ret (oe_var 1))
    os_nil))))
theorem sc__law_great : FnScope N__law_great ["_law_sign"] (defScope s__law_great) := ⟨rfl, rfl, rfl, by decide +kernel, rfl, by decide +kernel, by decide +kernel⟩
theorem ok__law_great (T : Txt g fi ci) (h : Fns g fi Φ k) : FG g (k + 2) (fi 31).a (fi 31).d ["_law_sign"] (spD g 1 (prog Φ i__law_great)) := by
  show FG g (k + 1 + 1) _ _ _ (spD g 1 (runB N__law_great.length (b__law_great Φ)))
  refine fg_of T.F__law_great sc__law_great rfl (by decide) fun cdv A fr s H E c hr1 => ?_
  have hr := hr1.mono (Nat.le_succ k)
  exact (os_cons (os_ret (oe_alt (oe_mt c PySem.F.plainAttrs_list PySem.F.slot_list_index PySem.F.type_list_index (mt_indexD c) (oe_bin (op_addD c) (OE.v oe_str) (OE.v (oe_var 0))) (oa_cons (oe_var 0) oa_nil)) (oe_mt c PySem.F.plainAttrs_str PySem.F.slot_str_index PySem.F.type_str_index mt_sindexD (oe_bin (op_addD c) (OE.v oe_str) (OE.v (oe_var 0))) (oa_cons (oe_var 0) oa_nil))))
    os_nil)
theorem sc__law_right : FnScope N__law_right ["_law_word", "_law_things"] (defScope s__law_right) := ⟨rfl, rfl, rfl, by decide +kernel, rfl, by decide +kernel, by decide +kernel⟩
theorem ok__law_right (T : Txt g fi ci) (h : Fns g fi Φ k) : FG g (k + 2) (fi 32).a (fi 32).d ["_law_word", "_law_things"] (spD g 2 (prog Φ i__law_right)) := by
  show FG g (k + 1 + 1) _ _ _ (spD g 2 (runB N__law_right.length (b__law_right Φ)))
  refine fg_of T.F__law_right sc__law_right rfl (by decide) fun cdv A fr s H E c hr1 => ?_
  have hr := hr1.mono (Nat.le_succ k)
  exact (os_cons (os_set c (oe_call c h.f_manner_of hr T.m_manner_of T.F_manner_of.kp T.b_manner_of (oa_cons (oe_var 0) oa_nil) (hgl := (aCons_len aNil_len))))
    (os_cons (os_setLc c (blkOk_by (N := N__law_right) (sc := defScope s__law_right) (own := [("_law_thing_here", 12)]) (by decide +kernel)) (sw_true rfl rfl rfl (by decide +kernel)) (oi_val c (oe_var 1)) (fun _ _ _ _ _ => (og_nm c.blk.nd)) (fun _ _ _ _ _ => ots_nil) (fun _ _ _ _ _ => (oe_call c.blk h.f__law_taken_for hr T.m__law_taken_for T.F__law_taken_for.kp T.b__law_taken_for (oa_cons (oe_var 0) (oa_cons (oe_var 12) oa_nil)) (hgl := (aCons_len (aCons_len aNil_len))))) (by decide))
    (os_cons (os_setLc c (blkOk_by (N := N__law_right) (sc := defScope s__law_right) (own := [("_law_thing_here", 12)]) (by decide +kernel)) (sw_true rfl rfl rfl (by decide +kernel)) (oi_val c (oe_var 1)) (fun _ _ _ _ _ => (og_nm c.blk.nd)) (fun _ _ _ _ _ => ots_nil) (fun _ _ _ _ _ => (oe_meth c.blk (mt_digest_of_1 T h) hr (oe_var 2) (oa_cons (oe_var 12) oa_nil) (hgl := (aCons_len aNil_len)))) (by decide))
    (os_cons (os_if (ot_cmp (op_neQ c) (OL.v (ol_comp c (blkOk_by (N := N__law_right) (sc := defScope s__law_right) (own := [("_law_one", 6)]) (by decide +kernel)) (oi_val c (oe_var 4)) (fun _ _ _ _ _ => (og_nm c.blk.nd)) (fun _ _ _ _ _ => (ots_one (OW.ot (ow_or (ot_not (ot_val c.blk (oe_isi c.blk .int (oe_var 6) bb_int bb_isinstance T.z_isinstance T.z_int))) (ow_or1 (ot_val c.blk (oe_isi c.blk .bool (oe_var 6) bb_bool bb_isinstance T.z_isinstance T.z_bool))))))) (fun _ _ _ _ _ => (oe_var 6)) (by decide))) (OL.v (ol_disp oa_nil))) (os_cons (os_ret oe_bl)
    os_nil) os_nil)
    (os_cons (os_for c (oi_enum c (oe_var 1) T.z_enumerate) (og_tp c.calm (ogs_cons c.nd (ogs_cons c.nd ogs_nil))) (os_cons (os_for c (oi_enum c (oe_var 1) T.z_enumerate) (og_tp c.calm (ogs_cons c.nd (ogs_cons c.nd ogs_nil))) (os_cons (os_set c (oe_call c h.f__law_order hr T.m__law_order T.F__law_order.kp T.b__law_order (oa_cons (oe_ix c (OE.v (oe_var 3)) (oe_var 5)) (oa_cons (oe_ix c (OE.v (oe_var 3)) (oe_var 7)) oa_nil)) (hgl := (aCons_len (aCons_len aNil_len)))))
    (os_cons (os_if (ot_cmp (op_eqQ c) (OE.v (oe_var 0)) (OE.v oe_str)) (os_cons (os_set c (oe_bin op_subD (OE.v oe_int) (OE.v (oe_var 9))))
    os_nil) os_nil)
    (os_cons (os_set c (oe_bin (op_mulD c) (OL.v (ol_disp (oa_cons (oe_callB c (bi_repr c) bb_repr T.z_repr (oa_cons (oe_cmp (op_eqQ c) (OE.v (oe_var 9)) (OE.v oe_int)) oa_nil)) (oa_cons (oe_callB c (bi_repr c) bb_repr T.z_repr (oa_cons (oe_cmp (op_ltQ c) (OE.v (oe_var 9)) (OE.v oe_int)) oa_nil)) oa_nil)))) (OE.v oe_int)))
    (os_cons (os_set c (oe_lst (oa_cons (oe_callB c (bi_repr c) bb_repr T.z_repr (oa_cons (oe_meth c (mt_is_like_2 T h) hr (oe_var 2) (oa_cons (oe_var 6) (oa_cons (oe_var 8) oa_nil)) (hgl := (aCons_len (aCons_len aNil_len)))) oa_nil)) (oa_cons (oe_callB c (bi_repr c) bb_repr T.z_repr (oa_cons (oe_meth c (mt_is_less_2 T h) hr (oe_var 2) (oa_cons (oe_var 6) (oa_cons (oe_var 8) oa_nil)) (hgl := (aCons_len (aCons_len aNil_len)))) oa_nil)) oa_nil))))
    (os_cons (os_expr (oe_mt c PySem.F.plainAttrs_list PySem.F.slot_list_append PySem.F.type_list_append mt_appendD (oe_var 11) (oa_cons (oe_callB c (bi_repr c) bb_repr T.z_repr (oa_cons (oe_meth c (mt_is_like_2 T h) hr (oe_var 2) (oa_cons (oe_var 6) (oa_cons (oe_var 8) oa_nil)) (hgl := (aCons_len (aCons_len aNil_len)))) oa_nil)) oa_nil)))
    (os_cons (os_expr (oe_mt c PySem.F.plainAttrs_list PySem.F.slot_list_append PySem.F.type_list_append mt_appendD (oe_var 11) (oa_cons (oe_callB c (bi_repr c) bb_repr T.z_repr (oa_cons (oe_meth c (mt_is_less_2 T h) hr (oe_var 2) (oa_cons (oe_var 6) (oa_cons (oe_var 8) oa_nil)) (hgl := (aCons_len (aCons_len aNil_len)))) oa_nil)) oa_nil)))
    (os_cons (os_if (OW.ot (ow_or (ot_cmp (op_neQ c) (OE.v (oe_var 11)) (OE.v (oe_var 10))) (ow_or1 (OW.ot (ow_and (ot_cmp (op_eqQ c) (OE.v (oe_var 9)) (OE.v oe_int)) (ow_and1 (ot_cmp (op_neQ c) (OE.v (oe_ix c (OE.v (oe_var 4)) (oe_var 5))) (OE.v (oe_ix c (OE.v (oe_var 4)) (oe_var 7)))))))))) (os_cons (os_ret oe_bl)
    os_nil) os_nil)
    os_nil))))))))
    os_nil))
    (os_cons (os_ret (oe_cmp (op_eqQ c) (OL.v (ol_comp c (blkOk_by (N := N__law_right) (sc := defScope s__law_right) (own := [("_law_thing_here", 12)]) (by decide +kernel)) (oi_val c (oe_var 1)) (fun _ _ _ _ _ => (og_nm c.blk.nd)) (fun _ _ _ _ _ => ots_nil) (fun _ _ _ _ _ => (oe_meth c.blk (mt_digest_of_1 T h) hr (oe_var 2) (oa_cons (oe_var 12) oa_nil) (hgl := (aCons_len aNil_len)))) (by decide))) (OE.v (oe_var 4))))
    os_nil))))))
theorem sc_law : FnScope N_law ["_law_script"] (defScope s_law) := ⟨rfl, rfl, rfl, by decide +kernel, rfl, by decide +kernel, by decide +kernel⟩
theorem ok_law (T : Txt g fi ci) (h : Fns g fi Φ k) : FG g (k + 2) (fi 33).a (fi 33).d ["_law_script"] (spD g 1 (prog Φ i_law)) := by
  show FG g (k + 1 + 1) _ _ _ (spD g 1 (runB N_law.length (b_law Φ)))
  refine fg_of T.F_law sc_law rfl (by decide) fun cdv A fr s H E c hr1 => ?_
  have hr := hr1.mono (Nat.le_succ k)
  exact (os_cons (os_for c (oi_range1 c (oa_cons oe_int oa_nil) T.z_range) (og_nm c.nd) (os_cons (os_set c (oe_call c h.f__law_feed hr T.m__law_feed T.F__law_feed.kp T.b__law_feed (oa_cons (oe_var 0) (oa_cons (oe_var 1) oa_nil)) (hgl := (aCons_len (aCons_len aNil_len)))))
    (os_cons (os_setLc c (blkOk_by (N := N_law) (sc := defScope s_law) (own := [("_law_turn", 6)]) (by decide +kernel)) (sw_true rfl rfl rfl (by decide +kernel)) (oi_range1 c (oa_cons oe_int oa_nil) T.z_range) (fun _ _ _ _ _ => (og_nm c.blk.nd)) (fun _ _ _ _ _ => ots_nil) (fun _ _ _ _ _ => (oe_ix c.blk (OL.v (ol_disp (oa_cons (oe_call c.blk h.f__law_full hr T.m__law_full T.F__law_full.kp T.b__law_full (oa_cons (oe_var 2) (oa_cons oe_int oa_nil)) (hgl := (aCons_len (aCons_len aNil_len)))) (oa_cons (oe_call c.blk h.f__law_thing hr T.m__law_thing T.F__law_thing.kp T.b__law_thing (oa_cons (oe_var 2) (oa_cons oe_int oa_nil)) (hgl := (aCons_len (aCons_len aNil_len)))) oa_nil)))) (oe_call c.blk h.f__law_take hr T.m__law_take T.F__law_take.kp T.b__law_take (oa_cons (oe_var 2) (oa_cons oe_int oa_nil)) (hgl := (aCons_len (aCons_len aNil_len)))))) (by decide))
    (os_cons (os_set c (oe_bin (op_addD c) (OE.v (oe_var 3)) (OL.v (ol_comp c (blkOk_by (N := N_law) (sc := defScope s_law) (own := [("_law_thing_here", 7)]) (by decide +kernel)) (oi_val c (oe_var 3)) (fun _ _ _ _ _ => (og_nm c.blk.nd)) (fun _ _ _ _ _ => ots_nil) (fun _ _ _ _ _ => (oe_call c.blk h.f__law_near hr T.m__law_near T.F__law_near.kp T.b__law_near (oa_cons (oe_var 2) (oa_cons (oe_var 7) oa_nil)) (hgl := (aCons_len (aCons_len aNil_len))))) (by decide)))))
    (os_cons (os_set c (oe_callB c (bi_repr c) bb_repr T.z_repr (oa_cons (oe_var 3) oa_nil)))
    (os_cons (os_for c (oi_val c (oe_tup (oa_cons oe_str (oa_cons oe_str (oa_cons oe_str (oa_cons oe_str (oa_cons oe_str oa_nil))))))) (og_nm c.nd) (os_cons (os_if (ot_not (ot_val c (oe_call c h.f__law_right hr T.m__law_right T.F__law_right.kp T.b__law_right (oa_cons (oe_var 5) (oa_cons (oe_var 3) oa_nil)) (hgl := (aCons_len (aCons_len aNil_len)))))) (os_cons (os_ret oe_bl)
    os_nil) os_nil)
    os_nil))
    (os_cons (os_if (ot_cmp (op_neQ c) (OE.v (oe_callB c (bi_repr c) bb_repr T.z_repr (oa_cons (oe_var 3) oa_nil))) (OE.v (oe_var 4))) (os_cons (os_ret oe_bl)
    os_nil) os_nil)
    os_nil)))))))
    (os_cons (os_if (ot_not (ot_val c (oe_call c h.f__law_right hr T.m__law_right T.F__law_right.kp T.b__law_right (oa_cons oe_str (oa_cons (oe_lst (oa_cons oe_str (oa_cons oe_str (oa_cons oe_str (oa_cons oe_str (oa_cons oe_str (oa_cons oe_str (oa_cons (oe_tup (oa_cons oe_str (oa_cons (oe_tup (oa_cons oe_str oa_nil)) oa_nil))) (oa_cons (oe_tup (oa_cons oe_str (oa_cons (oe_tup (oa_cons oe_str oa_nil)) oa_nil))) oa_nil))))))))) oa_nil)) (hgl := (aCons_len (aCons_len aNil_len)))))) (os_cons (os_ret oe_bl)
    os_nil) os_nil)
    (os_cons (os_ret (oe_call c h.f__law_right hr T.m__law_right T.F__law_right.kp T.b__law_right (oa_cons oe_str (oa_cons (oe_lst (oa_cons (oe_tup (oa_cons (oe_tup (oa_cons oe_bl oa_nil)) oa_nil)) (oa_cons (oe_tup (oa_cons (oe_tup (oa_cons oe_int oa_nil)) oa_nil)) (oa_cons (oe_tup (oa_cons (oe_tup (oa_cons (oe_tup (oa_cons oe_int oa_nil)) (oa_cons oe_bl oa_nil))) oa_nil)) (oa_cons (oe_tup (oa_cons (oe_tup (oa_cons (oe_tup (oa_cons oe_bl oa_nil)) (oa_cons oe_int oa_nil))) oa_nil)) (oa_cons (oe_tup (oa_cons (oe_tup (oa_cons oe_int oa_nil)) oa_nil)) oa_nil)))))) oa_nil)) (hgl := (aCons_len (aCons_len aNil_len)))))
    os_nil)))
theorem fns (T : Txt g fi ci) : ∀ n, Fns g fi (Phi prog n) (2 * n)
  | 0 => ⟨fg_none, fg_none, fg_none, fg_none, fg_none, fg_none, fg_none, fg_none, fg_none, fg_none, fg_none, fg_none, fg_none, fg_none, fg_none, fg_none, fg_none, fg_none, fg_none, fg_none, fg_none, fg_none, fg_none, fg_none, fg_none, fg_none, fg_none, fg_none, fg_none, fg_none, fg_none, fg_none, fg_none, fg_none⟩
  | n + 1 => ⟨ok_sort_of T (fns T n), ok_rank_of T (fns T n), ok_plain_like T (fns T n), ok_plain_less T (fns T n), ok_stirred_on T (fns T n), ok_plain_digest T (fns T n), ok_Manner____init__ T (fns T n), ok_Manner__is_like T (fns T n), ok_Manner__is_less T (fns T n), ok_Manner__digest_of T (fns T n), ok_widened T (fns T n), ok_folded T (fns T n), ok_wide_like T (fns T n), ok_wide_less T (fns T n), ok_wide_digest T (fns T n), ok_turned_less T (fns T n), ok_folded_like T (fns T n), ok_folded_less T (fns T n), ok_folded_digest T (fns T n), ok_manner_of T (fns T n), ok__law_feed T (fns T n), ok__law_take T (fns T n), ok__law_thing T (fns T n), ok__law_signs T (fns T n), ok__law_full T (fns T n), ok__law_fit T (fns T n), ok__law_many_within T (fns T n), ok__law_sort T (fns T n), ok__law_order T (fns T n), ok__law_near T (fns T n), ok__law_taken_for T (fns T n), ok__law_great T (fns T n), ok__law_right T (fns T n), ok_law T (fns T n)⟩
end Mi

namespace Mi
open PySem PySem.Spec PyProof.Rows L2

theorem all_mk {K : PySem.W.Frag} {h : Heap} {mg : Str → Option Value} (X : K.In h) (G : h.Ns mainGlobals mg)
    {C0 : Addr}
    {f0 : Addr} {od0 an0 : Option Addr} {sl0 : Array (Option Value)} {oc0 kV0 dc0 pm0 cd0 ct0 : Value}
    (a0 : PySem.W.nsIn K mainGlobals "sort_of" = some (some (.ref f0)))
    {f1 : Addr} {od1 an1 : Option Addr} {sl1 : Array (Option Value)} {oc1 kV1 dc1 pm1 cd1 ct1 : Value}
    (a1 : PySem.W.nsIn K mainGlobals "rank_of" = some (some (.ref f1)))
    {f2 : Addr} {od2 an2 : Option Addr} {sl2 : Array (Option Value)} {oc2 kV2 dc2 pm2 cd2 ct2 : Value}
    (a2 : PySem.W.nsIn K mainGlobals "plain_like" = some (some (.ref f2)))
    {f3 : Addr} {od3 an3 : Option Addr} {sl3 : Array (Option Value)} {oc3 kV3 dc3 pm3 cd3 ct3 : Value}
    (a3 : PySem.W.nsIn K mainGlobals "plain_less" = some (some (.ref f3)))
    {f4 : Addr} {od4 an4 : Option Addr} {sl4 : Array (Option Value)} {oc4 kV4 dc4 pm4 cd4 ct4 : Value}
    (a4 : PySem.W.nsIn K mainGlobals "stirred_on" = some (some (.ref f4)))
    {f5 : Addr} {od5 an5 : Option Addr} {sl5 : Array (Option Value)} {oc5 kV5 dc5 pm5 cd5 ct5 : Value}
    (a5 : PySem.W.nsIn K mainGlobals "plain_digest" = some (some (.ref f5)))
    {f6 : Addr} {od6 an6 : Option Addr} {sl6 : Array (Option Value)} {oc6  dc6 pm6 cd6 ct6 : Value} {D6 : Addr}
    {f7 : Addr} {od7 an7 : Option Addr} {sl7 : Array (Option Value)} {oc7 kV7 dc7 pm7 cd7 ct7 : Value}
    {f8 : Addr} {od8 an8 : Option Addr} {sl8 : Array (Option Value)} {oc8 kV8 dc8 pm8 cd8 ct8 : Value}
    {f9 : Addr} {od9 an9 : Option Addr} {sl9 : Array (Option Value)} {oc9 kV9 dc9 pm9 cd9 ct9 : Value}
    {f10 : Addr} {od10 an10 : Option Addr} {sl10 : Array (Option Value)} {oc10 kV10 dc10 pm10 cd10 ct10 : Value}
    (a10 : PySem.W.nsIn K mainGlobals "widened" = some (some (.ref f10)))
    {f11 : Addr} {od11 an11 : Option Addr} {sl11 : Array (Option Value)} {oc11 kV11 dc11 pm11 cd11 ct11 : Value}
    (a11 : PySem.W.nsIn K mainGlobals "folded" = some (some (.ref f11)))
    {f12 : Addr} {od12 an12 : Option Addr} {sl12 : Array (Option Value)} {oc12 kV12 dc12 pm12 cd12 ct12 : Value}
    (a12 : PySem.W.nsIn K mainGlobals "wide_like" = some (some (.ref f12)))
    {f13 : Addr} {od13 an13 : Option Addr} {sl13 : Array (Option Value)} {oc13 kV13 dc13 pm13 cd13 ct13 : Value}
    (a13 : PySem.W.nsIn K mainGlobals "wide_less" = some (some (.ref f13)))
    {f14 : Addr} {od14 an14 : Option Addr} {sl14 : Array (Option Value)} {oc14 kV14 dc14 pm14 cd14 ct14 : Value}
    (a14 : PySem.W.nsIn K mainGlobals "wide_digest" = some (some (.ref f14)))
    {f15 : Addr} {od15 an15 : Option Addr} {sl15 : Array (Option Value)} {oc15 kV15 dc15 pm15 cd15 ct15 : Value}
    (a15 : PySem.W.nsIn K mainGlobals "turned_less" = some (some (.ref f15)))
    {f16 : Addr} {od16 an16 : Option Addr} {sl16 : Array (Option Value)} {oc16 kV16 dc16 pm16 cd16 ct16 : Value}
    (a16 : PySem.W.nsIn K mainGlobals "folded_like" = some (some (.ref f16)))
    {f17 : Addr} {od17 an17 : Option Addr} {sl17 : Array (Option Value)} {oc17 kV17 dc17 pm17 cd17 ct17 : Value}
    (a17 : PySem.W.nsIn K mainGlobals "folded_less" = some (some (.ref f17)))
    {f18 : Addr} {od18 an18 : Option Addr} {sl18 : Array (Option Value)} {oc18 kV18 dc18 pm18 cd18 ct18 : Value}
    (a18 : PySem.W.nsIn K mainGlobals "folded_digest" = some (some (.ref f18)))
    {f19 : Addr} {od19 an19 : Option Addr} {sl19 : Array (Option Value)} {oc19 kV19 dc19 pm19 cd19 ct19 : Value}
    (a19 : PySem.W.nsIn K mainGlobals "manner_of" = some (some (.ref f19)))
    {f20 : Addr} {od20 an20 : Option Addr} {sl20 : Array (Option Value)} {oc20 kV20 dc20 pm20 cd20 ct20 : Value}
    (a20 : PySem.W.nsIn K mainGlobals "_law_feed" = some (some (.ref f20)))
    {f21 : Addr} {od21 an21 : Option Addr} {sl21 : Array (Option Value)} {oc21 kV21 dc21 pm21 cd21 ct21 : Value}
    (a21 : PySem.W.nsIn K mainGlobals "_law_take" = some (some (.ref f21)))
    {f22 : Addr} {od22 an22 : Option Addr} {sl22 : Array (Option Value)} {oc22 kV22 dc22 pm22 cd22 ct22 : Value}
    (a22 : PySem.W.nsIn K mainGlobals "_law_thing" = some (some (.ref f22)))
    {f23 : Addr} {od23 an23 : Option Addr} {sl23 : Array (Option Value)} {oc23 kV23 dc23 pm23 cd23 ct23 : Value}
    (a23 : PySem.W.nsIn K mainGlobals "_law_signs" = some (some (.ref f23)))
    {f24 : Addr} {od24 an24 : Option Addr} {sl24 : Array (Option Value)} {oc24 kV24 dc24 pm24 cd24 ct24 : Value}
    (a24 : PySem.W.nsIn K mainGlobals "_law_full" = some (some (.ref f24)))
    {f25 : Addr} {od25 an25 : Option Addr} {sl25 : Array (Option Value)} {oc25 kV25 dc25 pm25 cd25 ct25 : Value}
    (a25 : PySem.W.nsIn K mainGlobals "_law_fit" = some (some (.ref f25)))
    {f26 : Addr} {od26 an26 : Option Addr} {sl26 : Array (Option Value)} {oc26 kV26 dc26 pm26 cd26 ct26 : Value}
    (a26 : PySem.W.nsIn K mainGlobals "_law_many_within" = some (some (.ref f26)))
    {f27 : Addr} {od27 an27 : Option Addr} {sl27 : Array (Option Value)} {oc27 kV27 dc27 pm27 cd27 ct27 : Value}
    (a27 : PySem.W.nsIn K mainGlobals "_law_sort" = some (some (.ref f27)))
    {f28 : Addr} {od28 an28 : Option Addr} {sl28 : Array (Option Value)} {oc28 kV28 dc28 pm28 cd28 ct28 : Value}
    (a28 : PySem.W.nsIn K mainGlobals "_law_order" = some (some (.ref f28)))
    {f29 : Addr} {od29 an29 : Option Addr} {sl29 : Array (Option Value)} {oc29 kV29 dc29 pm29 cd29 ct29 : Value}
    (a29 : PySem.W.nsIn K mainGlobals "_law_near" = some (some (.ref f29)))
    {f30 : Addr} {od30 an30 : Option Addr} {sl30 : Array (Option Value)} {oc30 kV30 dc30 pm30 cd30 ct30 : Value}
    (a30 : PySem.W.nsIn K mainGlobals "_law_taken_for" = some (some (.ref f30)))
    {f31 : Addr} {od31 an31 : Option Addr} {sl31 : Array (Option Value)} {oc31 kV31 dc31 pm31 cd31 ct31 : Value}
    (a31 : PySem.W.nsIn K mainGlobals "_law_great" = some (some (.ref f31)))
    {f32 : Addr} {od32 an32 : Option Addr} {sl32 : Array (Option Value)} {oc32 kV32 dc32 pm32 cd32 ct32 : Value}
    (a32 : PySem.W.nsIn K mainGlobals "_law_right" = some (some (.ref f32)))
    {f33 : Addr} {od33 an33 : Option Addr} {sl33 : Array (Option Value)} {oc33 kV33 dc33 pm33 cd33 ct33 : Value}
    (a33 : PySem.W.nsIn K mainGlobals "law" = some (some (.ref f33)))
    (ac0 : PySem.W.nsIn K mainGlobals "Manner" = some (some (.ref C0)))
    (pg0 : PySem.W.plainGet K C0 Str.empty = true)
    (hd0 : PySem.W.hasDictIn K C0 = true)
    (po0 : PySem.W.plainOver K C0 = true)
    (sa0 : PySem.W.findIn K (.ref C0) "__setattr__" = some (some (.builtin "object.__setattr__")))
    (mk0 : PySem.W.makesIn K C0 = true)
    (kc0 : PySem.W.keepIn K (.ref C0) = true)
    (me0___init__ : PySem.W.findIn K (.ref C0) "__init__" = some (some (.ref f6)))
    (me0_digest_of : PySem.W.findIn K (.ref C0) "digest_of" = some (some (.ref f9)))
    (me0_is_less : PySem.W.findIn K (.ref C0) "is_less" = some (some (.ref f8)))
    (me0_is_like : PySem.W.findIn K (.ref C0) "is_like" = some (some (.ref f7)))
    (na0_held_digest : PySem.W.findIn K (.ref C0) "held_digest" = some none)
    (na0_held_less : PySem.W.findIn K (.ref C0) "held_less" = some none)
    (na0_held_like : PySem.W.findIn K (.ref C0) "held_like" = some none)
    (l0 : K.lookup f0 = some ⟨oc0, od0, .func (PySem.W.fnOf "sort_of" "sort_of" (defArgs s_sort_of) (defBody s_sort_of) (defScope s_sort_of) .none kV0 dc0 pm0 an0 cd0 ct0), sl0⟩)
    (c0 : PySem.W.codeIn K cd0 "sort_of" = true)
    (k0 : PySem.W.keepIn K (.ref f0) = true)
    (l1 : K.lookup f1 = some ⟨oc1, od1, .func (PySem.W.fnOf "rank_of" "rank_of" (defArgs s_rank_of) (defBody s_rank_of) (defScope s_rank_of) .none kV1 dc1 pm1 an1 cd1 ct1), sl1⟩)
    (c1 : PySem.W.codeIn K cd1 "rank_of" = true)
    (k1 : PySem.W.keepIn K (.ref f1) = true)
    (l2 : K.lookup f2 = some ⟨oc2, od2, .func (PySem.W.fnOf "plain_like" "plain_like" (defArgs s_plain_like) (defBody s_plain_like) (defScope s_plain_like) .none kV2 dc2 pm2 an2 cd2 ct2), sl2⟩)
    (c2 : PySem.W.codeIn K cd2 "plain_like" = true)
    (k2 : PySem.W.keepIn K (.ref f2) = true)
    (l3 : K.lookup f3 = some ⟨oc3, od3, .func (PySem.W.fnOf "plain_less" "plain_less" (defArgs s_plain_less) (defBody s_plain_less) (defScope s_plain_less) .none kV3 dc3 pm3 an3 cd3 ct3), sl3⟩)
    (c3 : PySem.W.codeIn K cd3 "plain_less" = true)
    (k3 : PySem.W.keepIn K (.ref f3) = true)
    (l4 : K.lookup f4 = some ⟨oc4, od4, .func (PySem.W.fnOf "stirred_on" "stirred_on" (defArgs s_stirred_on) (defBody s_stirred_on) (defScope s_stirred_on) .none kV4 dc4 pm4 an4 cd4 ct4), sl4⟩)
    (c4 : PySem.W.codeIn K cd4 "stirred_on" = true)
    (k4 : PySem.W.keepIn K (.ref f4) = true)
    (l5 : K.lookup f5 = some ⟨oc5, od5, .func (PySem.W.fnOf "plain_digest" "plain_digest" (defArgs s_plain_digest) (defBody s_plain_digest) (defScope s_plain_digest) .none kV5 dc5 pm5 an5 cd5 ct5), sl5⟩)
    (c5 : PySem.W.codeIn K cd5 "plain_digest" = true)
    (k5 : PySem.W.keepIn K (.ref f5) = true)
    (l6 : K.lookup f6 = some ⟨oc6, od6, .func (PySem.W.fnOf "__init__" "Manner.__init__" (defArgs s_Manner____init__) (defBody s_Manner____init__) (defScope s_Manner____init__) .none (.ref D6) dc6 pm6 an6 cd6 ct6), sl6⟩)
    (c6 : PySem.W.codeIn K cd6 "Manner.__init__" = true)
    (k6 : PySem.W.keepIn K (.ref f6) = true)
    (i6 : PySem.W.isFn K (.ref f6) = true)
    (q6_like : PySem.W.nsIn K D6 "like" = some (some .none))
    (q6_less : PySem.W.nsIn K D6 "less" = some (some .none))
    (q6_digest : PySem.W.nsIn K D6 "digest" = some (some .none))
    (l7 : K.lookup f7 = some ⟨oc7, od7, .func (PySem.W.fnOf "is_like" "Manner.is_like" (defArgs s_Manner__is_like) (defBody s_Manner__is_like) (defScope s_Manner__is_like) .none kV7 dc7 pm7 an7 cd7 ct7), sl7⟩)
    (c7 : PySem.W.codeIn K cd7 "Manner.is_like" = true)
    (k7 : PySem.W.keepIn K (.ref f7) = true)
    (i7 : PySem.W.isFn K (.ref f7) = true)
    (l8 : K.lookup f8 = some ⟨oc8, od8, .func (PySem.W.fnOf "is_less" "Manner.is_less" (defArgs s_Manner__is_less) (defBody s_Manner__is_less) (defScope s_Manner__is_less) .none kV8 dc8 pm8 an8 cd8 ct8), sl8⟩)
    (c8 : PySem.W.codeIn K cd8 "Manner.is_less" = true)
    (k8 : PySem.W.keepIn K (.ref f8) = true)
    (i8 : PySem.W.isFn K (.ref f8) = true)
    (l9 : K.lookup f9 = some ⟨oc9, od9, .func (PySem.W.fnOf "digest_of" "Manner.digest_of" (defArgs s_Manner__digest_of) (defBody s_Manner__digest_of) (defScope s_Manner__digest_of) .none kV9 dc9 pm9 an9 cd9 ct9), sl9⟩)
    (c9 : PySem.W.codeIn K cd9 "Manner.digest_of" = true)
    (k9 : PySem.W.keepIn K (.ref f9) = true)
    (i9 : PySem.W.isFn K (.ref f9) = true)
    (l10 : K.lookup f10 = some ⟨oc10, od10, .func (PySem.W.fnOf "widened" "widened" (defArgs s_widened) (defBody s_widened) (defScope s_widened) .none kV10 dc10 pm10 an10 cd10 ct10), sl10⟩)
    (c10 : PySem.W.codeIn K cd10 "widened" = true)
    (k10 : PySem.W.keepIn K (.ref f10) = true)
    (l11 : K.lookup f11 = some ⟨oc11, od11, .func (PySem.W.fnOf "folded" "folded" (defArgs s_folded) (defBody s_folded) (defScope s_folded) .none kV11 dc11 pm11 an11 cd11 ct11), sl11⟩)
    (c11 : PySem.W.codeIn K cd11 "folded" = true)
    (k11 : PySem.W.keepIn K (.ref f11) = true)
    (l12 : K.lookup f12 = some ⟨oc12, od12, .func (PySem.W.fnOf "wide_like" "wide_like" (defArgs s_wide_like) (defBody s_wide_like) (defScope s_wide_like) .none kV12 dc12 pm12 an12 cd12 ct12), sl12⟩)
    (c12 : PySem.W.codeIn K cd12 "wide_like" = true)
    (k12 : PySem.W.keepIn K (.ref f12) = true)
    (l13 : K.lookup f13 = some ⟨oc13, od13, .func (PySem.W.fnOf "wide_less" "wide_less" (defArgs s_wide_less) (defBody s_wide_less) (defScope s_wide_less) .none kV13 dc13 pm13 an13 cd13 ct13), sl13⟩)
    (c13 : PySem.W.codeIn K cd13 "wide_less" = true)
    (k13 : PySem.W.keepIn K (.ref f13) = true)
    (l14 : K.lookup f14 = some ⟨oc14, od14, .func (PySem.W.fnOf "wide_digest" "wide_digest" (defArgs s_wide_digest) (defBody s_wide_digest) (defScope s_wide_digest) .none kV14 dc14 pm14 an14 cd14 ct14), sl14⟩)
    (c14 : PySem.W.codeIn K cd14 "wide_digest" = true)
    (k14 : PySem.W.keepIn K (.ref f14) = true)
    (l15 : K.lookup f15 = some ⟨oc15, od15, .func (PySem.W.fnOf "turned_less" "turned_less" (defArgs s_turned_less) (defBody s_turned_less) (defScope s_turned_less) .none kV15 dc15 pm15 an15 cd15 ct15), sl15⟩)
    (c15 : PySem.W.codeIn K cd15 "turned_less" = true)
    (k15 : PySem.W.keepIn K (.ref f15) = true)
    (l16 : K.lookup f16 = some ⟨oc16, od16, .func (PySem.W.fnOf "folded_like" "folded_like" (defArgs s_folded_like) (defBody s_folded_like) (defScope s_folded_like) .none kV16 dc16 pm16 an16 cd16 ct16), sl16⟩)
    (c16 : PySem.W.codeIn K cd16 "folded_like" = true)
    (k16 : PySem.W.keepIn K (.ref f16) = true)
    (l17 : K.lookup f17 = some ⟨oc17, od17, .func (PySem.W.fnOf "folded_less" "folded_less" (defArgs s_folded_less) (defBody s_folded_less) (defScope s_folded_less) .none kV17 dc17 pm17 an17 cd17 ct17), sl17⟩)
    (c17 : PySem.W.codeIn K cd17 "folded_less" = true)
    (k17 : PySem.W.keepIn K (.ref f17) = true)
    (l18 : K.lookup f18 = some ⟨oc18, od18, .func (PySem.W.fnOf "folded_digest" "folded_digest" (defArgs s_folded_digest) (defBody s_folded_digest) (defScope s_folded_digest) .none kV18 dc18 pm18 an18 cd18 ct18), sl18⟩)
    (c18 : PySem.W.codeIn K cd18 "folded_digest" = true)
    (k18 : PySem.W.keepIn K (.ref f18) = true)
    (l19 : K.lookup f19 = some ⟨oc19, od19, .func (PySem.W.fnOf "manner_of" "manner_of" (defArgs s_manner_of) (defBody s_manner_of) (defScope s_manner_of) .none kV19 dc19 pm19 an19 cd19 ct19), sl19⟩)
    (c19 : PySem.W.codeIn K cd19 "manner_of" = true)
    (k19 : PySem.W.keepIn K (.ref f19) = true)
    (l20 : K.lookup f20 = some ⟨oc20, od20, .func (PySem.W.fnOf "_law_feed" "_law_feed" (defArgs s__law_feed) (defBody s__law_feed) (defScope s__law_feed) .none kV20 dc20 pm20 an20 cd20 ct20), sl20⟩)
    (c20 : PySem.W.codeIn K cd20 "_law_feed" = true)
    (k20 : PySem.W.keepIn K (.ref f20) = true)
    (l21 : K.lookup f21 = some ⟨oc21, od21, .func (PySem.W.fnOf "_law_take" "_law_take" (defArgs s__law_take) (defBody s__law_take) (defScope s__law_take) .none kV21 dc21 pm21 an21 cd21 ct21), sl21⟩)
    (c21 : PySem.W.codeIn K cd21 "_law_take" = true)
    (k21 : PySem.W.keepIn K (.ref f21) = true)
    (l22 : K.lookup f22 = some ⟨oc22, od22, .func (PySem.W.fnOf "_law_thing" "_law_thing" (defArgs s__law_thing) (defBody s__law_thing) (defScope s__law_thing) .none kV22 dc22 pm22 an22 cd22 ct22), sl22⟩)
    (c22 : PySem.W.codeIn K cd22 "_law_thing" = true)
    (k22 : PySem.W.keepIn K (.ref f22) = true)
    (l23 : K.lookup f23 = some ⟨oc23, od23, .func (PySem.W.fnOf "_law_signs" "_law_signs" (defArgs s__law_signs) (defBody s__law_signs) (defScope s__law_signs) .none kV23 dc23 pm23 an23 cd23 ct23), sl23⟩)
    (c23 : PySem.W.codeIn K cd23 "_law_signs" = true)
    (k23 : PySem.W.keepIn K (.ref f23) = true)
    (l24 : K.lookup f24 = some ⟨oc24, od24, .func (PySem.W.fnOf "_law_full" "_law_full" (defArgs s__law_full) (defBody s__law_full) (defScope s__law_full) .none kV24 dc24 pm24 an24 cd24 ct24), sl24⟩)
    (c24 : PySem.W.codeIn K cd24 "_law_full" = true)
    (k24 : PySem.W.keepIn K (.ref f24) = true)
    (l25 : K.lookup f25 = some ⟨oc25, od25, .func (PySem.W.fnOf "_law_fit" "_law_fit" (defArgs s__law_fit) (defBody s__law_fit) (defScope s__law_fit) .none kV25 dc25 pm25 an25 cd25 ct25), sl25⟩)
    (c25 : PySem.W.codeIn K cd25 "_law_fit" = true)
    (k25 : PySem.W.keepIn K (.ref f25) = true)
    (l26 : K.lookup f26 = some ⟨oc26, od26, .func (PySem.W.fnOf "_law_many_within" "_law_many_within" (defArgs s__law_many_within) (defBody s__law_many_within) (defScope s__law_many_within) .none kV26 dc26 pm26 an26 cd26 ct26), sl26⟩)
    (c26 : PySem.W.codeIn K cd26 "_law_many_within" = true)
    (k26 : PySem.W.keepIn K (.ref f26) = true)
    (l27 : K.lookup f27 = some ⟨oc27, od27, .func (PySem.W.fnOf "_law_sort" "_law_sort" (defArgs s__law_sort) (defBody s__law_sort) (defScope s__law_sort) .none kV27 dc27 pm27 an27 cd27 ct27), sl27⟩)
    (c27 : PySem.W.codeIn K cd27 "_law_sort" = true)
    (k27 : PySem.W.keepIn K (.ref f27) = true)
    (l28 : K.lookup f28 = some ⟨oc28, od28, .func (PySem.W.fnOf "_law_order" "_law_order" (defArgs s__law_order) (defBody s__law_order) (defScope s__law_order) .none kV28 dc28 pm28 an28 cd28 ct28), sl28⟩)
    (c28 : PySem.W.codeIn K cd28 "_law_order" = true)
    (k28 : PySem.W.keepIn K (.ref f28) = true)
    (l29 : K.lookup f29 = some ⟨oc29, od29, .func (PySem.W.fnOf "_law_near" "_law_near" (defArgs s__law_near) (defBody s__law_near) (defScope s__law_near) .none kV29 dc29 pm29 an29 cd29 ct29), sl29⟩)
    (c29 : PySem.W.codeIn K cd29 "_law_near" = true)
    (k29 : PySem.W.keepIn K (.ref f29) = true)
    (l30 : K.lookup f30 = some ⟨oc30, od30, .func (PySem.W.fnOf "_law_taken_for" "_law_taken_for" (defArgs s__law_taken_for) (defBody s__law_taken_for) (defScope s__law_taken_for) .none kV30 dc30 pm30 an30 cd30 ct30), sl30⟩)
    (c30 : PySem.W.codeIn K cd30 "_law_taken_for" = true)
    (k30 : PySem.W.keepIn K (.ref f30) = true)
    (l31 : K.lookup f31 = some ⟨oc31, od31, .func (PySem.W.fnOf "_law_great" "_law_great" (defArgs s__law_great) (defBody s__law_great) (defScope s__law_great) .none kV31 dc31 pm31 an31 cd31 ct31), sl31⟩)
    (c31 : PySem.W.codeIn K cd31 "_law_great" = true)
    (k31 : PySem.W.keepIn K (.ref f31) = true)
    (l32 : K.lookup f32 = some ⟨oc32, od32, .func (PySem.W.fnOf "_law_right" "_law_right" (defArgs s__law_right) (defBody s__law_right) (defScope s__law_right) .none kV32 dc32 pm32 an32 cd32 ct32), sl32⟩)
    (c32 : PySem.W.codeIn K cd32 "_law_right" = true)
    (k32 : PySem.W.keepIn K (.ref f32) = true)
    (l33 : K.lookup f33 = some ⟨oc33, od33, .func (PySem.W.fnOf "law" "law" (defArgs s_law) (defBody s_law) (defScope s_law) .none kV33 dc33 pm33 an33 cd33 ct33), sl33⟩)
    (c33 : PySem.W.codeIn K cd33 "law" = true)
    (k33 : PySem.W.keepIn K (.ref f33) = true)
    (z_abs : PySem.W.nsIn K mainGlobals "abs" = some none)
    (z_bool : PySem.W.nsIn K mainGlobals "bool" = some none)
    (z_enumerate : PySem.W.nsIn K mainGlobals "enumerate" = some none)
    (z_int : PySem.W.nsIn K mainGlobals "int" = some none)
    (z_isinstance : PySem.W.nsIn K mainGlobals "isinstance" = some none)
    (z_len : PySem.W.nsIn K mainGlobals "len" = some none)
    (z_range : PySem.W.nsIn K mainGlobals "range" = some none)
    (z_repr : PySem.W.nsIn K mainGlobals "repr" = some none)
    (z_str : PySem.W.nsIn K mainGlobals "str" = some none)
    (z_sum : PySem.W.nsIn K mainGlobals "sum" = some none)
    (z_tuple : PySem.W.nsIn K mainGlobals "tuple" = some none)
    (z_zip : PySem.W.nsIn K mainGlobals "zip" = some none)
    {t_MOST_DIGEST : Tok}
    (y_MOST_DIGEST : PySem.W.nsIn K mainGlobals "MOST_DIGEST" = some (some (.int (2147483648) t_MOST_DIGEST)))
    {t_SIGNS : Tok}
    (y_SIGNS : PySem.W.nsIn K mainGlobals "SIGNS" = some (some (.str " !\"#$&'()*+,-./0123456789:;<=>?@ABCDEFGHIJKLMNOPQRSTUVWXYZ[\\]^_`abcdefghijklmnopqrstuvwxyz{|}~" t_SIGNS)))
    : ∃ (fi : Nat → FI) (ci : Nat → Addr), mg "law" = some (.ref (fi 33).a) ∧ ∀ (P : Program) (w : World) (base : Heap), Txt ⟨P, w, K, mg, base, faF fi, caF ci⟩ fi ci := by
  have F0 := fun_mk (st := s_sort_of) l0 c0 k0
  have b0 := F0.binds (ps := ["thing"]) fun _ _ _ _ _ _ us hl => match us, hl with | [_], _ => rfl
  have F1 := fun_mk (st := s_rank_of) l1 c1 k1
  have b1 := F1.binds (ps := ["thing"]) fun _ _ _ _ _ _ us hl => match us, hl with | [_], _ => rfl
  have F2 := fun_mk (st := s_plain_like) l2 c2 k2
  have b2 := F2.binds (ps := ["one", "other"]) fun _ _ _ _ _ _ us hl => match us, hl with | [_, _], _ => rfl
  have F3 := fun_mk (st := s_plain_less) l3 c3 k3
  have b3 := F3.binds (ps := ["one", "other"]) fun _ _ _ _ _ _ us hl => match us, hl with | [_, _], _ => rfl
  have F4 := fun_mk (st := s_stirred_on) l4 c4 k4
  have b4 := F4.binds (ps := ["found", "number"]) fun _ _ _ _ _ _ us hl => match us, hl with | [_, _], _ => rfl
  have F5 := fun_mk (st := s_plain_digest) l5 c5 k5
  have b5 := F5.binds (ps := ["thing"]) fun _ _ _ _ _ _ us hl => match us, hl with | [_], _ => rfl
  have F6 := fun_mk (st := s_Manner____init__) l6 c6 k6
  have F7 := fun_mk (st := s_Manner__is_like) l7 c7 k7
  have b7 := F7.binds (ps := ["self", "one", "other"]) fun _ _ _ _ _ _ us hl => match us, hl with | [_, _, _], _ => rfl
  have F8 := fun_mk (st := s_Manner__is_less) l8 c8 k8
  have b8 := F8.binds (ps := ["self", "one", "other"]) fun _ _ _ _ _ _ us hl => match us, hl with | [_, _, _], _ => rfl
  have F9 := fun_mk (st := s_Manner__digest_of) l9 c9 k9
  have b9 := F9.binds (ps := ["self", "thing"]) fun _ _ _ _ _ _ us hl => match us, hl with | [_, _], _ => rfl
  have F10 := fun_mk (st := s_widened) l10 c10 k10
  have b10 := F10.binds (ps := ["thing"]) fun _ _ _ _ _ _ us hl => match us, hl with | [_], _ => rfl
  have F11 := fun_mk (st := s_folded) l11 c11 k11
  have b11 := F11.binds (ps := ["thing"]) fun _ _ _ _ _ _ us hl => match us, hl with | [_], _ => rfl
  have F12 := fun_mk (st := s_wide_like) l12 c12 k12
  have b12 := F12.binds (ps := ["one", "other"]) fun _ _ _ _ _ _ us hl => match us, hl with | [_, _], _ => rfl
  have F13 := fun_mk (st := s_wide_less) l13 c13 k13
  have b13 := F13.binds (ps := ["one", "other"]) fun _ _ _ _ _ _ us hl => match us, hl with | [_, _], _ => rfl
  have F14 := fun_mk (st := s_wide_digest) l14 c14 k14
  have b14 := F14.binds (ps := ["thing"]) fun _ _ _ _ _ _ us hl => match us, hl with | [_], _ => rfl
  have F15 := fun_mk (st := s_turned_less) l15 c15 k15
  have b15 := F15.binds (ps := ["one", "other"]) fun _ _ _ _ _ _ us hl => match us, hl with | [_, _], _ => rfl
  have F16 := fun_mk (st := s_folded_like) l16 c16 k16
  have b16 := F16.binds (ps := ["one", "other"]) fun _ _ _ _ _ _ us hl => match us, hl with | [_, _], _ => rfl
  have F17 := fun_mk (st := s_folded_less) l17 c17 k17
  have b17 := F17.binds (ps := ["one", "other"]) fun _ _ _ _ _ _ us hl => match us, hl with | [_, _], _ => rfl
  have F18 := fun_mk (st := s_folded_digest) l18 c18 k18
  have b18 := F18.binds (ps := ["thing"]) fun _ _ _ _ _ _ us hl => match us, hl with | [_], _ => rfl
  have F19 := fun_mk (st := s_manner_of) l19 c19 k19
  have b19 := F19.binds (ps := ["word"]) fun _ _ _ _ _ _ us hl => match us, hl with | [_], _ => rfl
  have F20 := fun_mk (st := s__law_feed) l20 c20 k20
  have b20 := F20.binds (ps := ["_law_script", "_law_k"]) fun _ _ _ _ _ _ us hl => match us, hl with | [_, _], _ => rfl
  have F21 := fun_mk (st := s__law_take) l21 c21 k21
  have b21 := F21.binds (ps := ["_law_feed_here", "_law_many"]) fun _ _ _ _ _ _ us hl => match us, hl with | [_, _], _ => rfl
  have F22 := fun_mk (st := s__law_thing) l22 c22 k22
  have b22 := F22.binds (ps := ["_law_feed_here", "_law_deep"]) fun _ _ _ _ _ _ us hl => match us, hl with | [_, _], _ => rfl
  have F23 := fun_mk (st := s__law_signs) l23 c23 k23
  have b23 := F23.binds (ps := ["_law_feed_here", "_law_most"]) fun _ _ _ _ _ _ us hl => match us, hl with | [_, _], _ => rfl
  have F24 := fun_mk (st := s__law_full) l24 c24 k24
  have b24 := F24.binds (ps := ["_law_feed_here", "_law_deep"]) fun _ _ _ _ _ _ us hl => match us, hl with | [_, _], _ => rfl
  have F25 := fun_mk (st := s__law_fit) l25 c25 k25
  have b25 := F25.binds (ps := ["_law_found"]) fun _ _ _ _ _ _ us hl => match us, hl with | [_], _ => rfl
  have F26 := fun_mk (st := s__law_many_within) l26 c26 k26
  have b26 := F26.binds (ps := ["_law_given"]) fun _ _ _ _ _ _ us hl => match us, hl with | [_], _ => rfl
  have F27 := fun_mk (st := s__law_sort) l27 c27 k27
  have b27 := F27.binds (ps := ["_law_thing_here"]) fun _ _ _ _ _ _ us hl => match us, hl with | [_], _ => rfl
  have F28 := fun_mk (st := s__law_order) l28 c28 k28
  have b28 := F28.binds (ps := ["_law_one", "_law_other"]) fun _ _ _ _ _ _ us hl => match us, hl with | [_, _], _ => rfl
  have F29 := fun_mk (st := s__law_near) l29 c29 k29
  have b29 := F29.binds (ps := ["_law_feed_here", "_law_thing_here"]) fun _ _ _ _ _ _ us hl => match us, hl with | [_, _], _ => rfl
  have F30 := fun_mk (st := s__law_taken_for) l30 c30 k30
  have b30 := F30.binds (ps := ["_law_word", "_law_thing_here"]) fun _ _ _ _ _ _ us hl => match us, hl with | [_, _], _ => rfl
  have F31 := fun_mk (st := s__law_great) l31 c31 k31
  have b31 := F31.binds (ps := ["_law_sign"]) fun _ _ _ _ _ _ us hl => match us, hl with | [_], _ => rfl
  have F32 := fun_mk (st := s__law_right) l32 c32 k32
  have b32 := F32.binds (ps := ["_law_word", "_law_things"]) fun _ _ _ _ _ _ us hl => match us, hl with | [_, _], _ => rfl
  have F33 := fun_mk (st := s_law) l33 c33 k33
  have b33 := F33.binds (ps := ["_law_script"]) fun _ _ _ _ _ _ us hl => match us, hl with | [_], _ => rfl
  let fi : Nat → FI := fun i => match i with
    | 0 => ⟨f0, PySem.W.fnOf "sort_of" "sort_of" (defArgs s_sort_of) (defBody s_sort_of) (defScope s_sort_of) .none kV0 dc0 pm0 an0 cd0 ct0⟩
    | 1 => ⟨f1, PySem.W.fnOf "rank_of" "rank_of" (defArgs s_rank_of) (defBody s_rank_of) (defScope s_rank_of) .none kV1 dc1 pm1 an1 cd1 ct1⟩
    | 2 => ⟨f2, PySem.W.fnOf "plain_like" "plain_like" (defArgs s_plain_like) (defBody s_plain_like) (defScope s_plain_like) .none kV2 dc2 pm2 an2 cd2 ct2⟩
    | 3 => ⟨f3, PySem.W.fnOf "plain_less" "plain_less" (defArgs s_plain_less) (defBody s_plain_less) (defScope s_plain_less) .none kV3 dc3 pm3 an3 cd3 ct3⟩
    | 4 => ⟨f4, PySem.W.fnOf "stirred_on" "stirred_on" (defArgs s_stirred_on) (defBody s_stirred_on) (defScope s_stirred_on) .none kV4 dc4 pm4 an4 cd4 ct4⟩
    | 5 => ⟨f5, PySem.W.fnOf "plain_digest" "plain_digest" (defArgs s_plain_digest) (defBody s_plain_digest) (defScope s_plain_digest) .none kV5 dc5 pm5 an5 cd5 ct5⟩
    | 6 => ⟨f6, PySem.W.fnOf "__init__" "Manner.__init__" (defArgs s_Manner____init__) (defBody s_Manner____init__) (defScope s_Manner____init__) .none (.ref D6) dc6 pm6 an6 cd6 ct6⟩
    | 7 => ⟨f7, PySem.W.fnOf "is_like" "Manner.is_like" (defArgs s_Manner__is_like) (defBody s_Manner__is_like) (defScope s_Manner__is_like) .none kV7 dc7 pm7 an7 cd7 ct7⟩
    | 8 => ⟨f8, PySem.W.fnOf "is_less" "Manner.is_less" (defArgs s_Manner__is_less) (defBody s_Manner__is_less) (defScope s_Manner__is_less) .none kV8 dc8 pm8 an8 cd8 ct8⟩
    | 9 => ⟨f9, PySem.W.fnOf "digest_of" "Manner.digest_of" (defArgs s_Manner__digest_of) (defBody s_Manner__digest_of) (defScope s_Manner__digest_of) .none kV9 dc9 pm9 an9 cd9 ct9⟩
    | 10 => ⟨f10, PySem.W.fnOf "widened" "widened" (defArgs s_widened) (defBody s_widened) (defScope s_widened) .none kV10 dc10 pm10 an10 cd10 ct10⟩
    | 11 => ⟨f11, PySem.W.fnOf "folded" "folded" (defArgs s_folded) (defBody s_folded) (defScope s_folded) .none kV11 dc11 pm11 an11 cd11 ct11⟩
    | 12 => ⟨f12, PySem.W.fnOf "wide_like" "wide_like" (defArgs s_wide_like) (defBody s_wide_like) (defScope s_wide_like) .none kV12 dc12 pm12 an12 cd12 ct12⟩
    | 13 => ⟨f13, PySem.W.fnOf "wide_less" "wide_less" (defArgs s_wide_less) (defBody s_wide_less) (defScope s_wide_less) .none kV13 dc13 pm13 an13 cd13 ct13⟩
    | 14 => ⟨f14, PySem.W.fnOf "wide_digest" "wide_digest" (defArgs s_wide_digest) (defBody s_wide_digest) (defScope s_wide_digest) .none kV14 dc14 pm14 an14 cd14 ct14⟩
    | 15 => ⟨f15, PySem.W.fnOf "turned_less" "turned_less" (defArgs s_turned_less) (defBody s_turned_less) (defScope s_turned_less) .none kV15 dc15 pm15 an15 cd15 ct15⟩
    | 16 => ⟨f16, PySem.W.fnOf "folded_like" "folded_like" (defArgs s_folded_like) (defBody s_folded_like) (defScope s_folded_like) .none kV16 dc16 pm16 an16 cd16 ct16⟩
    | 17 => ⟨f17, PySem.W.fnOf "folded_less" "folded_less" (defArgs s_folded_less) (defBody s_folded_less) (defScope s_folded_less) .none kV17 dc17 pm17 an17 cd17 ct17⟩
    | 18 => ⟨f18, PySem.W.fnOf "folded_digest" "folded_digest" (defArgs s_folded_digest) (defBody s_folded_digest) (defScope s_folded_digest) .none kV18 dc18 pm18 an18 cd18 ct18⟩
    | 19 => ⟨f19, PySem.W.fnOf "manner_of" "manner_of" (defArgs s_manner_of) (defBody s_manner_of) (defScope s_manner_of) .none kV19 dc19 pm19 an19 cd19 ct19⟩
    | 20 => ⟨f20, PySem.W.fnOf "_law_feed" "_law_feed" (defArgs s__law_feed) (defBody s__law_feed) (defScope s__law_feed) .none kV20 dc20 pm20 an20 cd20 ct20⟩
    | 21 => ⟨f21, PySem.W.fnOf "_law_take" "_law_take" (defArgs s__law_take) (defBody s__law_take) (defScope s__law_take) .none kV21 dc21 pm21 an21 cd21 ct21⟩
    | 22 => ⟨f22, PySem.W.fnOf "_law_thing" "_law_thing" (defArgs s__law_thing) (defBody s__law_thing) (defScope s__law_thing) .none kV22 dc22 pm22 an22 cd22 ct22⟩
    | 23 => ⟨f23, PySem.W.fnOf "_law_signs" "_law_signs" (defArgs s__law_signs) (defBody s__law_signs) (defScope s__law_signs) .none kV23 dc23 pm23 an23 cd23 ct23⟩
    | 24 => ⟨f24, PySem.W.fnOf "_law_full" "_law_full" (defArgs s__law_full) (defBody s__law_full) (defScope s__law_full) .none kV24 dc24 pm24 an24 cd24 ct24⟩
    | 25 => ⟨f25, PySem.W.fnOf "_law_fit" "_law_fit" (defArgs s__law_fit) (defBody s__law_fit) (defScope s__law_fit) .none kV25 dc25 pm25 an25 cd25 ct25⟩
    | 26 => ⟨f26, PySem.W.fnOf "_law_many_within" "_law_many_within" (defArgs s__law_many_within) (defBody s__law_many_within) (defScope s__law_many_within) .none kV26 dc26 pm26 an26 cd26 ct26⟩
    | 27 => ⟨f27, PySem.W.fnOf "_law_sort" "_law_sort" (defArgs s__law_sort) (defBody s__law_sort) (defScope s__law_sort) .none kV27 dc27 pm27 an27 cd27 ct27⟩
    | 28 => ⟨f28, PySem.W.fnOf "_law_order" "_law_order" (defArgs s__law_order) (defBody s__law_order) (defScope s__law_order) .none kV28 dc28 pm28 an28 cd28 ct28⟩
    | 29 => ⟨f29, PySem.W.fnOf "_law_near" "_law_near" (defArgs s__law_near) (defBody s__law_near) (defScope s__law_near) .none kV29 dc29 pm29 an29 cd29 ct29⟩
    | 30 => ⟨f30, PySem.W.fnOf "_law_taken_for" "_law_taken_for" (defArgs s__law_taken_for) (defBody s__law_taken_for) (defScope s__law_taken_for) .none kV30 dc30 pm30 an30 cd30 ct30⟩
    | 31 => ⟨f31, PySem.W.fnOf "_law_great" "_law_great" (defArgs s__law_great) (defBody s__law_great) (defScope s__law_great) .none kV31 dc31 pm31 an31 cd31 ct31⟩
    | 32 => ⟨f32, PySem.W.fnOf "_law_right" "_law_right" (defArgs s__law_right) (defBody s__law_right) (defScope s__law_right) .none kV32 dc32 pm32 an32 cd32 ct32⟩
    | 33 => ⟨f33, PySem.W.fnOf "law" "law" (defArgs s_law) (defBody s_law) (defScope s_law) .none kV33 dc33 pm33 an33 cd33 ct33⟩
    | _ => ⟨f0, PySem.W.fnOf "sort_of" "sort_of" (defArgs s_sort_of) (defBody s_sort_of) (defScope s_sort_of) .none kV0 dc0 pm0 an0 cd0 ct0⟩
  let ci : Nat → Addr := fun c => match c with
    | 0 => C0
    | _ => 0
  refine ⟨fi, ci, PySem.W.mg_of X G a33, fun P w base => ?_⟩
  have FD_Manner____init___ : FunD K "__init__" "Manner.__init__" (defArgs s_Manner____init__) (defBody s_Manner____init__) (defScope s_Manner____init__) [] [("like", .non), ("less", .non), ("digest", .non)] f6 (PySem.W.fnOf "__init__" "Manner.__init__" (defArgs s_Manner____init__) (defBody s_Manner____init__) (defScope s_Manner____init__) .none (.ref D6) dc6 pm6 an6 cd6 ct6) := ⟨⟨_, _, _, _, _, _, _, _, _, _, rfl, l6, c6, .inl ⟨rfl, rfl⟩, .inr ⟨_, rfl, fun q hq => by
    simp only [List.mem_cons, List.not_mem_nil, or_false] at hq
    rcases hq with rfl | rfl | rfl
    · exact ⟨_, q6_like, rfl⟩
    · exact ⟨_, q6_less, rfl⟩
    · exact ⟨_, q6_digest, rfl⟩⟩⟩, k6⟩
  have kb_Manner____init___ := kbd_of (g := ⟨P, w, K, mg, base, faF fi, caF ci⟩) (ps := ["self", "like", "less", "digest"]) FD_Manner____init___ 1 [] [("like", .non), ("less", .non), ("digest", .non)] [0, 1, 2, 3] [.non, .non, .non] (by simp) (by simp) (fun α H => RDs.cons rfl (RDs.cons rfl (RDs.cons rfl (RDs.nil))))
    (fun D doc pm an cdv ct us mv ws h1 h2 h3 => match us, mv, ws, h1, h2, h3 with | [_], [_, _, _], [], _, _, _ => ⟨_, _, _, _, _, _, rfl, rfl, ⟨_, _, _, _, _, _, rfl, rfl, ⟨_, _, _, _, _, _, rfl, rfl, rfl⟩⟩⟩)
  have FD_Manner____init___less : FunD K "__init__" "Manner.__init__" (defArgs s_Manner____init__) (defBody s_Manner____init__) (defScope s_Manner____init__) [] [("like", .non), ("less", .non), ("digest", .non)] f6 (PySem.W.fnOf "__init__" "Manner.__init__" (defArgs s_Manner____init__) (defBody s_Manner____init__) (defScope s_Manner____init__) .none (.ref D6) dc6 pm6 an6 cd6 ct6) := ⟨⟨_, _, _, _, _, _, _, _, _, _, rfl, l6, c6, .inl ⟨rfl, rfl⟩, .inr ⟨_, rfl, fun q hq => by
    simp only [List.mem_cons, List.not_mem_nil, or_false] at hq
    rcases hq with rfl | rfl | rfl
    · exact ⟨_, q6_like, rfl⟩
    · exact ⟨_, q6_less, rfl⟩
    · exact ⟨_, q6_digest, rfl⟩⟩⟩, k6⟩
  have kb_Manner____init___less := kbd_of (g := ⟨P, w, K, mg, base, faF fi, caF ci⟩) (ps := ["self", "like", "less", "digest"]) FD_Manner____init___less 1 ["less"] [("like", .non), ("digest", .non)] [0, 1, 3, 2] [.non, .non] (by simp) (by simp) (fun α H => RDs.cons rfl (RDs.cons rfl (RDs.nil)))
    (fun D doc pm an cdv ct us mv ws h1 h2 h3 => match us, mv, ws, h1, h2, h3 with | [_], [_, _], [_], _, _, _ => ⟨_, _, _, _, _, _, rfl, rfl, ⟨_, _, _, _, _, _, rfl, rfl, rfl⟩⟩)
  have FD_Manner____init___like_less_digest : FunD K "__init__" "Manner.__init__" (defArgs s_Manner____init__) (defBody s_Manner____init__) (defScope s_Manner____init__) [] [("like", .non), ("less", .non), ("digest", .non)] f6 (PySem.W.fnOf "__init__" "Manner.__init__" (defArgs s_Manner____init__) (defBody s_Manner____init__) (defScope s_Manner____init__) .none (.ref D6) dc6 pm6 an6 cd6 ct6) := ⟨⟨_, _, _, _, _, _, _, _, _, _, rfl, l6, c6, .inl ⟨rfl, rfl⟩, .inr ⟨_, rfl, fun q hq => by
    simp only [List.mem_cons, List.not_mem_nil, or_false] at hq
    rcases hq with rfl | rfl | rfl
    · exact ⟨_, q6_like, rfl⟩
    · exact ⟨_, q6_less, rfl⟩
    · exact ⟨_, q6_digest, rfl⟩⟩⟩, k6⟩
  have kb_Manner____init___like_less_digest := kbd_of (g := ⟨P, w, K, mg, base, faF fi, caF ci⟩) (ps := ["self", "like", "less", "digest"]) FD_Manner____init___like_less_digest 1 ["like", "less", "digest"] [] [0, 1, 2, 3] [] (by simp) (by simp) (fun α H => RDs.nil)
    (fun D doc pm an cdv ct us mv ws h1 h2 h3 => match us, mv, ws, h1, h2, h3 with | [_], [], [_, _, _], _, _, _ => rfl)
  exact ⟨fun _ => rfl, fun _ => rfl, F0, PySem.W.mg_of X G a0, b0, F1, PySem.W.mg_of X G a1, b1, F2, PySem.W.mg_of X G a2, b2, F3, PySem.W.mg_of X G a3, b3, F4, PySem.W.mg_of X G a4, b4, F5, PySem.W.mg_of X G a5, b5, F6, F7, b7, F8, b8, F9, b9, F10, PySem.W.mg_of X G a10, b10, F11, PySem.W.mg_of X G a11, b11, F12, PySem.W.mg_of X G a12, b12, F13, PySem.W.mg_of X G a13, b13, F14, PySem.W.mg_of X G a14, b14, F15, PySem.W.mg_of X G a15, b15, F16, PySem.W.mg_of X G a16, b16, F17, PySem.W.mg_of X G a17, b17, F18, PySem.W.mg_of X G a18, b18, F19, PySem.W.mg_of X G a19, b19, F20, PySem.W.mg_of X G a20, b20, F21, PySem.W.mg_of X G a21, b21, F22, PySem.W.mg_of X G a22, b22, F23, PySem.W.mg_of X G a23, b23, F24, PySem.W.mg_of X G a24, b24, F25, PySem.W.mg_of X G a25, b25, F26, PySem.W.mg_of X G a26, b26, F27, PySem.W.mg_of X G a27, b27, F28, PySem.W.mg_of X G a28, b28, F29, PySem.W.mg_of X G a29, b29, F30, PySem.W.mg_of X G a30, b30, F31, PySem.W.mg_of X G a31, b31, F32, PySem.W.mg_of X G a32, b32, F33, PySem.W.mg_of X G a33, b33, PySem.W.mg_none_of X G z_abs, PySem.W.mg_none_of X G z_bool, PySem.W.mg_none_of X G z_enumerate, PySem.W.mg_none_of X G z_int, PySem.W.mg_none_of X G z_isinstance, PySem.W.mg_none_of X G z_len, PySem.W.mg_none_of X G z_range, PySem.W.mg_none_of X G z_repr, PySem.W.mg_none_of X G z_str, PySem.W.mg_none_of X G z_sum, PySem.W.mg_none_of X G z_tuple, PySem.W.mg_none_of X G z_zip, ⟨_, PySem.W.mg_of X G y_MOST_DIGEST⟩, ⟨_, PySem.W.mg_of X G y_SIGNS⟩, PySem.W.mg_of X G ac0, ⟨pg0, hd0, po0, sa0⟩, ⟨mk0, me0___init__, i6, kc0⟩, ⟨me0_digest_of, i9, k9⟩, ⟨me0_is_less, i8, k8⟩, ⟨me0_is_like, i7, k7⟩, na0_held_digest, na0_held_less, na0_held_like, kb_Manner____init___, kb_Manner____init___less, kb_Manner____init___like_less_digest⟩
theorem walk {l : PySem.W.OpenLaw} {q : Program} {loose : List Str} {XP : (Str → Option Value) → Heap → Prop} {YP : World → Heap → Prop} {d : DefRec} {K : Params → PySem.W.Frag} (hn : l.most = some 63) (hdf : d.params.defaults = []) (hnm : d.name = "law")
    (yes : ∀ ns : List Int, ns.length ≤ 63 → ∃ st, Phi prog 100 i_law [.kl (ns.map .int)] [] = .ok (.bl true) st) (hY : ∀ (w : World) (h : Heap), YP w h → (K w.params).In h)
    (F : ∀ (w : World) (mg : Str → Option Value) (h : Heap), (K w.params).In h → h.Ns mainGlobals mg → ∃ (fi : Nat → FI) (ci : Nat → Addr), mg "law" = some (.ref (fi 33).a) ∧ ∀ (P : Program) (w' : World) (base : Heap), Txt ⟨P, w', K w.params, mg, base, faF fi, caF ci⟩ fi ci) :
    PySem.W.WalkO q loose XP YP l.row.toRowW d [] (fun f vs => PySem.call f vs) := by
  refine Att.attach_call hn hdf fun w s₀ s₁ mg mb fa o pm cd doc a vs ns G Y ho hd hcd hmg hobj hints hlen hg => ?_
  have kx := hY w _ Y
  obtain ⟨fi, ci, m1, T⟩ := F w mg _ kx G.T.g
  rw [hnm, m1] at hmg
  cases hmg
  exact law_end (g := ⟨l.prog, w, K w.params, mg, s₁.heap, faF fi, caF ci⟩) (k := 2 * 100) kx G.T.g G.T.b G.T.builtins G.T.nolimit hg hobj hints (Nat.le_trans hlen (by decide)) ⟨rfl, by decide, by decide⟩
    (fun b _ _ => (fns (T l.prog w b) 100).f_law) (T l.prog w s₁.heap).b_law (yes ns hlen)
end Mi

open PySem PySem.W PyProof.Rows in
set_option maxRecDepth 100000 in
set_option maxHeartbeats 0 in
theorem PySem.Challenge.cw_oneprotocol_k04_manners_by_words_holds : PySem.Challenge.rw_oneprotocol_k04_manners_by_words.Holds := by
  w_on; o_law; k_head; (case hw => w_witness2)
  k_fill
  refine Mi.walk (l := PySem.Challenge.rw_oneprotocol_k04_manners_by_words) rfl rfl rfl Mi.yes (fun w h Y => PySem.W.kIn_of Y) ?F
  case F =>
    intro w mg h KX G
    refine' Mi.all_mk KX G ?a0 ?a1 ?a2 ?a3 ?a4 ?a5 ?a10 ?a11 ?a12 ?a13 ?a14 ?a15 ?a16 ?a17 ?a18 ?a19 ?a20 ?a21 ?a22 ?a23 ?a24 ?a25 ?a26 ?a27 ?a28 ?a29 ?a30 ?a31 ?a32 ?a33 ?ac0 ?pg0 ?hd0 ?po0 ?sa0 ?mk0 ?kc0 ?me0___init__ ?me0_digest_of ?me0_is_less ?me0_is_like ?na0_held_digest ?na0_held_less ?na0_held_like ?l0 ?c0 ?k0 ?l1 ?c1 ?k1 ?l2 ?c2 ?k2 ?l3 ?c3 ?k3 ?l4 ?c4 ?k4 ?l5 ?c5 ?k5 ?l6 ?c6 ?k6 ?i6 ?q6_like ?q6_less ?q6_digest ?l7 ?c7 ?k7 ?i7 ?l8 ?c8 ?k8 ?i8 ?l9 ?c9 ?k9 ?i9 ?l10 ?c10 ?k10 ?l11 ?c11 ?k11 ?l12 ?c12 ?k12 ?l13 ?c13 ?k13 ?l14 ?c14 ?k14 ?l15 ?c15 ?k15 ?l16 ?c16 ?k16 ?l17 ?c17 ?k17 ?l18 ?c18 ?k18 ?l19 ?c19 ?k19 ?l20 ?c20 ?k20 ?l21 ?c21 ?k21 ?l22 ?c22 ?k22 ?l23 ?c23 ?k23 ?l24 ?c24 ?k24 ?l25 ?c25 ?k25 ?l26 ?c26 ?k26 ?l27 ?c27 ?k27 ?l28 ?c28 ?k28 ?l29 ?c29 ?k29 ?l30 ?c30 ?k30 ?l31 ?c31 ?k31 ?l32 ?c32 ?k32 ?l33 ?c33 ?k33 ?z_abs ?z_bool ?z_enumerate ?z_int ?z_isinstance ?z_len ?z_range ?z_repr ?z_str ?z_sum ?z_tuple ?z_zip ?y_MOST_DIGEST ?y_SIGNS
    (case a0 => k_is)
    (case a1 => k_is)
    (case a2 => k_is)
    (case a3 => k_is)
    (case a4 => k_is)
    (case a5 => k_is)
    (case a10 => k_is)
    (case a11 => k_is)
    (case a12 => k_is)
    (case a13 => k_is)
    (case a14 => k_is)
    (case a15 => k_is)
    (case a16 => k_is)
    (case a17 => k_is)
    (case a18 => k_is)
    (case a19 => k_is)
    (case a20 => k_is)
    (case a21 => k_is)
    (case a22 => k_is)
    (case a23 => k_is)
    (case a24 => k_is)
    (case a25 => k_is)
    (case a26 => k_is)
    (case a27 => k_is)
    (case a28 => k_is)
    (case a29 => k_is)
    (case a30 => k_is)
    (case a31 => k_is)
    (case a32 => k_is)
    (case a33 => k_is)
    (case ac0 => k_is)
    (case pg0 => k_is)
    (case hd0 => k_is)
    (case po0 => k_is)
    (case sa0 => k_is)
    (case mk0 => k_is)
    (case kc0 => k_is)
    (case me0___init__ => k_is)
    (case me0_digest_of => k_is)
    (case me0_is_less => k_is)
    (case me0_is_like => k_is)
    (case na0_held_digest => k_is)
    (case na0_held_less => k_is)
    (case na0_held_like => k_is)
    (case l0 => k_is)
    (case c0 => k_is)
    (case k0 => k_is)
    (case l1 => k_is)
    (case c1 => k_is)
    (case k1 => k_is)
    (case l2 => k_is)
    (case c2 => k_is)
    (case k2 => k_is)
    (case l3 => k_is)
    (case c3 => k_is)
    (case k3 => k_is)
    (case l4 => k_is)
    (case c4 => k_is)
    (case k4 => k_is)
    (case l5 => k_is)
    (case c5 => k_is)
    (case k5 => k_is)
    (case l6 => k_is)
    (case c6 => k_is)
    (case k6 => k_is)
    (case i6 => k_is)
    (case q6_like => k_is)
    (case q6_less => k_is)
    (case q6_digest => k_is)
    (case l7 => k_is)
    (case c7 => k_is)
    (case k7 => k_is)
    (case i7 => k_is)
    (case l8 => k_is)
    (case c8 => k_is)
    (case k8 => k_is)
    (case i8 => k_is)
    (case l9 => k_is)
    (case c9 => k_is)
    (case k9 => k_is)
    (case i9 => k_is)
    (case l10 => k_is)
    (case c10 => k_is)
    (case k10 => k_is)
    (case l11 => k_is)
    (case c11 => k_is)
    (case k11 => k_is)
    (case l12 => k_is)
    (case c12 => k_is)
    (case k12 => k_is)
    (case l13 => k_is)
    (case c13 => k_is)
    (case k13 => k_is)
    (case l14 => k_is)
    (case c14 => k_is)
    (case k14 => k_is)
    (case l15 => k_is)
    (case c15 => k_is)
    (case k15 => k_is)
    (case l16 => k_is)
    (case c16 => k_is)
    (case k16 => k_is)
    (case l17 => k_is)
    (case c17 => k_is)
    (case k17 => k_is)
    (case l18 => k_is)
    (case c18 => k_is)
    (case k18 => k_is)
    (case l19 => k_is)
    (case c19 => k_is)
    (case k19 => k_is)
    (case l20 => k_is)
    (case c20 => k_is)
    (case k20 => k_is)
    (case l21 => k_is)
    (case c21 => k_is)
    (case k21 => k_is)
    (case l22 => k_is)
    (case c22 => k_is)
    (case k22 => k_is)
    (case l23 => k_is)
    (case c23 => k_is)
    (case k23 => k_is)
    (case l24 => k_is)
    (case c24 => k_is)
    (case k24 => k_is)
    (case l25 => k_is)
    (case c25 => k_is)
    (case k25 => k_is)
    (case l26 => k_is)
    (case c26 => k_is)
    (case k26 => k_is)
    (case l27 => k_is)
    (case c27 => k_is)
    (case k27 => k_is)
    (case l28 => k_is)
    (case c28 => k_is)
    (case k28 => k_is)
    (case l29 => k_is)
    (case c29 => k_is)
    (case k29 => k_is)
    (case l30 => k_is)
    (case c30 => k_is)
    (case k30 => k_is)
    (case l31 => k_is)
    (case c31 => k_is)
    (case k31 => k_is)
    (case l32 => k_is)
    (case c32 => k_is)
    (case k32 => k_is)
    (case l33 => k_is)
    (case c33 => k_is)
    (case k33 => k_is)
    (case z_abs => k_is)
    (case z_bool => k_is)
    (case z_enumerate => k_is)
    (case z_int => k_is)
    (case z_isinstance => k_is)
    (case z_len => k_is)
    (case z_range => k_is)
    (case z_repr => k_is)
    (case z_str => k_is)
    (case z_sum => k_is)
    (case z_tuple => k_is)
    (case z_zip => k_is)
    (case y_MOST_DIGEST => k_is)
    (case y_SIGNS => k_is)
