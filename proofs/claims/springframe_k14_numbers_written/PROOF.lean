import PyProof.Rows.All
import Wide.All
import OpenK.AllK
import Wide.FinOn
import HandS.ForMost
import HandS.ForExc
import HandS.Wide
import HandS.Flow
import HandS.IsInst
import HandS.More
import HandS.Conv
import HandS.Finally
import HandS.ExcIs
import HandS.ExcField
import HandS.TryMany
import HandS.Text
import HandS.Iter
import HandS.Zip
import HandS.ListEq
import HandS.DictEq
import HandS.OwnEq
import PyProof.NeKinds
import PyProof.StrOps2
import HandS.TupAny
import PyProof.Rows.SortStr
import HandS.RevTup
import PyProof.ListNew
import HandS.SetFor
import PyProof.Rows.SetFrom
import HandS.Style
import PyProof.Draws
import KE.GoesEnum
import KE.KDictSum
import PyProof.Rows.StrMeet
import HandS.SortKw
import KE.GoesMore
import HandS.Defaults
import HandS.HotCalls
import HandS.Replace
import PyProof.StrLaws
import PyProof.FitsInt
import PySem.Challenge.RW_springframe_k14_numbers_written
set_option Elab.async false
set_option linter.all false
set_option maxRecDepth 100000
set_option maxHeartbeats 2000000
set_option autoImplicit false
/-! R: what a piece of Python does, told without a heap: slots hold data, a statement turns slots into slots. -/
namespace R
open PySem PySem.Spec PyProof.Rows L2
/-- no star -/
def plainE : Expr → Bool
  | .Starred _ _ => false
  | _ => true
theorem star_plain {e : Expr} (h : plainE e = true) (es : List Expr) (env : PySem.Env) : starEach (e :: es) env = (false, eval e env) :: starEach es env := by
  cases e <;> first | rfl | cases h
theorem star_pl {es : List Expr} {env : PySem.Env} {pos : Pos} (h : es.all plainE = true) : (backTo pos (starEach es env)).any (·.1) = false := by
  have key : ∀ es : List Expr, es.all plainE = true → (starEach es env).any (·.1) = false := by
    intro es
    induction es with
    | nil => intro _; rfl
    | cons e r ih =>
      intro h
      rw [List.all_cons, Bool.and_eq_true] at h
      rw [star_plain h.1, List.any_cons, ih h.2]
      rfl
  have := key es h
  unfold backTo
  simpa [List.any_map] using this
/-! ### heaps -/
def Ex (H H' : Hp) : Prop := ∀ a o, H a = some o → H' a = some o
def Pl : HO → Prop
  | .frz _ _ => False
  | _ => True
def Le (H H' : Hp) : Prop := ∀ a u, Pl u → Rd H a u → Rd H' a u
theorem Ex.refl (H : Hp) : Ex H H := fun _ _ h => h
theorem Ex.trans {H H1 H2 : Hp} (a : Ex H H1) (b : Ex H1 H2) : Ex H H2 := fun x o h => b x o (a x o h)
theorem Le.refl (H : Hp) : Le H H := fun _ _ _ h => h
theorem Le.trans {H H1 H2 : Hp} (a : Le H H1) (b : Le H1 H2) : Le H H2 := fun x o p h => b x o p (a x o p h)
theorem Ex.le {H H' : Hp} (e : Ex H H') : Le H H' := fun a u _ h => by
  rcases h with h | ⟨o, h⟩
  · exact .inl (e a _ h)
  · exact .inr ⟨o, e a _ h⟩
theorem Ex.new {H : Hp} {p : Addr} {o : HO} (h : H p = none) : Ex H (upd H p o) := fun a u e => by
  rw [upd_ne (ne_of_none e h)]
  exact e
theorem Ex.free {H H' : Hp} (e : Ex H H') {p : Addr} (h : H' p = none) : H p = none := by
  cases h1 : H p with
  | none => rfl
  | some o =>
    rw [e p o h1] at h
    cases h
theorem Le.lst {K : PySem.W.Frag} {H H' : Hp} {a : Addr} {xs : List V} (e : Le H H') (h : SqL K H a xs) : SqL K H' a xs := by
  rcases h with h | h
  · exact .inl (e a _ trivial h)
  · exact .inr h
theorem Le.tup {K : PySem.W.Frag} {H H' : Hp} {a : Addr} {xs : List V} (e : Le H H') (h : SqT K H a xs) : SqT K H' a xs := by
  rcases h with h | h
  · exact .inl (e a _ trivial h)
  · exact .inr h
/-- the heap without some addresses -/
noncomputable def wo (H : Hp) (U : Addr → Prop) : Hp := fun a => @ite _ (U a) (Classical.propDecidable _) none (H a)
theorem wo_in {H : Hp} {U : Addr → Prop} {a : Addr} (h : U a) : wo H U a = none := by unfold wo; rw [if_pos h]
theorem wo_out {H : Hp} {U : Addr → Prop} {a : Addr} (h : ¬ U a) : wo H U a = H a := by unfold wo; rw [if_neg h]
theorem wo_some {H : Hp} {U : Addr → Prop} {a : Addr} {o : HO} (h : wo H U a = some o) : ¬ U a ∧ H a = some o := by
  by_cases u : U a
  · rw [wo_in u] at h; cases h
  · rw [wo_out u] at h; exact ⟨u, h⟩
theorem wo_le {H : Hp} {U : Addr → Prop} : Le (wo H U) H := Ex.le fun _ _ h => (wo_some h).2
theorem wo_ex {H H' : Hp} {U : Addr → Prop} (e : Ex H H') : Ex (wo H U) (wo H' U) := fun a o h => by
  obtain ⟨u, h⟩ := wo_some h
  rw [wo_out u]
  exact e a o h
theorem wo_mono {H : Hp} {U U' : Addr → Prop} (h : ∀ a, U' a → U a) : Ex (wo H U) (wo H U') := fun a o q => by
  obtain ⟨u, q⟩ := wo_some q
  rw [wo_out fun z => u (h a z)]
  exact q
/-! ### data -/
class Dat (α : Type) where
  rep : PySem.W.Frag → Hp → V → α → Prop
  mono : ∀ {K : PySem.W.Frag} {H H' : Hp} {v : V} {x : α}, Le H H' → rep K H v x → rep K H' v x
class Own (α : Type) where
  own : PySem.W.Frag → Hp → Hp → V → List Addr → α → Prop
  frame : ∀ {K : PySem.W.Frag} {Hf Hf' H H' : Hp} {v : V} {L : List Addr} {x : α}, Le Hf Hf' → (∀ a ∈ L, H' a = H a) → own K Hf H v L x → own K Hf' H' v L x
instance : Dat Int := ⟨fun _ _ v x => v = .int x, fun _ h => h⟩
instance : Dat Bool := ⟨fun _ _ v x => v = .bl x, fun _ h => h⟩
instance : Dat Str := ⟨fun _ _ v x => v = .str x, fun _ h => h⟩
instance : Dat Unit := ⟨fun _ _ v _ => v = .non, fun _ h => h⟩
theorem Paired.imp {α β : Type} {F G : α → β → Prop} {xs : List α} {ys : List β} (h : Paired F xs ys) (f : ∀ a b, F a b → G a b) : Paired G xs ys := L2.Paired.mapP h f
def repL {α : Type} [Dat α] (K : PySem.W.Frag) (H : Hp) (vs : List V) (xs : List α) : Prop := Paired (fun u x => Dat.rep K H u x) vs xs
theorem repL.mono {α : Type} [Dat α] {K : PySem.W.Frag} {H H' : Hp} {vs : List V} {xs : List α} (e : Le H H') (h : repL K H vs xs) : repL K H' vs xs := Paired.imp h fun _ _ q => Dat.mono e q
instance {α : Type} [Dat α] : Dat (List α) where
  rep K H v xs := ∃ a vs, v = .ref a ∧ SqL K H a vs ∧ repL K H vs xs
  mono := fun e ⟨a, vs, h, l, r⟩ => ⟨a, vs, h, e.lst l, r.mono e⟩
/-- a dict with texts as keys -/
structure Dc (α : Type) where
  kvs : List (Str × α)
def repD {α : Type} [Dat α] (K : PySem.W.Frag) (H : Hp) (ws : List (Key × V)) (xs : List (Str × α)) : Prop := Paired (fun (q : Key × V) (p : Str × α) => q.1 = .inr p.1 ∧ Dat.rep K H q.2 p.2) ws xs
theorem repD.mono {α : Type} [Dat α] {K : PySem.W.Frag} {H H' : Hp} {vs : List (Key × V)} {xs : List (Str × α)} (e : Le H H') (h : repD K H vs xs) : repD K H' vs xs := Paired.imp h fun _ _ q => ⟨q.1, Dat.mono e q.2⟩
instance {α : Type} [Dat α] : Dat (Dc α) where
  rep K H v d := ∃ a ws, v = .ref a ∧ Rd H a (.dK ws) ∧ repD K H ws d.kvs
  mono := fun e ⟨a, ws, h, l, r⟩ => ⟨a, ws, h, e a _ trivial l, r.mono e⟩
/-! ### slots -/
inductive Sl : Type 1
  | any : Sl
  | dat {α : Type} [i : Dat α] (x : α) : Sl
  | own {α : Type} [i : Own α] (x : α) : Sl
abbrev Env' := List Sl
def SlOk (K : PySem.W.Frag) (Hf H : Hp) (o : Option (Option V)) (L : List Addr) : Sl → Prop
  | .any => True
  | .dat (i := i) x => ∃ v, o = some (some v) ∧ i.rep K Hf v x
  | .own (i := i) x => ∃ v, o = some (some v) ∧ i.own K Hf H v L x
def UU (O : Addr → Prop) (fp : Nat → List Addr) : Addr → Prop := fun a => O a ∨ ∃ i, a ∈ fp i
def nofp : Nat → List Addr := fun _ => []
theorem uu_no {O : Addr → Prop} : UU O nofp = O := by
  funext a
  apply propext
  constructor
  · rintro (h | ⟨i, h⟩)
    · exact h
    · cases h
  · exact .inl
structure SOk (K : PySem.W.Frag) (O : Addr → Prop) (fp : Nat → List Addr) (env : Env') (σ : L2.St) (H : Hp) : Prop where
  len : σ.length = env.length
  bnd : ∀ a, O a → ∃ o, H a = some o
  fpO : ∀ i a, a ∈ fp i → ¬ O a
  sep : ∀ i j a, a ∈ fp i → a ∈ fp j → i = j
  dom : ∀ i a, a ∈ fp i → ∃ o, H a = some o
  sl : ∀ i s, env[i]? = some s → SlOk K (wo H (UU O fp)) H (σ[i]?) (fp i) s
section
variable {K : PySem.W.Frag} {O : Addr → Prop} {fp fp' : Nat → List Addr} {env : Env'} {σ : L2.St} {H H' : Hp}
theorem SOk.bndU (S : SOk K O fp env σ H) : ∀ a, UU O fp a → ∃ o, H a = some o := fun a h => by
  rcases h with h | ⟨i, h⟩
  · exact S.bnd a h
  · exact S.dom i a h
theorem SOk.ex (S : SOk K O fp env σ H) (e : Ex H H') : SOk K O fp env σ H' where
  len := S.len
  bnd := fun a h => let ⟨o, q⟩ := S.bnd a h; ⟨o, e a o q⟩
  fpO := S.fpO
  sep := S.sep
  dom := fun i a h => let ⟨o, q⟩ := S.dom i a h; ⟨o, e a o q⟩
  sl := fun i s h => by
    have q := S.sl i s h
    cases s with
    | any => exact trivial
    | dat x =>
      obtain ⟨v, h1, h2⟩ := q
      exact ⟨v, h1, Dat.mono (wo_ex e).le h2⟩
    | own x =>
      obtain ⟨v, h1, h2⟩ := q
      refine ⟨v, h1, Own.frame (wo_ex e).le (fun a ha => ?_) h2⟩
      obtain ⟨o, q⟩ := S.dom i a ha
      rw [q, e a o q]
theorem SOk.fresh (S : SOk K O fp env σ H) {p : Addr} (h : H p = none) : ¬ UU O fp p := fun u => by
  obtain ⟨o, q⟩ := S.bndU p u
  rw [h] at q
  cases q
end
/-! ### expressions -/
/-- what an expression is worth: x, whatever the heap -/
def Ev {α : Type} [Dat α] (K : PySem.W.Frag) (t : TE) (env : Env') (x : α) : Prop :=
  ∀ O fp σ H, SOk K O fp env σ H → ∀ Q : VK, (∀ v H', Ex H H' → Dat.rep K (wo H' (UU O fp)) v x → Q v H') → t σ H Q
def EvT (K : PySem.W.Frag) (t : TT) (env : Env') (b : Bool) : Prop :=
  ∀ O fp σ H, SOk K O fp env σ H → ∀ Q : Bool → Hp → Prop, (∀ H', Ex H H' → Q b H') → t σ H Q
def ARep (K : PySem.W.Frag) (Hf : Hp) : List V → List Sl → Prop
  | [], [] => True
  | v :: vs, .dat (i := i) x :: xs => i.rep K Hf v x ∧ ARep K Hf vs xs
  | _, _ => False
theorem ARep.mono {K : PySem.W.Frag} {H H' : Hp} (e : Le H H') : ∀ {vs : List V} {xs : List Sl}, ARep K H vs xs → ARep K H' vs xs
  | [], [], _ => trivial
  | _ :: _, .dat (i := i) x :: _, h => ⟨i.mono e h.1, ARep.mono e h.2⟩
  | [], _ :: _, h => by simp [ARep] at h
  | _ :: _, [], h => by simp [ARep] at h
  | _ :: _, .any :: _, h => by simp [ARep] at h
  | _ :: _, .own (i := _) _ :: _, h => by simp [ARep] at h
/-! ### tuples -/
def repT (K : PySem.W.Frag) (H : Hp) (v : V) (cs : List Sl) : Prop := ∃ a vs, v = .ref a ∧ SqT K H a vs ∧ ARep K H vs cs
theorem repT.mono {K : PySem.W.Frag} {H H' : Hp} {v : V} {cs : List Sl} (e : Le H H') (h : repT K H v cs) : repT K H' v cs := let ⟨a, vs, h0, t, r⟩ := h; ⟨a, vs, h0, e.tup t, r.mono e⟩
instance {α β : Type} [Dat α] [Dat β] : Dat (α × β) := ⟨fun K H v p => repT K H v [.dat p.1, .dat p.2], fun e h => h.mono e⟩
/-- what is a tuple, with these parts -/
class Tup (τ : Type) [Dat τ] where
  comps : τ → List Sl
  is : ∀ (K : PySem.W.Frag) (H : Hp) (v : V) (x : τ), Dat.rep K H v x = repT K H v (comps x)
instance {α β : Type} [Dat α] [Dat β] : Tup (α × β) := ⟨fun p => [.dat p.1, .dat p.2], fun _ _ _ _ => rfl⟩
structure T3 (α β γ : Type) where
  a : α
  b : β
  c : γ
instance {α β γ : Type} [Dat α] [Dat β] [Dat γ] : Dat (T3 α β γ) := ⟨fun K H v p => repT K H v [.dat p.a, .dat p.b, .dat p.c], fun e h => h.mono e⟩
instance {α β γ : Type} [Dat α] [Dat β] [Dat γ] : Tup (T3 α β γ) := ⟨fun p => [.dat p.a, .dat p.b, .dat p.c], fun _ _ _ _ => rfl⟩
structure T4 (α β γ δ : Type) where
  a : α
  b : β
  c : γ
  d : δ
instance {α β γ δ : Type} [Dat α] [Dat β] [Dat γ] [Dat δ] : Dat (T4 α β γ δ) := ⟨fun K H v p => repT K H v [.dat p.a, .dat p.b, .dat p.c, .dat p.d], fun e h => h.mono e⟩
instance {α β γ δ : Type} [Dat α] [Dat β] [Dat γ] [Dat δ] : Tup (T4 α β γ δ) := ⟨fun p => [.dat p.a, .dat p.b, .dat p.c, .dat p.d], fun _ _ _ _ => rfl⟩
structure T5 (α β γ δ ε : Type) where
  a : α
  b : β
  c : γ
  d : δ
  e : ε
instance {α β γ δ ε : Type} [Dat α] [Dat β] [Dat γ] [Dat δ] [Dat ε] : Dat (T5 α β γ δ ε) := ⟨fun K H v p => repT K H v [.dat p.a, .dat p.b, .dat p.c, .dat p.d, .dat p.e], fun e h => h.mono e⟩
instance {α β γ δ ε : Type} [Dat α] [Dat β] [Dat γ] [Dat δ] [Dat ε] : Tup (T5 α β γ δ ε) := ⟨fun p => [.dat p.a, .dat p.b, .dat p.c, .dat p.d, .dat p.e], fun _ _ _ _ => rfl⟩
theorem ARep.length {K : PySem.W.Frag} {H : Hp} : ∀ {vs : List V} {xs : List Sl}, ARep K H vs xs → vs.length = xs.length
  | [], [], _ => rfl
  | _ :: _, .dat (i := i) x :: _, h => congrArg (· + 1) (ARep.length h.2)
  | [], _ :: _, h => by simp [ARep] at h
  | _ :: _, [], h => by simp [ARep] at h
  | _ :: _, .any :: _, h => by simp [ARep] at h
  | _ :: _, .own (i := _) _ :: _, h => by simp [ARep] at h
theorem ARep.get {α : Type} [Dat α] {K : PySem.W.Frag} {H : Hp} {x : α} : ∀ {vs : List V} {xs : List Sl} {i : Nat}, ARep K H vs xs → xs[i]? = some (.dat x) → ∃ v, vs[i]? = some v ∧ Dat.rep K H v x
  | [], [], i, _, q => by simp at q
  | v :: _, .dat (i := j) y :: _, 0, h, q => by
    have q : Sl.dat (i := j) y = Sl.dat x := by simpa using q
    cases q
    exact ⟨v, rfl, h.1⟩
  | _ :: vs, .dat (i := j) y :: xs, i + 1, h, q => by
    have := ARep.get (vs := vs) (xs := xs) (i := i) h.2 (by simpa using q)
    simpa using this
  | [], _ :: _, _, h, _ => by simp [ARep] at h
  | _ :: _, [], _, h, _ => by simp [ARep] at h
  | _ :: _, .any :: _, _, h, _ => by simp [ARep] at h
  | _ :: _, .own (i := _) _ :: _, _, h, _ => by simp [ARep] at h
def EvA (K : PySem.W.Frag) (t : TA) (env : Env') (xs : List Sl) : Prop :=
  ∀ O fp σ H, SOk K O fp env σ H → ∀ Q : List V → Hp → Prop, (∀ vs H', Ex H H' → ARep K (wo H' (UU O fp)) vs xs → Q vs H') → t σ H Q
/-- an operation on values -/
def RV {α β γ : Type} [Dat α] [Dat β] [Dat γ] (K : PySem.W.Frag) (r : R2) (x : α) (y : β) (z : γ) : Prop :=
  ∀ (U : Addr → Prop) (v1 v2 : V) (H : Hp), (∀ a, U a → ∃ o, H a = some o) → Dat.rep K (wo H U) v1 x → Dat.rep K (wo H U) v2 y → ∀ Q : VK, (∀ v H', Ex H H' → Dat.rep K (wo H' U) v z → Q v H') → r v1 v2 H Q
/-- a call on values -/
def RC {γ : Type} [Dat γ] (K : PySem.W.Frag) (r : List V → Hp → VK → Prop) (xs : List Sl) (z : γ) : Prop :=
  ∀ (U : Addr → Prop) (vs : List V) (H : Hp), (∀ a, U a → ∃ o, H a = some o) → ARep K (wo H U) vs xs → ∀ Q : VK, (∀ v H', Ex H H' → Dat.rep K (wo H' U) v z → Q v H') → r vs H Q
/-- the greatest reading -/
@[irreducible] def tE (X : Cx) (e : Expr) : TE := fun σ H Q => ∀ pins s, Inv X pins σ H s → wpAny (model X.prog X.w) X.A (eval e X.env) (EP X pins σ Q) X.xe s
@[irreducible] def tT (X : Cx) (e : Expr) : TT := fun σ H Q => ∀ pins s, Inv X pins σ H s → wpAny (model X.prog X.w) X.A (isTrue e X.env (eval e X.env)) (TP X pins σ Q) X.xe s
@[irreducible] def tW (X : Cx) (e : Expr) : TT := fun σ H Q => ∀ (whole : Sem Value) pins s, Inv X pins σ H s → wpAny (model X.prog X.w) X.A (isTrue e X.env whole) (TP X pins σ Q) X.xe s
@[irreducible] def tA (X : Cx) (es : List Expr) : TA := fun σ H Q => ∀ (pos : Pos) pins s, Inv X pins σ H s → wpAny (model X.prog X.w) X.A (spliced (backTo pos (starEach es X.env))) (AP X pins σ Q) X.xe s
@[irreducible] def tS (X : Cx) (st : Stmt) : TS := fun D σ H => ∀ pins s, Inv X pins σ H s → wpAny (model X.prog X.w) X.A (exec st X.env) (SP X pins D) X.xe s
@[irreducible] def tSs (X : Cx) (sts : List Stmt) : TS := fun D σ H => ∀ pins s, Inv X pins σ H s → wpAny (model X.prog X.w) X.A (execs sts X.env) (SP X pins D) X.xe s
@[irreducible] def tG (X : Cx) (tg : Expr) : TG := fun v σ H Q => ∀ pins s u, Inv X pins σ H s → RelV v u → wpAny (model X.prog X.w) X.A (assign tg X.env u) (fun _ s' => ∃ σ' H', Inv X pins σ' H' s' ∧ Q σ' H') X.xe s
theorem tE_of {X : Cx} {e : Expr} {σ : L2.St} {H : Hp} {Q : VK} (h : ∀ pins s, Inv X pins σ H s → wpAny (model X.prog X.w) X.A (eval e X.env) (EP X pins σ Q) X.xe s) : tE X e σ H Q := by unfold tE; exact h
theorem tE_run {X : Cx} {e : Expr} {σ : L2.St} {H : Hp} {Q : VK} (h : tE X e σ H Q) : ∀ pins s, Inv X pins σ H s → wpAny (model X.prog X.w) X.A (eval e X.env) (EP X pins σ Q) X.xe s := by unfold tE at h; exact h
theorem tT_of {X : Cx} {e : Expr} {σ : L2.St} {H : Hp} {Q : Bool → Hp → Prop} (h : ∀ pins s, Inv X pins σ H s → wpAny (model X.prog X.w) X.A (isTrue e X.env (eval e X.env)) (TP X pins σ Q) X.xe s) : tT X e σ H Q := by unfold tT; exact h
theorem tT_run {X : Cx} {e : Expr} {σ : L2.St} {H : Hp} {Q : Bool → Hp → Prop} (h : tT X e σ H Q) : ∀ pins s, Inv X pins σ H s → wpAny (model X.prog X.w) X.A (isTrue e X.env (eval e X.env)) (TP X pins σ Q) X.xe s := by unfold tT at h; exact h
theorem tW_of {X : Cx} {e : Expr} {σ : L2.St} {H : Hp} {Q : Bool → Hp → Prop} (h : ∀ (whole : Sem Value) pins s, Inv X pins σ H s → wpAny (model X.prog X.w) X.A (isTrue e X.env whole) (TP X pins σ Q) X.xe s) : tW X e σ H Q := by unfold tW; exact h
theorem tW_run {X : Cx} {e : Expr} {σ : L2.St} {H : Hp} {Q : Bool → Hp → Prop} (h : tW X e σ H Q) : ∀ (whole : Sem Value) pins s, Inv X pins σ H s → wpAny (model X.prog X.w) X.A (isTrue e X.env whole) (TP X pins σ Q) X.xe s := by unfold tW at h; exact h
theorem tA_of {X : Cx} {es : List Expr} {σ : L2.St} {H : Hp} {Q : List V → Hp → Prop} (h : ∀ (pos : Pos) pins s, Inv X pins σ H s → wpAny (model X.prog X.w) X.A (spliced (backTo pos (starEach es X.env))) (AP X pins σ Q) X.xe s) : tA X es σ H Q := by unfold tA; exact h
theorem tA_run {X : Cx} {es : List Expr} {σ : L2.St} {H : Hp} {Q : List V → Hp → Prop} (h : tA X es σ H Q) : ∀ (pos : Pos) pins s, Inv X pins σ H s → wpAny (model X.prog X.w) X.A (spliced (backTo pos (starEach es X.env))) (AP X pins σ Q) X.xe s := by unfold tA at h; exact h
theorem tS_of {X : Cx} {st : Stmt} {D : Ends} {σ : L2.St} {H : Hp} (h : ∀ pins s, Inv X pins σ H s → wpAny (model X.prog X.w) X.A (exec st X.env) (SP X pins D) X.xe s) : tS X st D σ H := by unfold tS; exact h
theorem tS_run {X : Cx} {st : Stmt} {D : Ends} {σ : L2.St} {H : Hp} (h : tS X st D σ H) : ∀ pins s, Inv X pins σ H s → wpAny (model X.prog X.w) X.A (exec st X.env) (SP X pins D) X.xe s := by unfold tS at h; exact h
theorem tSs_of {X : Cx} {sts : List Stmt} {D : Ends} {σ : L2.St} {H : Hp} (h : ∀ pins s, Inv X pins σ H s → wpAny (model X.prog X.w) X.A (execs sts X.env) (SP X pins D) X.xe s) : tSs X sts D σ H := by unfold tSs; exact h
theorem tSs_run {X : Cx} {sts : List Stmt} {D : Ends} {σ : L2.St} {H : Hp} (h : tSs X sts D σ H) : ∀ pins s, Inv X pins σ H s → wpAny (model X.prog X.w) X.A (execs sts X.env) (SP X pins D) X.xe s := by unfold tSs at h; exact h
theorem tG_of {X : Cx} {tg : Expr} {v : V} {σ : L2.St} {H : Hp} {Q : L2.St → Hp → Prop} (h : ∀ pins s u, Inv X pins σ H s → RelV v u → wpAny (model X.prog X.w) X.A (assign tg X.env u) (fun _ s' => ∃ σ' H', Inv X pins σ' H' s' ∧ Q σ' H') X.xe s) : tG X tg v σ H Q := by unfold tG; exact h
theorem tG_run {X : Cx} {tg : Expr} {v : V} {σ : L2.St} {H : Hp} {Q : L2.St → Hp → Prop} (h : tG X tg v σ H Q) : ∀ pins s u, Inv X pins σ H s → RelV v u → wpAny (model X.prog X.w) X.A (assign tg X.env u) (fun _ s' => ∃ σ' H', Inv X pins σ' H' s' ∧ Q σ' H') X.xe s := by unfold tG at h; exact h
theorem mE (X : Cx) (e : Expr) : PE X e (tE X e) := ⟨fun pins s _ _ _ I h => tE_run h pins s I⟩
theorem mT (X : Cx) (e : Expr) : PT X e (tT X e) := ⟨fun pins s _ _ _ I h => tT_run h pins s I⟩
theorem mW (X : Cx) (e : Expr) : PW X e (tW X e) := ⟨fun w pins s _ _ _ I h => tW_run h w pins s I⟩
theorem mA (X : Cx) (es : List Expr) : PA X es (tA X es) := ⟨fun p pins s _ _ _ I h => tA_run h p pins s I⟩
theorem mS (X : Cx) (st : Stmt) : PS X st (tS X st) := ⟨fun pins s _ _ _ I h => tS_run h pins s I⟩
theorem mSs (X : Cx) (st : List Stmt) : PSs X st (tSs X st) := ⟨fun pins s _ _ _ I h => tSs_run h pins s I⟩
def EX {α : Type} [Dat α] (X : Cx) (e : Expr) (env : Env') (x : α) : Prop := Ev X.K (tE X e) env x
def ET (X : Cx) (e : Expr) (env : Env') (b : Bool) : Prop := EvT X.K (tT X e) env b
def EW (X : Cx) (e : Expr) (env : Env') (b : Bool) : Prop := EvT X.K (tW X e) env b
def EA (X : Cx) (es : List Expr) (env : Env') (xs : List Sl) : Prop := EvA X.K (tA X es) env xs
section
variable {X : Cx} {K : PySem.W.Frag} {env : Env'} {α β γ : Type} [Dat α] [Dat β] [Dat γ] {x : α} {y : β} {z : γ} {e a b c : Expr} {es : List Expr} {t ta tb tc : TE} {pos : Pos}
theorem ex_of (p : PE X e t) (h : Ev X.K t env x) : EX X e env x := fun O fp σ H S Q q => tE_of fun pins s I => p.run pins s σ H Q I (h O fp σ H S Q q)
theorem et_of {t : TT} {k : Bool} (p : PT X e t) (h : EvT X.K t env k) : ET X e env k := fun O fp σ H S Q q => tT_of fun pins s I => p.run pins s σ H Q I (h O fp σ H S Q q)
theorem ew_of {t : TT} {k : Bool} (p : PW X e t) (h : EvT X.K t env k) : EW X e env k := fun O fp σ H S Q q => tW_of fun w pins s I => p.run w pins s σ H Q I (h O fp σ H S Q q)
theorem ea_of {t : TA} {xs : List Sl} (p : PA X es t) (h : EvA X.K t env xs) : EA X es env xs := fun O fp σ H S Q q => tA_of fun pos pins s I => p.run pos pins s σ H Q I (h O fp σ H S Q q)
theorem EX.eq {x' : α} (h : EX X e env x) (q : x = x') : EX X e env x' := q ▸ h
theorem ET.eq {k k' : Bool} (h : ET X e env k) (q : k = k') : ET X e env k' := q ▸ h
theorem ev_var {i : Nat} (h : env[i]? = some (Sl.dat x)) : Ev K (tVar i) env x := fun O fp σ H S Q q => by
  obtain ⟨v, h1, h2⟩ := S.sl i _ h
  exact ⟨v, h1, q v H (Ex.refl H) h2⟩
theorem ev_c {v : V} (h : ∀ Hf, Dat.rep K Hf v x) : Ev K (tC v) env x := fun O fp σ H S Q q => q v H (Ex.refl H) (h _)
theorem ev_op {r : R2} (ha : Ev K ta env x) (hb : Ev K tb env y) (hr : RV K r x y z) : Ev K (tOp r ta tb) env z := fun O fp σ H S Q q =>
  ha O fp σ H S _ fun v1 H1 e1 r1 => hb O fp σ H1 (S.ex e1) _ fun v2 H2 e2 r2 => hr (UU O fp) v1 v2 H2 ((S.ex e1).ex e2).bndU (Dat.mono (wo_ex e2).le r1) r2 Q fun v H' e r => q v H' ((e1.trans e2).trans e) r
theorem ex_var {i : Nat} {n : Str} {pos : Pos} (h : env[i]? = some (Sl.dat x)) (hN : X.N[i]? = some n := by rfl) (hv : Vis X.env.scope n := by first | exact Or.inl rfl | exact Or.inr (Or.inl rfl) | exact Or.inr (Or.inr rfl)) (hd : (n == ("__debug__" : Str)) = false := by decide) (hc : (n == ("__classdict__" : Str)) = false := by decide) : EX X (.Name n pos) env x :=
  ex_of (pe_var hN hv hd hc) (ev_var h)
theorem ex_int {i : Int} {j : Nat} {pos : Pos} : EX X (.Constant (.int i) j pos) env i := ex_of pe_int (ev_c fun _ => rfl)
theorem ex_bl {i : Bool} {j : Nat} {pos : Pos} : EX X (.Constant (.bool i) j pos) env i := ex_of pe_bl (ev_c fun _ => rfl)
theorem ex_str {i : Str} {j : Nat} {pos : Pos} : EX X (.Constant (.str i) j pos) env i := ex_of pe_str (ev_c fun _ => rfl)
theorem ex_non {j : Nat} {pos : Pos} : EX X (.Constant .none j pos) env () := ex_of pe_non (ev_c fun _ => rfl)
theorem ex_op {op : Operator} {r : R2} (ho : OpR X (binaryOp op) r) (ha : EX X a env x) (hb : EX X b env y) (hr : RV X.K r x y z) : EX X (.BinOp a op b pos) env z := ex_of (pe_op ho (mE X a) (mE X b)) (ev_op ha hb hr)
/-! whole numbers -/
theorem rv_I0 {g : Int → Int → V} {i j : Int} (h : ∀ Hf, Dat.rep K Hf (g i j) z) : RV K (rI0 g) i j z := fun U v1 v2 H _ r1 r2 Q q => ⟨i, j, r1, r2, q _ H (Ex.refl H) (h _)⟩
theorem rv_I {C : Int → Int → Prop} {g : Int → Int → V} {i j : Int} (hc : C i j) (h : ∀ Hf, Dat.rep K Hf (g i j) z) : RV K (rI C g) i j z := fun U v1 v2 H _ r1 r2 Q q => ⟨i, j, r1, r2, hc, q _ H (Ex.refl H) (h _)⟩
theorem ex_add {i j : Int} (ha : EX X a env i) (hb : EX X b env j) : EX X (.BinOp a .Add b pos) env (i + j) := ex_op op_add ha hb (rv_I0 fun _ => rfl)
theorem ex_sub {i j : Int} (ha : EX X a env i) (hb : EX X b env j) : EX X (.BinOp a .Sub b pos) env (i - j) := ex_op op_sub ha hb (rv_I0 fun _ => rfl)
theorem ex_mul {i j : Int} (ha : EX X a env i) (hb : EX X b env j) (h : CMul i j) : EX X (.BinOp a .Mult b pos) env (i * j) := ex_op op_mul ha hb (rv_I h fun _ => rfl)
theorem ex_mulW {i j : Int} (ha : EX X a env i) (hb : EX X b env j) (h : CMulW i j) : EX X (.BinOp a .Mult b pos) env (i * j) := ex_op op_mulW ha hb (rv_I h fun _ => rfl)
theorem ex_fdiv {i j : Int} (ha : EX X a env i) (hb : EX X b env j) (h : CDiv i j) : EX X (.BinOp a .FloorDiv b pos) env (i / j) := ex_op op_fdiv ha hb (rv_I h fun _ => rfl)
theorem ex_fdivW {i j : Int} (ha : EX X a env i) (hb : EX X b env j) (h : CDivW i j) : EX X (.BinOp a .FloorDiv b pos) env (i / j) := ex_op op_fdivW ha hb (rv_I h fun _ => rfl)
theorem ex_mod {i j : Int} (ha : EX X a env i) (hb : EX X b env j) (h : 0 < j) : EX X (.BinOp a .Mod b pos) env (i % j) := ex_op op_mod ha hb (rv_I h fun _ => rfl)
theorem ex_modN {i j : Int} (ha : EX X a env i) (hb : EX X b env j) (h : j ≠ 0) : EX X (.BinOp a .Mod b pos) env (i.fmod j) := ex_op op_modN ha hb (rv_I h fun _ => rfl)
theorem ex_pow {i j : Int} (ha : EX X a env i) (hb : EX X b env j) (h : CPow i j) : EX X (.BinOp a .Pow b pos) env (i ^ j.toNat) := ex_op op_pow ha hb (rv_I h fun _ => rfl)
theorem ex_neg {i : Int} (ha : EX X a env i) : EX X (.UnaryOp .USub a pos) env (-i) := ex_of (pe_un un_neg (mE X a)) fun O fp σ H S Q q => ha O fp σ H S _ fun v1 H1 e1 r1 => ⟨i, r1, q _ H1 e1 rfl⟩
/-! comparisons -/
theorem ex_cmp {op : CmpOp} {r : R2} (ho : OpR X (compareOp op) r) (ha : EX X a env x) (hb : EX X b env y) (hr : RV X.K r x y z) (hm : behindInMarks op b = false) : EX X (.Compare a [op] [b] pos) env z := ex_of (pe_cmpR ho (mE X a) (mE X b) hm) (ev_op ha hb hr)
theorem et_cmp {op : CmpOp} {r : R2} {k : Bool} (ho : OpR X (compareOp op) r) (ha : EX X a env x) (hb : EX X b env y) (hr : RV X.K r x y k) (hm : behindInMarks op b = false) : ET X (.Compare a [op] [b] pos) env k := et_of (pt_cmpR ho (mE X a) (mE X b) hm) fun O fp σ H S Q q => ev_op ha hb hr O fp σ H S _ fun v H' e r => ⟨k, r, q H' e⟩
theorem ex_lt {i j : Int} (ha : EX X a env i) (hb : EX X b env j) : EX X (.Compare a [.Lt] [b] pos) env (decide (i < j)) := ex_cmp op_lt ha hb (rv_I0 fun _ => rfl) (nomark _)
theorem ex_le {i j : Int} (ha : EX X a env i) (hb : EX X b env j) : EX X (.Compare a [.LtE] [b] pos) env (decide (i ≤ j)) := ex_cmp op_le ha hb (rv_I0 fun _ => rfl) (nomark _)
theorem ex_gt {i j : Int} (ha : EX X a env i) (hb : EX X b env j) : EX X (.Compare a [.Gt] [b] pos) env (decide (j < i)) := ex_cmp op_gt ha hb (rv_I0 fun _ => rfl) (nomark _)
theorem ex_ge {i j : Int} (ha : EX X a env i) (hb : EX X b env j) : EX X (.Compare a [.GtE] [b] pos) env (decide (j ≤ i)) := ex_cmp op_ge ha hb (rv_I0 fun _ => rfl) (nomark _)
theorem et_lt {i j : Int} (ha : EX X a env i) (hb : EX X b env j) : ET X (.Compare a [.Lt] [b] pos) env (decide (i < j)) := et_cmp op_lt ha hb (rv_I0 fun _ => rfl) (nomark _)
theorem et_le {i j : Int} (ha : EX X a env i) (hb : EX X b env j) : ET X (.Compare a [.LtE] [b] pos) env (decide (i ≤ j)) := et_cmp op_le ha hb (rv_I0 fun _ => rfl) (nomark _)
theorem et_gt {i j : Int} (ha : EX X a env i) (hb : EX X b env j) : ET X (.Compare a [.Gt] [b] pos) env (decide (j < i)) := et_cmp op_gt ha hb (rv_I0 fun _ => rfl) (nomark _)
theorem et_ge {i j : Int} (ha : EX X a env i) (hb : EX X b env j) : ET X (.Compare a [.GtE] [b] pos) env (decide (j ≤ i)) := et_cmp op_ge ha hb (rv_I0 fun _ => rfl) (nomark _)
/-- == of what is no object -/
class Flat (α : Type) [Dat α] [DecidableEq α] : Prop where
  sc : ∀ (K : PySem.W.Frag) (Hf Hf' : Hp) (v w : V) (x y : α), Dat.rep K Hf v x → Dat.rep K Hf' w y → scal v w = true ∧ (decide (v = w)) = decide (x = y)
instance : Flat Int := ⟨fun K Hf Hf' v w x y h1 h2 => by
  have h1 : v = .int x := h1
  have h2 : w = .int y := h2
  subst h1 h2
  refine ⟨rfl, ?_⟩
  by_cases h : x = y
  · subst h; simp
  · rw [decide_eq_false h, decide_eq_false]; intro z; exact h (V.int.inj z)⟩
instance : Flat Bool := ⟨fun K Hf Hf' v w x y h1 h2 => by
  have h1 : v = .bl x := h1
  have h2 : w = .bl y := h2
  subst h1 h2
  refine ⟨rfl, ?_⟩
  by_cases h : x = y
  · subst h; simp
  · rw [decide_eq_false h, decide_eq_false]; intro z; exact h (V.bl.inj z)⟩
instance : Flat Str := ⟨fun K Hf Hf' v w x y h1 h2 => by
  have h1 : v = .str x := h1
  have h2 : w = .str y := h2
  subst h1 h2
  refine ⟨rfl, ?_⟩
  by_cases h : x = y
  · subst h; simp
  · rw [decide_eq_false h, decide_eq_false]; intro z; exact h (V.str.inj z)⟩
theorem rv_eqF {α : Type} [Dat α] [DecidableEq α] [Flat α] {x y : α} : RV K rEq x y (decide (x = y)) := fun U v1 v2 H _ r1 r2 Q q => by
  obtain ⟨h1, h2⟩ := Flat.sc K _ _ v1 v2 x y r1 r2
  exact ⟨h1, q _ H (Ex.refl H) (show V.bl (decide (v1 = v2)) = V.bl (decide (x = y)) by rw [h2])⟩
theorem rv_neF {α : Type} [Dat α] [DecidableEq α] [Flat α] {x y : α} : RV K rNe x y (!decide (x = y)) := fun U v1 v2 H _ r1 r2 Q q => by
  obtain ⟨h1, h2⟩ := Flat.sc K _ _ v1 v2 x y r1 r2
  exact ⟨h1, q _ H (Ex.refl H) (show V.bl (!decide (v1 = v2)) = V.bl (!decide (x = y)) by rw [h2])⟩
theorem ex_eq {α : Type} [Dat α] [DecidableEq α] [Flat α] {x y : α} (ha : EX X a env x) (hb : EX X b env y) : EX X (.Compare a [.Eq] [b] pos) env (decide (x = y)) := ex_cmp op_eq ha hb rv_eqF (nomark _)
theorem ex_ne {α : Type} [Dat α] [DecidableEq α] [Flat α] {x y : α} (ha : EX X a env x) (hb : EX X b env y) : EX X (.Compare a [.NotEq] [b] pos) env (!decide (x = y)) := ex_cmp op_ne ha hb rv_neF (nomark _)
theorem et_eq {α : Type} [Dat α] [DecidableEq α] [Flat α] {x y : α} (ha : EX X a env x) (hb : EX X b env y) : ET X (.Compare a [.Eq] [b] pos) env (decide (x = y)) := et_cmp op_eq ha hb rv_eqF (nomark _)
theorem et_ne {α : Type} [Dat α] [DecidableEq α] [Flat α] {x y : α} (ha : EX X a env x) (hb : EX X b env y) : ET X (.Compare a [.NotEq] [b] pos) env (!decide (x = y)) := et_cmp op_ne ha hb rv_neF (nomark _)
/-! and, or, not, if-else -/
theorem et_val {k : Bool} (h : EX X e env k) (he : ∀ whole, isTrue e X.env whole = (do let v ← whole; standAt e.pos; holding [v] (truthy v)) := by intro _; rfl) : ET X e env k := et_of (pt_val (mE X e) he) fun O fp σ H S Q q => h O fp σ H S _ fun v H' e r => ⟨k, r, q H' e⟩
theorem ew_and1 {k : Bool} (h : ET X a env k) : EW X (.BoolOp .And [a] pos) env k := ew_of (pw_and1 (mT X a)) h
theorem ew_or1 {k : Bool} (h : ET X a env k) : EW X (.BoolOp .Or [a] pos) env k := ew_of (pw_or1 (mT X a)) h
theorem ew_and {k j : Bool} (h : ET X a env k) (hr : k = true → EW X (.BoolOp .And (b :: es) pos) env j) : EW X (.BoolOp .And (a :: b :: es) pos) env (k && j) := ew_of (pw_and (mT X a) (mW X _)) fun O fp σ H S Q q => h O fp σ H S _ fun H1 e1 => by
  cases k with
  | true =>
    show tW X _ σ H1 Q
    exact hr rfl O fp σ H1 (S.ex e1) Q fun H2 e2 => q H2 (e1.trans e2)
  | false =>
    show Q false H1
    exact q H1 e1
theorem ew_or {k j : Bool} (h : ET X a env k) (hr : k = false → EW X (.BoolOp .Or (b :: es) pos) env j) : EW X (.BoolOp .Or (a :: b :: es) pos) env (k || j) := ew_of (pw_or (mT X a) (mW X _)) fun O fp σ H S Q q => h O fp σ H S _ fun H1 e1 => by
  cases k with
  | false =>
    show tW X _ σ H1 Q
    exact hr rfl O fp σ H1 (S.ex e1) Q fun H2 e2 => q H2 (e1.trans e2)
  | true =>
    show Q true H1
    exact q H1 e1
theorem et_bool {k : Bool} (h : EW X e env k) : ET X e env k := et_of (PW.pt (mW X e)) h
theorem et_not {k : Bool} (h : ET X a env k) : ET X (.UnaryOp .Not a pos) env (!k) := et_of (pt_not (mT X a)) fun O fp σ H S Q q => h O fp σ H S _ fun H1 e1 => q H1 e1
theorem ex_one {op} (h : EX X a env x) : EX X (.BoolOp op [a] pos) env x := ex_of (pe_one (mE X a)) h
theorem ex_and {k j : Bool} (h : EX X a env k) (hr : k = true → EX X (.BoolOp .And (b :: es) pos) env j) : EX X (.BoolOp .And (a :: b :: es) pos) env (k && j) := ex_of (pe_and (mE X a) (mE X _)) fun O fp σ H S Q q => h O fp σ H S _ fun v H1 e1 r1 => ⟨k, r1, by
  cases k with
  | true =>
    show tE X _ σ H1 Q
    exact hr rfl O fp σ H1 (S.ex e1) Q fun v2 H2 e2 r2 => q v2 H2 (e1.trans e2) r2
  | false =>
    show Q (.bl false) H1
    exact q _ H1 e1 rfl⟩
theorem ex_or {k j : Bool} (h : EX X a env k) (hr : k = false → EX X (.BoolOp .Or (b :: es) pos) env j) : EX X (.BoolOp .Or (a :: b :: es) pos) env (k || j) := ex_of (pe_or (mE X a) (mE X _)) fun O fp σ H S Q q => h O fp σ H S _ fun v H1 e1 r1 => ⟨k, r1, by
  cases k with
  | false =>
    show tE X _ σ H1 Q
    exact hr rfl O fp σ H1 (S.ex e1) Q fun v2 H2 e2 r2 => q v2 H2 (e1.trans e2) r2
  | true =>
    show Q (.bl true) H1
    exact q _ H1 e1 rfl⟩
theorem ex_not {k : Bool} (h : EX X a env k) : EX X (.UnaryOp .Not a pos) env (!k) := ex_of (pe_not (mE X a)) fun O fp σ H S Q q => h O fp σ H S _ fun v H1 e1 r1 => ⟨k, r1, q _ H1 e1 rfl⟩
theorem ex_if {k : Bool} {z w : α} (h : ET X c env k) (h1 : k = true → EX X a env z) (h2 : k = false → EX X b env w) : EX X (.IfExp c a b pos) env (cond k z w) := ex_of (pe_ifExp (mT X c) (mE X a) (mE X b)) fun O fp σ H S Q q => h O fp σ H S _ fun H1 e1 => by
  cases k with
  | true =>
    show tE X a σ H1 Q
    exact h1 rfl O fp σ H1 (S.ex e1) Q fun v2 H2 e2 r2 => q v2 H2 (e1.trans e2) r2
  | false =>
    show tE X b σ H1 Q
    exact h2 rfl O fp σ H1 (S.ex e1) Q fun v2 H2 e2 r2 => q v2 H2 (e1.trans e2) r2
/-! argument lists, tuples, lists -/
theorem ea_nil : EA X [] env [] := ea_of pa_nil fun O fp σ H S Q q => q [] H (Ex.refl H) trivial
theorem ea_cons {xs : List Sl} (h : EX X e env x) (hr : EA X es env xs) (hs : starEach (e :: es) X.env = (false, eval e X.env) :: starEach es X.env := by exact star_plain rfl _ _) : EA X (e :: es) env (Sl.dat x :: xs) := ea_of (pa_cons (mE X e) (mA X es) hs) fun O fp σ H S Q q => h O fp σ H S _ fun v H1 e1 r1 => hr O fp σ H1 (S.ex e1) _ fun vs H2 e2 r2 => q _ H2 (e1.trans e2) ⟨Dat.mono (wo_ex e2).le r1, r2⟩
theorem sz_of {n : Nat} (h : n ≤ 100000) : n ≤ sizeLine := Nat.le_trans h (by decide)
theorem upd_out {H : Hp} {U : Addr → Prop} {p : Addr} {o : HO} (h : ¬ U p) : wo (upd H p o) U p = some o := by rw [wo_out h, upd_same]
theorem ex_tup {τ : Type} [Dat τ] [T : Tup τ] {p : τ} {j : Nat} (h : EA X es env (T.comps p)) (hl : (T.comps p).length ≤ 100000 := by exact Nat.le_of_ble_eq_true rfl) : EX X (.Tuple es j pos) env p := ex_of (pe_tup (mA X _)) fun O fp σ H S Q q => h O fp σ H S _ fun vs H1 e1 r1 => by
  refine ⟨sz_of (by rw [r1.length]; exact hl), fun u hu => ?_⟩
  have e2 : Ex H1 (upd H1 u (.tup vs)) := Ex.new hu
  have np := (S.ex e1).fresh hu
  exact q _ _ (e1.trans e2) (by rw [T.is]; exact ⟨u, vs, rfl, .inl (.inl (upd_out np)), r1.mono (wo_ex e2).le⟩)
/-- t[k] of a tuple, k written -/
theorem ex_ixT {τ : Type} [Dat τ] [T : Tup τ] {p : τ} {k : Nat} (h : EX X a env p) (hb : EX X b env (k : Int)) (g : (T.comps p)[k]? = some (.dat x)) (hs : PlainIx b := by exact fun _ _ => rfl) : EX X (.Subscript a b pos) env x := ex_of (pe_ix ix_tup (mE X a) (mE X _) hs) (ev_op h hb fun U v1 v2 H _ r1 r2 Q q => by
  rw [T.is] at r1
  obtain ⟨p, vs, e, t, r⟩ := r1
  obtain ⟨v, hv, rv⟩ := r.get g
  exact ⟨p, vs, k, v, e, r2, wo_le.tup t, atI_nat hv, q _ H (Ex.refl H) rv⟩)
theorem ex_fst {p : α × β} {j : Nat} {pos' : Pos} (h : EX X a env p) : EX X (.Subscript a (.Constant (.int 0) j pos') pos) env p.1 := ex_ixT (k := 0) h ex_int rfl
theorem ex_snd {p : α × β} {j : Nat} {pos' : Pos} (h : EX X a env p) : EX X (.Subscript a (.Constant (.int 1) j pos') pos) env p.2 := ex_ixT (k := 1) h ex_int rfl
end
end R
set_option maxHeartbeats 2000000
set_option autoImplicit false
namespace R
open PySem PySem.Spec PyProof.Rows L2
/-! ### statements -/
/-- what comes back: data, or something new of one's own -/
class Res (ρ : Type) where
  inn : PySem.W.Frag → Hp → Hp → (Addr → Prop) → V → ρ → Prop
  out : PySem.W.Frag → (Addr → Prop) → Hp → Hp → V → ρ → Prop
  mono : ∀ {K : PySem.W.Frag} {Hf Hf' Hc Hc' : Hp} {own : Addr → Prop} {v : V} {r : ρ}, Le Hf Hf' → (∀ a, own a → Hc' a = Hc a) → inn K Hf Hc own v r → inn K Hf' Hc' own v r
  conv : ∀ {K : PySem.W.Frag} {O : Addr → Prop} {fp : Nat → List Addr} {H H' : Hp} {v : V} {r : ρ}, (∀ a, (∃ i, a ∈ fp i) → H a = none) → (∀ a, (∃ i, a ∈ fp i) → ∃ o, H' a = some o) → inn K (wo H' (UU O fp)) H' (fun a => ∃ i, a ∈ fp i) v r → out K O H H' v r
instance {α : Type} [Dat α] : Res α := ⟨fun K Hf _ _ v r => Dat.rep K Hf v r, fun K O _ H' v r => Dat.rep K (wo H' O) v r, fun h _ q => Dat.mono h q, fun _ _ q => Dat.mono (wo_mono fun _ z => .inl z).le q⟩
instance {β : Type} [Own β] : Res β := ⟨fun K Hf Hc own v r => ∃ L : List Addr, (∀ a ∈ L, own a) ∧ Own.own K Hf Hc v L r,
  fun K O H H' v r => ∃ L : List Addr, (∀ a ∈ L, H a = none) ∧ (∀ a ∈ L, ∃ o, H' a = some o) ∧ Own.own K (wo H' (fun a => O a ∨ a ∈ L)) H' v L r,
  fun h hc ⟨L, h1, h2⟩ => ⟨L, h1, Own.frame h (fun a ha => hc a (h1 a ha)) h2⟩,
  fun h1 h2 ⟨L, h3, h4⟩ => ⟨L, fun a ha => h1 a (h3 a ha), fun a ha => h2 a (h3 a ha), Own.frame (wo_mono fun a z => z.elim .inl fun z => .inr (h3 a z)).le (fun _ _ => rfl) h4⟩⟩
/-- what is raised: a class by its name; the two with fields -/
inductive Exn where
  | one (c : Str)
  | clash (numbers : List Int) (weights : List (Int × Int))
  | stuck (way : Str) (numbers : List Int) (weights : List (Int × Int))
def ExAt (mg : Str → Option Value) (K : PySem.W.Frag) (Hf : Hp) (e : Exn) (cls : Value) (d : Option Addr) : Prop := match e with
  | .one c => mg c = some cls ∧ d = none
  | .clash ns ws => mg "Clash" = some cls ∧ ∃ dx v1 v2, d = some dx ∧ Hf dx = some (.xd [("numbers", v1), ("weights", v2)]) ∧ Dat.rep K Hf v1 ns ∧ Dat.rep K Hf v2 ws
  | .stuck w ns ws => mg "Stuck" = some cls ∧ ∃ dx v0 v1 v2, d = some dx ∧ Hf dx = some (.xd [("direction", v0), ("numbers", v1), ("weights", v2)]) ∧ Dat.rep K Hf v0 w ∧ Dat.rep K Hf v1 ns ∧ Dat.rep K Hf v2 ws
structure Po (ρ : Type) where
  N : Env' → Prop
  R : ρ → Env' → Prop
  X : Exn → Env' → Prop := fun _ _ => False
  B : Env' → Prop := fun _ => False
  C : Env' → Prop := fun _ => False
def Keep (fp : Nat → List Addr) (H : Hp) (fp' : Nat → List Addr) (H' : Hp) : Prop :=
  (∀ a o, (¬ ∃ i, a ∈ fp i) → H a = some o → H' a = some o) ∧ ∀ i a, a ∈ fp' i → (∃ j, a ∈ fp j) ∨ H a = none
section
variable {K : PySem.W.Frag} {O : Addr → Prop} {fp fp' fp1 : Nat → List Addr} {H H' H1 : Hp}
theorem Keep.refl : Keep fp H fp H := ⟨fun _ _ _ h => h, fun i a h => .inl ⟨i, h⟩⟩
theorem Keep.ex (e : Ex H H') : Keep fp H fp H' := ⟨fun a o _ h => e a o h, fun i a h => .inl ⟨i, h⟩⟩
theorem Keep.trans (a : Keep fp H fp1 H1) (b : Keep fp1 H1 fp' H') : Keep fp H fp' H' := by
  refine ⟨fun x o n h => b.1 x o (fun ⟨i, hi⟩ => ?_) (a.1 x o n h), fun i x h => ?_⟩
  · rcases a.2 i x hi with z | z
    · exact n z
    · rw [h] at z; cases z
  · rcases b.2 i x h with ⟨j, z⟩ | z
    · exact a.2 j x z
    · by_cases n : ∃ j, x ∈ fp j
      · exact .inl n
      · refine .inr ?_
        cases q : H x with
        | none => rfl
        | some o =>
          rw [a.1 x o n q] at z
          cases z
/-- what was frozen is so still -/
theorem Keep.frz (k : Keep fp H fp' H') : Ex (wo H (UU O fp)) (wo H' (UU O fp')) := fun a o h => by
  obtain ⟨n, q⟩ := wo_some h
  have n1 : ¬ O a := fun z => n (.inl z)
  have n2 : ¬ ∃ i, a ∈ fp i := fun z => n (.inr z)
  rw [wo_out]
  · exact k.1 a o n2 q
  · rintro (z | ⟨i, z⟩)
    · exact n1 z
    · rcases k.2 i a z with y | y
      · exact n2 y
      · rw [q] at y; cases y
end
structure Goes {ρ : Type} [Res ρ] (K : PySem.W.Frag) (mg : Str → Option Value) (W : WX) (po : Po ρ) (O : Addr → Prop) (fp : Nat → List Addr) (H : Hp) (D : Ends) : Prop where
  nx : ∀ env' fp' σ' H', po.N env' → Keep fp H fp' H' → SOk K O fp' env' σ' H' → D.nx σ' H'
  rt : ∀ r env' fp' σ' v H', po.R r env' → Keep fp H fp' H' → SOk K O fp' env' σ' H' → Res.inn K (wo H' (UU O fp')) H' (fun a => ∃ i, a ∈ fp' i) v r → D.rt v H'
  ex : ∀ e env' fp' σ' cls d H', po.X e env' → Keep fp H fp' H' → SOk K O fp' env' σ' H' → ExAt mg K (wo H' (UU O fp')) e cls d → W cls d σ' H'
  bk : ∀ env' fp' σ' H', po.B env' → Keep fp H fp' H' → SOk K O fp' env' σ' H' → D.bk σ' H'
  ct : ∀ env' fp' σ' H', po.C env' → Keep fp H fp' H' → SOk K O fp' env' σ' H' → D.ct σ' H'
def SvS {ρ : Type} [Res ρ] (K : PySem.W.Frag) (mg : Str → Option Value) (W : WX) (t : TS) (env : Env') (po : Po ρ) : Prop :=
  ∀ O fp σ H, SOk K O fp env σ H → ∀ D, Goes K mg W po O fp H D → t D σ H
def SX {ρ : Type} [Res ρ] (X : Cx) (W : WX) (sts : List Stmt) (env : Env') (po : Po ρ) : Prop := SvS X.K X.mg W (tSs X sts) env po
def S1 {ρ : Type} [Res ρ] (X : Cx) (W : WX) (st : Stmt) (env : Env') (po : Po ρ) : Prop := SvS X.K X.mg W (tS X st) env po
/-- what is known less -/
def Sub : Env' → Env' → Prop
  | [], [] => True
  | s :: a, t :: b => (t = .any ∨ s = t) ∧ Sub a b
  | _, _ => False
theorem Sub.refl : ∀ e : Env', Sub e e
  | [] => trivial
  | _ :: e => ⟨.inr rfl, Sub.refl e⟩
theorem Sub.len : ∀ {a b : Env'}, Sub a b → a.length = b.length
  | [], [], _ => rfl
  | _ :: a, _ :: b, h => congrArg (· + 1) (Sub.len (a := a) (b := b) h.2)
  | [], _ :: _, h => h.elim
  | _ :: _, [], h => h.elim
theorem Sub.get : ∀ {a b : Env'} {i : Nat} {s : Sl}, Sub a b → b[i]? = some s → s = .any ∨ a[i]? = some s
  | [], [], i, s, _, q => by simp at q
  | x :: a, y :: b, 0, s, h, q => by
    have q : y = s := by simpa using q
    subst q
    rcases h.1 with z | z
    · exact .inl z
    · exact .inr (by simp [z])
  | x :: a, y :: b, i + 1, s, h, q => by
    have := Sub.get (a := a) (b := b) (i := i) (s := s) h.2 (by simpa using q)
    simpa using this
  | [], _ :: _, _, _, h, _ => h.elim
  | _ :: _, [], _, _, h, _ => h.elim
theorem SOk.sub {K : PySem.W.Frag} {O : Addr → Prop} {fp : Nat → List Addr} {env env' : Env'} {σ : L2.St} {H : Hp} (S : SOk K O fp env σ H) (h : Sub env env') : SOk K O fp env' σ H where
  len := S.len.trans h.len
  bnd := S.bnd
  fpO := S.fpO
  sep := S.sep
  dom := S.dom
  sl := fun i s q => by
    rcases h.get q with z | z
    · subst z; exact trivial
    · exact S.sl i s z
/-- a slot gets data -/
theorem SOk.set {α : Type} [Dat α] {K : PySem.W.Frag} {O : Addr → Prop} {fp : Nat → List Addr} {env : Env'} {σ : L2.St} {H : Hp} {x : α} {v : V} (S : SOk K O fp env σ H) (i : Nat) (h : Dat.rep K (wo H (UU O fp)) v x) : SOk K O fp (env.set i (.dat x)) (σ.set i (some v)) H where
  len := by rw [List.length_set, List.length_set]; exact S.len
  bnd := S.bnd
  fpO := S.fpO
  sep := S.sep
  dom := S.dom
  sl := fun j s q => by
    by_cases e : i = j
    · subst e
      have hi : i < env.length := by
        have := (List.getElem?_eq_some_iff.mp q).1
        simpa using this
      rw [List.getElem?_set_self hi] at q
      cases q
      exact ⟨v, by rw [List.getElem?_set_self (by rw [S.len]; exact hi)], h⟩
    · rw [List.getElem?_set_ne e] at q ⊢
      exact S.sl j s q
/-- a slot is forgotten -/
theorem SOk.forget {K : PySem.W.Frag} {O : Addr → Prop} {fp : Nat → List Addr} {env : Env'} {σ : L2.St} {H : Hp} {o : Option V} (S : SOk K O fp env σ H) (i : Nat) : SOk K O fp (env.set i .any) (σ.set i o) H where
  len := by rw [List.length_set, List.length_set]; exact S.len
  bnd := S.bnd
  fpO := S.fpO
  sep := S.sep
  dom := S.dom
  sl := fun j s q => by
    by_cases e : i = j
    · subst e
      have hi : i < env.length := by
        have := (List.getElem?_eq_some_iff.mp q).1
        simpa using this
      rw [List.getElem?_set_self hi] at q
      cases q
      exact trivial
    · rw [List.getElem?_set_ne e] at q ⊢
      exact S.sl j s q
/-- targets -/
def GX {α : Type} [Dat α] (X : Cx) (tg : Expr) (x : α) (env env' : Env') : Prop :=
  ∀ O fp σ H v, SOk X.K O fp env σ H → Dat.rep X.K (wo H (UU O fp)) v x → ∀ Q : L2.St → Hp → Prop, (∀ σ', SOk X.K O fp env' σ' H → Q σ' H) → tG X tg v σ H Q
section
variable {X : Cx} {K : PySem.W.Frag} {mg : Str → Option Value} {W : WX} {env env' : Env'} {ρ α β γ : Type} [Res ρ] [Dat α] [Dat β] [Dat γ] {po : Po ρ} {x : α} {y : β} {z : γ} {e a b c tg : Expr} {es : List Expr} {t ta tb tc : TE} {pos p2 : Pos} {st : Stmt} {sts rest thn els body : List Stmt}
section
variable {O : Addr → Prop} {fp fp' : Nat → List Addr} {H H' : Hp} {D : Ends}
theorem Goes.step (G : Goes K mg W po O fp H D) (k : Keep fp H fp' H') : Goes K mg W po O fp' H' D :=
  ⟨fun e f s h p q => G.nx e f s h p (k.trans q), fun r e f s v h p q => G.rt r e f s v h p (k.trans q), fun x e f s c d h p q => G.ex x e f s c d h p (k.trans q), fun e f s h p q => G.bk e f s h p (k.trans q), fun e f s h p q => G.ct e f s h p (k.trans q)⟩
end
theorem mG (X : Cx) (tg : Expr) : PG X tg (tG X tg) := ⟨fun pins s σ H v u Q I r h => tG_run h pins s u I r⟩
theorem gx_of {g : TG} (p : PG X tg g) (h : ∀ O fp σ H v, SOk X.K O fp env σ H → Dat.rep X.K (wo H (UU O fp)) v x → ∀ Q : L2.St → Hp → Prop, (∀ σ', SOk X.K O fp env' σ' H → Q σ' H) → g v σ H Q) : GX X tg x env env' :=
  fun O fp σ H v S r Q q => tG_of fun pins s u I ru => p.run pins s σ H v u Q I ru (h O fp σ H v S r Q q)
theorem gx_name {i : Nat} {n : Str} {pos : Pos} (hN : X.N.Nodup) (hi : X.N[i]? = some n := by rfl) (hx : Loc X.env.scope n := by first | exact Or.inl rfl | exact Or.inr rfl) (hf : X.fn n = true ∨ X.env.scope.names.lookup n = some .local := by first | exact .inl rfl | exact .inr rfl | assumption) :
    GX X (.Name n pos) x env (env.set i (.dat x)) := gx_of (pg_name hN hi hx hf) fun O fp σ H v S r Q q => q _ (S.set i r)
def tGs (X : Cx) (es : List Expr) : TGs := fun vs σ H Q => ∀ (pins : List (Addr × Obj)) (s : Shared) (us : List Value), Inv X pins σ H s → Vals vs us → wpAny (model X.prog X.w) X.A (assignInOrder ((assignEach es X.env).map (·.2)) us) (fun _ s' => ∃ σ' H', Inv X pins σ' H' s' ∧ Q σ' H') X.xe s
theorem mGs (X : Cx) (es : List Expr) : PGs X es (tGs X es) := ⟨fun pins s σ H vs us Q I r h => h pins s us I r⟩
def GXs (X : Cx) (es : List Expr) (xs : List Sl) (env env' : Env') : Prop :=
  ∀ O fp σ H vs, SOk X.K O fp env σ H → ARep X.K (wo H (UU O fp)) vs xs → ∀ Q : L2.St → Hp → Prop, (∀ σ', SOk X.K O fp env' σ' H → Q σ' H) → tGs X es vs σ H Q
theorem gxs_nil : GXs X [] [] env env := fun O fp σ H vs S r Q q pins s us I ru => by
  match vs, r with
  | [], _ => exact pgs_nil.run pins s σ H [] us Q I ru ⟨rfl, q σ S⟩
theorem gxs_cons {xs : List Sl} {env1 env2 : Env'} (h1 : GX X a x env env1) (h2 : GXs X es xs env1 env2) (hs : (assignEach (a :: es) X.env).map (·.2) = assign a X.env :: (assignEach es X.env).map (·.2) := by rfl) : GXs X (a :: es) (.dat x :: xs) env env2 := fun O fp σ H vs S r Q q pins s us I ru => by
  match vs, r with
  | v :: vr, ⟨r1, r2⟩ => exact (pgs_cons (mG X a) (mGs X es) hs).run pins s σ H (v :: vr) us Q I ru ⟨v, vr, rfl, h1 O fp σ H v S r1 _ fun σ1 S1 => h2 O fp σ1 H vr S1 r2 Q q⟩
theorem gx_tup {τ : Type} [Dat τ] [T : Tup τ] {p : τ} {k : Nat} (hc : X.calm = true) (h : GXs X es (T.comps p) env env') (hn : (assignEach es X.env).length = (T.comps p).length := by rfl) (hst : (assignEach es X.env).findIdx? (·.1) = none := by rfl) : GX X (.Tuple es k pos) p env env' :=
  gx_of (pg_tup hc (mGs X es) hn hst) fun O fp σ H v S r Q q => by
    rw [T.is] at r
    obtain ⟨ad, vs, e, t, r1⟩ := r
    exact ⟨ad, vs, e, wo_le.tup t, r1.length, h O fp σ H vs S r1 Q q⟩
theorem sx_of {t : TS} (p : PSs X sts t) (h : SvS X.K X.mg W t env po) : SX X W sts env po := fun O fp σ H S D G => tSs_of fun pins s I => p.run pins s σ H D I (h O fp σ H S D G)
theorem s1_of {t : TS} (p : PS X st t) (h : SvS X.K X.mg W t env po) : S1 X W st env po := fun O fp σ H S D G => tS_of fun pins s I => p.run pins s σ H D I (h O fp σ H S D G)
theorem sx_nil (h : po.N env) : SX X W [] env po := sx_of pss_nil fun O fp σ H S D G => G.nx env fp σ H h Keep.refl S
theorem sx_cons (M : Env' → Prop) (h1 : S1 X W st env { po with N := M }) (h2 : ∀ e, M e → SX X W rest e po) : SX X W (st :: rest) env po :=
  sx_of (pss_cons (mS X st) (mSs X rest)) fun O fp σ H S D G => h1 O fp σ H S _ ⟨fun e f s h m k S2 => h2 e m O f s h S2 D (G.step k), G.rt, G.ex, G.bk, G.ct⟩
/-- a statement that hands on -/
theorem sx_step {t : TS} (p : PS X st t) (h : ∀ O fp σ H, SOk X.K O fp env σ H → ∀ D : Ends, (∀ fp' σ' H', Keep fp H fp' H' → SOk X.K O fp' env' σ' H' → D.nx σ' H') → t D σ H) (h2 : SX X W rest env' po) : SX X W (st :: rest) env po :=
  sx_cons (fun e => e = env') (s1_of p fun O fp σ H S D G => h O fp σ H S D fun fp' σ' H' k S' => G.nx env' fp' σ' H' rfl k S') fun e he => he ▸ h2
theorem sx_sub (h : Sub env env') (h2 : SX X W sts env' po) : SX X W sts env po := fun O fp σ H S => h2 O fp σ H (S.sub h)
theorem SX.imp {po' : Po ρ} (h : SX X W sts env po) (n : ∀ e, po.N e → po'.N e) (r : ∀ x e, po.R x e → po'.R x e) (x : ∀ i e, po.X i e → po'.X i e) (b : ∀ e, po.B e → po'.B e) (c : ∀ e, po.C e → po'.C e) : SX X W sts env po' :=
  fun O fp σ H S D G => h O fp σ H S D ⟨fun e f s h m => G.nx e f s h (n e m), fun i e f s v h m => G.rt i e f s v h (r i e m), fun i e f s c d h m => G.ex i e f s c d h (x i e m), fun e f s h m => G.bk e f s h (b e m), fun e f s h m => G.ct e f s h (c e m)⟩
theorem sx_pass (h : SX X W rest env po) : SX X W (.Pass pos :: rest) env po := sx_step ps_pass (fun O fp σ H S D q => q fp σ H Keep.refl S) h
theorem sx_asg (he : EX X e env x) (hg : GX X tg x env env') (h : SX X W rest env' po) (hs : swapsWithSole [tg] e pos.line X.env = pure false := by rfl) (hw : swappedStores [tg] e X.env = pure none := by rfl) (h1 : (assignEach [tg] X.env).map (·.2) = [assign tg X.env] := by rfl) : SX X W (.Assign [tg] e pos :: rest) env po :=
  sx_step (ps_asg (mE X e) (mG X tg) hs hw h1) (fun O fp σ H S D q => he O fp σ H S _ fun v H1 e1 r1 => hg O fp σ H1 v (S.ex e1) r1 _ fun σ' S' => q fp σ' H1 (Keep.ex e1) S') h
theorem sx_set {i : Nat} {n : Str} (hN : X.N.Nodup) (he : EX X e env x) (h : SX X W rest (env.set i (.dat x)) po) (hi : X.N[i]? = some n := by rfl) (hx : Loc X.env.scope n := by first | exact Or.inl rfl | exact Or.inr rfl) (hs : swapsWith e (some (.Name n p2)) pos.line X.env = pure false := by rfl) (hf : X.fn n = true ∨ X.env.scope.names.lookup n = some .local := by first | exact .inl rfl | exact .inr rfl | assumption) :
    SX X W (.Assign [.Name n p2] e pos :: rest) env po :=
  sx_step (ps_set hN hi hx (mE X e) hs hf) (fun O fp σ H S D q => he O fp σ H S _ fun v H1 e1 r1 => q fp _ H1 (Keep.ex e1) ((S.ex e1).set i r1)) h
/-- a, b = e1, e2 -/
theorem sx_par {i j : Nat} {n m : Str} {px py pt : Pos} {kt k2 : Nat} {pt2 : Pos} (hc : X.calm = true) (hN : X.N.Nodup) (h : EA X [a, b] env [Sl.dat x, Sl.dat y]) (hr : SX X W rest ((env.set i (.dat x)).set j (.dat y)) po) (hij : i ≠ j := by decide)
    (hi : X.N[i]? = some n := by rfl) (hj : X.N[j]? = some m := by rfl) (lx : X.env.scope.names.lookup n = some .local := by rfl) (ly : X.env.scope.names.lookup m = some .local := by rfl) (hw : swappedStores [.Tuple [.Name n px, .Name m py] kt pt] (.Tuple [a, b] k2 pt2) X.env = pure (some [n, m]) := by rfl)
    (hs : swapsWithSole [.Tuple [.Name n px, .Name m py] kt pt] (.Tuple [a, b] k2 pt2) pos.line X.env = pure false := by rfl) (h1 : starEach [a, b] X.env = [(false, eval a X.env), (false, eval b X.env)] := by rfl) : SX X W (.Assign [.Tuple [.Name n px, .Name m py] kt pt] (.Tuple [a, b] k2 pt2) pos :: rest) env po :=
  sx_step (ps_par hc hN hi hj hij lx ly (mA X _) hw hs) (fun O fp σ H S D q => h O fp σ H S _ fun vs H1 e1 r1 => by
    match vs, r1 with
    | [v, w], ⟨h1, h2, _⟩ => exact ⟨v, w, rfl, q fp _ H1 (Keep.ex e1) (((S.ex e1).set i h1).set j h2)⟩) hr
theorem sx_ret (he : EX X e env x) {po : Po α} (h : po.R x env) : SX X W [.Return (some e) pos] env po :=
  sx_of (pss_one (ps_ret (mE X e))) fun O fp σ H S D G => he O fp σ H S _ fun v H1 e1 r1 => G.rt x env fp σ v H1 h (Keep.ex e1) (S.ex e1) r1
theorem sx_retN {po : Po Unit} (h : po.R () env) : SX X W [.Return none pos] env po :=
  sx_of (pss_one ps_retN) fun O fp σ H S D G => G.rt () env fp σ .non H h Keep.refl S rfl
theorem sx_expr (he : EX X e env x) (h : SX X W rest env po) (hs : swapsWith e none pos.line X.env = pure false := by rfl) : SX X W (.Expr e pos :: rest) env po :=
  sx_step (ps_expr (mE X e) hs) (fun O fp σ H S D q => he O fp σ H S _ fun v H1 e1 r1 => q fp σ H1 (Keep.ex e1) (S.ex e1)) h
theorem sx_break (h : po.B env) : SX X W [.Break pos] env po := sx_of (pss_one ps_break) fun O fp σ H S D G => G.bk env fp σ H h Keep.refl S
theorem sx_continue (h : po.C env) : SX X W [.Continue pos] env po := sx_of (pss_one ps_continue) fun O fp σ H S D G => G.ct env fp σ H h Keep.refl S
theorem sx_if {k : Bool} (M : Env' → Prop) (hc : ET X c env k) (h1 : k = true → SX X W thn env { po with N := M }) (h2 : k = false → SX X W els env { po with N := M }) (hr : ∀ e, M e → SX X W rest e po) : SX X W (.If c thn els pos :: rest) env po :=
  sx_cons M (s1_of (ps_if (mT X c) (mSs X thn) (mSs X els)) fun O fp σ H S D G => hc O fp σ H S _ fun H1 e1 => by
    cases k with
    | true =>
      show tSs X thn D σ H1
      exact h1 rfl O fp σ H1 (S.ex e1) D (G.step (Keep.ex e1))
    | false =>
      show tSs X els D σ H1
      exact h2 rfl O fp σ H1 (S.ex e1) D (G.step (Keep.ex e1))) hr
/-- if c: .. return -/
theorem sx_ifr {k : Bool} (hc : ET X c env k) (h1 : k = true → SX X W thn env { po with N := fun _ => False }) (hr : k = false → SX X W rest env po) : SX X W (.If c thn [] pos :: rest) env po :=
  sx_if (fun e => e = env ∧ k = false) hc (fun z => (h1 z).imp (fun _ h => h.elim) (fun _ _ h => h) (fun _ _ h => h) (fun _ h => h) (fun _ h => h)) (fun z => sx_nil ⟨rfl, z⟩) fun e ⟨he, z⟩ => by subst he; exact hr z
/-- if c: .. return / else: .. return -/
theorem sx_ife {k : Bool} (hc : ET X c env k) (h1 : k = true → SX X W thn env { po with N := fun _ => False }) (h2 : k = false → SX X W els env { po with N := fun _ => False }) : SX X W (.If c thn els pos :: rest) env po :=
  sx_if (fun _ => False) hc h1 h2 fun e h => h.elim
/-- if c: .. / else: .., the ways meet -/
theorem sx_ifj {k : Bool} (F : Bool → Env') (hc : ET X c env k) (h1 : k = true → SX X W thn env { po with N := fun e => Sub e (F true) }) (h2 : k = false → SX X W els env { po with N := fun e => Sub e (F false) }) (hr : SX X W rest (F k) po) : SX X W (.If c thn els pos :: rest) env po :=
  sx_if (fun e => Sub e (F k)) hc (fun z => by rw [z]; exact h1 z) (fun z => by rw [z]; exact h2 z) fun e h => sx_sub h hr
theorem sx_while {S : Type} (mk : S → Env') (I : S → Prop) (μ : S → Nat) (M : Env' → Prop) (s0 : S) (hp : PassesOwn (model X.prog X.w) X.A X.env X.xe) (h0 : Sub env (mk s0)) (hI : I s0)
    (hs : ∀ s, I s → ∃ k, ET X c (mk s) k ∧ (k = true → SX X W body (mk s) { po with N := fun e => ∃ s', Sub e (mk s') ∧ I s' ∧ μ s' < μ s, C := fun e => ∃ s', Sub e (mk s') ∧ I s' ∧ μ s' < μ s, B := M }) ∧ (k = false → SX X W rest (mk s) po))
    (hb : ∀ e, M e → SX X W rest e po) : SX X W (.While c body [] pos :: rest) env po :=
  sx_cons (fun e => M e ∨ ∃ s, Sub e (mk s) ∧ SX X W rest (mk s) po) (s1_of (ps_while hp (mT X c) (mSs X body)) fun O fp σ H S D G => by
    refine ⟨fun m σ' H' => ∃ s fp', m = μ s ∧ I s ∧ Keep fp H fp' H' ∧ SOk X.K O fp' (mk s) σ' H', ⟨μ s0, s0, fp, rfl, hI, Keep.refl, S.sub h0⟩, ?_⟩
    rintro m σ1 H1 ⟨s, fp1, rfl, Is, k1, S1⟩
    obtain ⟨k, ht, hy, hn⟩ := hs s Is
    refine ht O fp1 σ1 H1 S1 _ fun H2 e2 => ?_
    cases k with
    | true =>
      show ∃ N : L2.St → Hp → Prop, _ ∧ _
      refine ⟨fun σ' H' => ∃ s' fp', I s' ∧ μ s' < μ s ∧ Keep fp H fp' H' ∧ SOk X.K O fp' (mk s') σ' H', fun σ' H' ⟨s', fp', a, b, c, d⟩ => ⟨μ s', b, s', fp', rfl, a, c, d⟩, ?_⟩
      have kk : Keep fp H fp1 H2 := k1.trans (Keep.ex e2)
      refine hy rfl O fp1 σ1 H2 (S1.ex e2) _ ⟨fun e f s2 h ⟨s', sb, a, b⟩ q S' => ⟨s', f, a, b, kk.trans q, S'.sub sb⟩, fun r e f s2 v h p q => G.rt r e f s2 v h p (kk.trans q), fun x e f s2 c d h p q => G.ex x e f s2 c d h p (kk.trans q), fun e f s2 h p q S' => G.nx e f s2 h (.inl p) (kk.trans q) S', fun e f s2 h ⟨s', sb, a, b⟩ q S' => ⟨s', f, a, b, kk.trans q, S'.sub sb⟩⟩
    | false =>
      show D.nx σ1 H2
      exact G.nx (mk s) fp1 σ1 H2 (.inr ⟨s, Sub.refl _, hn rfl⟩) (k1.trans (Keep.ex e2)) (S1.ex e2)) fun e h => by
  rcases h with h | ⟨s, h, q⟩
  · exact hb e h
  · exact sx_sub h q
end
end R
set_option maxHeartbeats 2000000
set_option autoImplicit false
namespace R
open PySem PySem.Spec PyProof.Rows L2
/-! ### defs -/
/-- the promise of a def that changes nothing: args, what comes back, what is raised -/
abbrev Phi (ρ : Type) := List Sl → (ρ → Prop) → (Exn → Prop) → Prop
def spP {ρ : Type} [Res ρ] (K : PySem.W.Frag) (mg : Str → Option Value) (n : Nat) (Φ : Phi ρ) : Sp := fun vs H Q E =>
  vs.length = n ∧ ∃ O args R Xp, Φ args R Xp ∧ SOk K O nofp args (vs.map some) H ∧
    (∀ r v H', R r → Ex H H' → Res.out K O H H' v r → Q v H') ∧ (∀ e cls d H', Xp e → Ex H H' → ExAt mg K (wo H' O) e cls d → E cls d H')
theorem Keep.ex_of {H H' : Hp} {fp' : Nat → List Addr} (k : Keep nofp H fp' H') : Ex H H' := fun a o h => k.1 a o (fun ⟨i, z⟩ => by cases z) h
theorem SOk.pad {K : PySem.W.Frag} {O : Addr → Prop} {args : Env'} {vs : List V} {H : Hp} (S : SOk K O nofp args (vs.map some) H) (n : Nat) : SOk K O nofp (args ++ List.replicate n .any) (vs.map some ++ List.replicate n none) H where
  len := by simp [S.len] <;> simpa using S.len
  bnd := S.bnd
  fpO := S.fpO
  sep := S.sep
  dom := S.dom
  sl := fun i s q => by
    have hl : vs.length = args.length := by simpa using S.len
    by_cases h : i < args.length
    · rw [List.getElem?_append_left h] at q
      rw [List.getElem?_append_left (by simpa [hl] using h)]
      exact S.sl i s q
    · rw [List.getElem?_append_right (by omega)] at q
      have := List.mem_of_getElem? q
      rw [List.mem_replicate] at this
      rw [this.2]
      exact trivial
section
variable {P : Program} {w : World} {K : PySem.W.Frag} {mg : Str → Option Value} {base : Heap} {ρ : Type} [Res ρ]
/-- the context of a def's body -/
abbrev cxX (P : Program) (w : World) (K : PySem.W.Frag) (mg : Str → Option Value) (base : Heap) (N : List Str) (qual : Str) (scope : Scope) (f : Addr) (cd : Value) (A : Around) (outer : List PySem.Env) (s : Shared) (H : Hp) (E : XK) : Cx := cxOf (L2.CX P w) P w K mg base N qual scope f cd A outer s H E
theorem fn_ok {x qual : Str} {st : Stmt} {f : Addr} {fd : FuncData} {N ps : List Str} {k n : Nat} {Φ : Phi ρ} (F : Fun K x qual st f fd) (S : FnScope N ps (defScope st)) (hn : ps.length = n)
    (hb : ∀ (args : Env') (Rp : ρ → Prop) (Xp : Exn → Prop), Φ args Rp Xp → args.length = n → ∀ (cdv : Value) (A : Around) (outer : List PySem.Env) (s : Shared) (H : Hp) (E : XK) (W : WX), Room k (A.deeper (envOfC qual (defScope st) s.heap.objs.size f cdv)) → Takes (cxX P w K mg base N qual (defScope st) f cdv A outer s H E) W →
      SX (cxX P w K mg base N qual (defScope st) f cdv A outer s H E) W (defBody st) (args ++ List.replicate (N.length - n) .any) { N := fun _ => ∃ r, Rp r ∧ ∀ O H H', Res.out K O H H' .non r, R := fun r _ => Rp r, X := fun e _ => Xp e }) :
    FnOk P w K mg base (L2.CX P w) (k + 1) f fd ps (spP K mg n Φ) := by
  refine F.okX S (fun vs H Q E h => h.1.trans hn.symm) fun cdv A outer s H vs Q E hr h => ?_
  obtain ⟨hl, O, args, Rp, Xp, ph, SS, hq, he⟩ := h
  have hlen : args.length = n := by
    have := SS.len
    rw [List.length_map] at this
    omega
  refine ⟨tSs _ _, mSs _ _, ?_⟩
  have tk : Takes (cxOf (L2.CX P w) P w K mg base N qual (defScope st) f cdv A outer s H E) (fun cls d _ H => E cls d H) := takes_of rfl rfl rfl rfl
  refine hb args Rp Xp ph hlen cdv A outer s H E (fun cls d _ H => E cls d H) hr tk O nofp _ H ?_ _ ?_
  · have := SS.pad (N.length - n)
    rw [show L2.start N vs = vs.map some ++ List.replicate (N.length - n) none from by unfold L2.start; rw [hl]]
    exact this
  · refine ⟨fun e fp' σ' H' ⟨r, h1, h2⟩ kp S' => ?_, fun r e fp' σ' v H' h1 kp S' rp => ?_, fun x e fp' σ' cls d H' h1 kp S' xa => ?_, fun _ _ _ _ h => h.elim, fun _ _ _ _ h => h.elim⟩
    · exact hq r .non H' h1 kp.ex_of (h2 _ _ _)
    · exact hq r v H' h1 kp.ex_of (Res.conv (fun a ⟨i, z⟩ => (kp.2 i a z).elim (fun ⟨j, y⟩ => by cases y) id) (fun a ⟨i, z⟩ => S'.dom i a z) rp)
    · refine he x cls d H' h1 kp.ex_of ?_
      have le : Ex (wo H' (UU O fp')) (wo H' O) := wo_mono fun a z => .inl z
      cases x with
      | one c => exact xa
      | clash ns ws =>
        obtain ⟨m, dx, v1, v2, a, b, c, d⟩ := xa
        exact ⟨m, dx, v1, v2, a, le _ _ b, Dat.mono le.le c, Dat.mono le.le d⟩
      | stuck y ns ws =>
        obtain ⟨m, dx, v0, v1, v2, a, b, b', c, d⟩ := xa
        exact ⟨m, dx, v0, v1, v2, a, le _ _ b, Dat.mono le.le b', Dat.mono le.le c, Dat.mono le.le d⟩
end
/-- a def that may be called by its name -/
structure DefOk (P : Program) (w : World) (K : PySem.W.Frag) (mg : Str → Option Value) (base : Heap) (n : Str) (k : Nat) (ps : List Str) (dvs : List V) (sp : Sp) : Prop where
  ex : ∃ f fd ds, FnOk P w K mg base (L2.CX P w) k f fd ps sp ∧ mg n = some (.ref f) ∧ PySem.W.keepIn K (.ref f) = true ∧ Binds K fd ps ds ∧ Vals dvs ds
/-- what may raise -/
def EXX {α : Type} [Dat α] (X : Cx) (W : WX) (e : Expr) (env : Env') (Rp : α → Prop) (Xp : Exn → Prop) : Prop :=
  ∀ O fp σ H, SOk X.K O fp env σ H → ∀ Q : VK, (∀ r v H', Rp r → Ex H H' → Dat.rep X.K (wo H' (UU O fp)) v r → Q v H') → (∀ x cls d H', Xp x → Ex H H' → ExAt X.mg X.K (wo H' (UU O fp)) x cls d → W cls d σ H') → tE X e σ H Q
theorem ARep.sok {K : PySem.W.Frag} {H : Hp} {U : Addr → Prop} (bnd : ∀ a, U a → ∃ o, H a = some o) {vs : List V} {xs : List Sl} (h : ARep K (wo H U) vs xs) : SOk K U nofp xs (vs.map some) H where
  len := by rw [List.length_map]; exact h.length
  bnd := bnd
  fpO := fun i a z => by cases z
  sep := fun i j a z => by cases z
  dom := fun i a z => by cases z
  sl := by
    rw [uu_no]
    intro i s q
    have : ∀ {vs : List V} {xs : List Sl} {i : Nat} {s : Sl}, ARep K (wo H U) vs xs → xs[i]? = some s → SlOk K (wo H U) H ((vs.map some)[i]?) (nofp i) s := by
      intro vs
      induction vs with
      | nil => intro xs i s h q; cases xs with | nil => simp at q | cons _ _ => simp [ARep] at h
      | cons v vs ih =>
        intro xs i s h q
        match xs, h with
        | .dat (i := jj) x :: xs, h =>
          cases i with
          | zero =>
            have q : Sl.dat (i := jj) x = s := by simpa using q
            subst q
            exact ⟨v, rfl, h.1⟩
          | succ i =>
            have := ih (xs := xs) (i := i) (s := s) h.2 (by simpa using q)
            simpa [nofp] using this
        | .any :: xs, h => simp [ARep] at h
        | .own (i := _) _ :: xs, h => simp [ARep] at h
        | [], h => simp [ARep] at h
    exact this h q
section
variable {X : Cx} {W : WX} {env env' : Env'} {ρ α β γ : Type} [Res ρ] [Dat α] [Dat β] [Dat γ] {po : Po ρ} {x : α} {y : β} {z : γ} {e a b c tg : Expr} {es : List Expr} {pos p p2 : Pos} {rest : List Stmt}
theorem dvs_rep {K : PySem.W.Frag} {H : Hp} {vs dvs : List V} {xs dxs : List Sl} (h : ARep K H vs xs) (hd : ARep K H dvs dxs) : ARep K H (vs ++ dvs) (xs ++ dxs) := by
  induction vs generalizing xs with
  | nil => cases xs with | nil => exact hd | cons _ _ => simp [ARep] at h
  | cons v vs ih =>
    match xs, h with
    | .dat (i := jj) x :: xs, h => exact ⟨h.1, ih h.2⟩
    | .any :: xs, h => simp [ARep] at h
    | .own (i := _) _ :: xs, h => simp [ARep] at h
    | [], h => simp [ARep] at h
/-- f(..) of a def that raises nothing here -/
theorem ex_call {ρ : Type} [Dat ρ] {n : Str} {k m : Nat} {ps : List Str} {dvs : List V} {dxs xs : List Sl} {Φ : Phi ρ} {r : ρ} (d : DefOk X.prog X.w X.K X.mg X.base n k ps dvs (spP X.K X.mg m Φ)) (hr : Room k X.A) (ha : EA X (e :: es) env xs) (hΦ : Φ (xs ++ dxs) (fun r' => r' = r) (fun _ => False)) (hd : ∀ H, ARep X.K H dvs dxs)
    (hl : (xs ++ dxs).length = m := by rfl) (hg : Gl X n := by rfl) (hdb : (n == ("__debug__" : Str)) = false := by decide) (he : starEach (e :: es) X.env = (false, eval e X.env) :: starEach es X.env := by exact star_plain rfl _ _) (hpl : (backTo pos (starEach es X.env)).any (·.1) = false := by exact star_pl rfl) : EX X (.Call (.Name n p) (e :: es) [] pos) env r := by
  obtain ⟨f, fd, ds, F, hm, hk, hb, hv⟩ := d.ex
  refine ex_of (pe_call F hr hg hm hk hb hv passL (mA X _) hdb he hpl) fun O fp σ H S Q q => ha O fp σ H S _ fun vs H1 e1 r1 => ?_
  have r2 := dvs_rep r1 (hd _)
  have S2 := ARep.sok (S.ex e1).bndU r2
  exact ⟨by rw [r2.length]; exact hl, UU O fp, xs ++ dxs, _, _, hΦ, S2, fun r' v H' hr' e2 rp => by subst hr'; exact q v H' (e1.trans e2) rp, fun _ _ _ _ h => h.elim⟩
/-- f(..) of a def that may raise -/
theorem exx_call {ρ : Type} [Dat ρ] {n : Str} {k m : Nat} {ps : List Str} {xs : List Sl} {Φ : Phi ρ} {Rp : ρ → Prop} {Xp : Exn → Prop} (tk : Takes X W) (d : DefOk X.prog X.w X.K X.mg X.base n k ps [] (spP X.K X.mg m Φ)) (hr : Room k X.A) (ha : EA X (e :: es) env xs) (hΦ : Φ xs Rp Xp)
    (hl : xs.length = m := by rfl) (hg : Gl X n := by rfl) (hdb : (n == ("__debug__" : Str)) = false := by decide) (he : starEach (e :: es) X.env = (false, eval e X.env) :: starEach es X.env := by exact star_plain rfl _ _) (hpl : (backTo pos (starEach es X.env)).any (·.1) = false := by exact star_pl rfl) : EXX X W (.Call (.Name n p) (e :: es) [] pos) env Rp Xp := by
  obtain ⟨f, fd, ds, F, hm, hk, hb, hv⟩ := d.ex
  cases hv
  intro O fp σ H S Q q qx
  refine tE_of fun pins s I => (pe_callS F hr hg hm hk hb (fun σ => passAt tk σ) (mA X _) hdb he hpl).run pins s σ H Q I (ha O fp σ H S _ fun vs H1 e1 r1 => ?_)
  have S2 := ARep.sok (S.ex e1).bndU r1
  exact ⟨by rw [r1.length]; exact hl, UU O fp, xs, _, _, hΦ, S2, fun r' v H' hr' e2 rp => q r' v H' hr' (e1.trans e2) rp, fun x cls d H' hx e2 xa => qx x cls d H' hx (e1.trans e2) xa⟩
theorem EX.xx (h : EX X e env x) : EXX X W e env (fun r => r = x) (fun _ => False) := fun O fp σ H S Q q _ => h O fp σ H S Q fun v H' e r => q x v H' rfl e r
/-- x = e, e may raise -/
theorem sx_setX {i : Nat} {n : Str} {Rp : α → Prop} {Xp : Exn → Prop} (hN : X.N.Nodup) (he : EXX X W e env Rp Xp) (h : ∀ r, Rp r → SX X W rest (env.set i (.dat r)) po) (hx : ∀ x, Xp x → po.X x env) (hi : X.N[i]? = some n := by rfl) (hL : Loc X.env.scope n := by first | exact Or.inl rfl | exact Or.inr rfl) (hs : swapsWith e (some (.Name n p2)) pos.line X.env = pure false := by rfl) (hf : X.fn n = true ∨ X.env.scope.names.lookup n = some .local := by first | exact .inl rfl | exact .inr rfl | assumption) :
    SX X W (.Assign [.Name n p2] e pos :: rest) env po :=
  sx_cons (fun e' => ∃ r, Rp r ∧ e' = env.set i (.dat r)) (s1_of (ps_set hN hi hL (mE X e) hs hf) fun O fp σ H S D G => he O fp σ H S _ (fun r v H1 hr e1 r1 => G.nx _ fp _ H1 ⟨r, hr, rfl⟩ (Keep.ex e1) ((S.ex e1).set i r1)) fun x cls d H1 hx1 e1 xa => G.ex x env fp σ cls d H1 (hx x hx1) (Keep.ex e1) (S.ex e1) xa) fun e' ⟨r, hr, q⟩ => by subst q; exact h r hr
theorem sx_retX {Rp : α → Prop} {Xp : Exn → Prop} {po : Po α} (he : EXX X W e env Rp Xp) (h : ∀ r, Rp r → po.R r env) (hx : ∀ x, Xp x → po.X x env) : SX X W [.Return (some e) pos] env po :=
  sx_of (pss_one (ps_ret (mE X e))) fun O fp σ H S D G => he O fp σ H S _ (fun r v H1 hr e1 r1 => G.rt r env fp σ v H1 (h r hr) (Keep.ex e1) (S.ex e1) r1) fun x cls d H1 hx1 e1 xa => G.ex x env fp σ cls d H1 (hx x hx1) (Keep.ex e1) (S.ex e1) xa
theorem sx_exprX {Rp : α → Prop} {Xp : Exn → Prop} (he : EXX X W e env Rp Xp) (h : ∀ r, Rp r → SX X W rest env po) (hx : ∀ x, Xp x → po.X x env) (hs : swapsWith e none pos.line X.env = pure false := by rfl) : SX X W (.Expr e pos :: rest) env po :=
  sx_cons (fun e' => (∃ r, Rp r) ∧ e' = env) (s1_of (ps_expr (mE X e) hs) fun O fp σ H S D G => he O fp σ H S _ (fun r v H1 hr e1 r1 => G.nx env fp σ H1 ⟨⟨r, hr⟩, rfl⟩ (Keep.ex e1) (S.ex e1)) fun x cls d H1 hx1 e1 xa => G.ex x env fp σ cls d H1 (hx x hx1) (Keep.ex e1) (S.ex e1) xa) fun e' ⟨⟨r, hr⟩, q⟩ => by subst q; exact h r hr
/-- what the text's own error classes are, without fields -/
structure ErrC (K : PySem.W.Frag) (mg : Str → Option Value) (n : Str) : Prop where
  ex : ∃ C, mg n = some (.ref C) ∧ PySem.W.excIn K C [.type "ValueError", .type "Exception", .type "BaseException", .type "object"] "ValueError.__new__" = true ∧ PySem.W.keepIn K (.ref C) = true ∧ PySem.W.subIn K (.ref C) (.type "BaseException") = some true ∧ PySem.W.typeIn K (.ref C) = some (.type "type")
/-- raise C('..') -/
theorem sx_raise {n : Str} {m : Str} {j : Nat} {p0 : Pos} (hc : X.calm = true) (tk : Takes X W) (T : ErrC X.K X.mg n) (h : po.X (.one n) env) (hg : Gl X n := by rfl) (hdb : (n == ("__debug__" : Str)) = false := by decide) : SX X W (.Raise (some (.Call (.Name n p) [.Constant (.str m) j p2] [] p0)) none pos :: rest) env po := by
  obtain ⟨C, gC, xC, kC, bC, tC⟩ := T.ex
  exact sx_cons (fun _ => False) (s1_of (ps_raise hc tk (pmk_own PySem.F.excBase_ValueError xC gC kC (raises_own bC tC) hg hdb)) fun O fp σ H S D G => G.ex (.one n) env fp σ (.ref C) none H h Keep.refl S ⟨gC, rfl⟩) fun _ z => z.elim
/-! ### built-ins -/
theorem ex_callB {id : String} {n : Str} {r : List V → Hp → VK → Prop} {xs : List Sl} (hc : CallR X (.builtin id) r) (hm : X.mg n = none) (hv : bootBuiltins n = some (.builtin id)) (ha : EA X (e :: es) env xs) (hr : RC X.K r xs z) (hg : Gl X n := by rfl) (hn : n ≠ "__name__" := by decide) (hdb : (n == ("__debug__" : Str)) = false := by decide)
    (he : starEach (e :: es) X.env = (false, eval e X.env) :: starEach es X.env := by exact star_plain rfl _ _) (hpl : (backTo pos (starEach es X.env)).any (·.1) = false := by exact star_pl rfl) : EX X (.Call (.Name n p) (e :: es) [] pos) env z :=
  ex_of (pe_callB hc hg hm hv (mA X _) hn hdb he hpl) fun O fp σ H S Q q => ha O fp σ H S _ fun vs H1 e1 r1 => hr (UU O fp) vs H1 (S.ex e1).bndU r1 Q fun v H2 e2 r2 => q v H2 (e1.trans e2) r2
theorem ex_callTy {id : String} {n : Str} {r : List V → Hp → VK → Prop} {xs : List Sl} (hc : CallR X (.type id) r) (hm : X.mg n = none) (hv : bootBuiltins n = some (.type id)) (ha : EA X (e :: es) env xs) (hr : RC X.K r xs z) (hg : Gl X n := by rfl) (hn : n ≠ "__name__" := by decide) (hdb : (n == ("__debug__" : Str)) = false := by decide)
    (he : starEach (e :: es) X.env = (false, eval e X.env) :: starEach es X.env := by exact star_plain rfl _ _) (hpl : (backTo pos (starEach es X.env)).any (·.1) = false := by exact star_pl rfl) : EX X (.Call (.Name n p) (e :: es) [] pos) env z :=
  ex_of (pe_callTy hc hg hm hv (mA X _) hn hdb he hpl) fun O fp σ H S Q q => ha O fp σ H S _ fun vs H1 e1 r1 => hr (UU O fp) vs H1 (S.ex e1).bndU r1 Q fun v H2 e2 r2 => q v H2 (e1.trans e2) r2
theorem rc1 {K : PySem.W.Frag} {r : List V → Hp → VK → Prop} (h : ∀ (U : Addr → Prop) (v : V) (H : Hp), (∀ a, U a → ∃ o, H a = some o) → Dat.rep K (wo H U) v x → ∀ Q : VK, (∀ v H', Ex H H' → Dat.rep K (wo H' U) v z → Q v H') → r [v] H Q) : RC K r [.dat x] z := fun U vs H bn ar Q q => by
  match vs, ar with
  | [v], ⟨h1, _⟩ => exact h U v H bn h1 Q q
theorem rc2 {K : PySem.W.Frag} {r : List V → Hp → VK → Prop} (h : ∀ (U : Addr → Prop) (v u : V) (H : Hp), (∀ a, U a → ∃ o, H a = some o) → Dat.rep K (wo H U) v x → Dat.rep K (wo H U) u y → ∀ Q : VK, (∀ v H', Ex H H' → Dat.rep K (wo H' U) v z → Q v H') → r [v, u] H Q) : RC K r [.dat x, .dat y] z := fun U vs H bn ar Q q => by
  match vs, ar with
  | [v, u], ⟨h1, h2, _⟩ => exact h U v u H bn h1 h2 Q q
theorem ea1 (h : EX X e env x) (hs : starEach [e] X.env = (false, eval e X.env) :: starEach [] X.env := by exact star_plain rfl _ _) : EA X [e] env [.dat x] := ea_cons h ea_nil hs
def absI (i : Int) : Int := if i < 0 then -i else i
theorem ex_abs {i : Int} (hm : X.mg "abs" = none) (h : EX X a env i) (he : starEach [a] X.env = (false, eval a X.env) :: starEach [] X.env := by exact star_plain rfl _ _) (hpl : (backTo pos (starEach [] X.env)).any (·.1) = false := by exact star_pl rfl) (hg : Gl X "abs" := by rfl) : EX X (.Call (.Name "abs" p) [a] [] pos) env (absI i) :=
  ex_callB call_abs hm (by decide +kernel) (ea1 h he) (rc1 fun U v H bn r Q q => ⟨i, by rw [show v = .int i from r], q _ H (Ex.refl H) rfl⟩) hg (by decide) (by decide) he hpl
theorem ex_len {xs : List α} (hm : X.mg "len" = none) (h : EX X a env xs) (he : starEach [a] X.env = (false, eval a X.env) :: starEach [] X.env := by exact star_plain rfl _ _) (hpl : (backTo pos (starEach [] X.env)).any (·.1) = false := by exact star_pl rfl) (hg : Gl X "len" := by rfl) : EX X (.Call (.Name "len" p) [a] [] pos) env (xs.length : Int) :=
  ex_callB call_len_seq hm PySem.boot_len (ea1 h he) (rc1 fun U v H bn r Q q => by
    obtain ⟨ad, vs, e, l, rl⟩ := r
    exact ⟨ad, vs, by rw [e], .inl (wo_le.lst l), q _ H (Ex.refl H) (show V.int _ = V.int _ by rw [Paired.length rl])⟩) hg (by decide) (by decide) he hpl
theorem ex_lenT {τ : Type} [Dat τ] [T : Tup τ] {t : τ} {n : Int} (hm : X.mg "len" = none) (h : EX X a env t) (hn : ((T.comps t).length : Int) = n := by rfl) (he : starEach [a] X.env = (false, eval a X.env) :: starEach [] X.env := by exact star_plain rfl _ _) (hpl : (backTo pos (starEach [] X.env)).any (·.1) = false := by exact star_pl rfl) (hg : Gl X "len" := by rfl) : EX X (.Call (.Name "len" p) [a] [] pos) env n :=
  ex_callB call_len_seq hm PySem.boot_len (ea1 h he) (rc1 fun U v H bn r Q q => by
    rw [T.is] at r
    obtain ⟨ad, vs, e, l, rl⟩ := r
    exact ⟨ad, vs, by rw [e], .inr (wo_le.tup l), q _ H (Ex.refl H) (show V.int _ = V.int _ by rw [rl.length, hn])⟩) hg (by decide) (by decide) he hpl
theorem repL.get {K : PySem.W.Frag} {H : Hp} : ∀ {vs : List V} {xs : List α} {i : Nat} {x : α}, repL K H vs xs → xs[i]? = some x → ∃ v, vs[i]? = some v ∧ Dat.rep K H v x
  | _, _, i, x, .nil, q => by simp at q
  | _ :: _, y :: _, 0, x, .cons r t, q => by
    have q : y = x := by simpa using q
    subst q
    exact ⟨_, rfl, r⟩
  | _, _, i + 1, x, .cons r t, q => by
    have := repL.get (i := i) (x := x) t (by simpa using q)
    simpa using this
/-- xs[i] of a list, i from 0 on -/
theorem ex_ixL {xs : List α} {i : Int} (h : EX X a env xs) (hb : EX X b env i) (g : 0 ≤ i ∧ xs[i.toNat]? = some x) (hs : PlainIx b := by exact fun _ _ => rfl) : EX X (.Subscript a b pos) env x := ex_of (pe_ix ix_list (mE X a) (mE X _) hs) (ev_op h hb fun U v1 v2 H _ r1 r2 Q q => by
  obtain ⟨p, vs, e, t, r⟩ := r1
  obtain ⟨v, hv, rv⟩ := r.get g.2
  exact ⟨p, vs, i, v, e, r2, wo_le.lst t, by rw [← Int.toNat_of_nonneg g.1]; exact atI_nat hv, q _ H (Ex.refl H) rv⟩)
end
end R
set_option maxHeartbeats 2000000
set_option autoImplicit false
namespace R
open PySem PySem.Spec PyProof.Rows L2
/-! ### results of defs that may raise -/
def outP {ρ : Type} (Rp : ρ → Prop) (Xp : Exn → Prop) : Except Exn ρ → Prop
  | .ok r => Rp r
  | .error e => Xp e
theorem outP_self {ρ : Type} {o : Except Exn ρ} : outP (fun r => o = .ok r) (fun e => o = .error e) o := by cases o <;> rfl
theorem bind_ok {ρ σ : Type} {Rp : ρ → Prop} {Xp : Exn → Prop} {o : Except Exn σ} {x : σ} {k : σ → Except Exn ρ} (h : o = .ok x) (q : outP Rp Xp (o.bind k)) : outP Rp Xp (k x) := by subst h; exact q
theorem bind_err {ρ σ : Type} {Rp : ρ → Prop} {Xp : Exn → Prop} {o : Except Exn σ} {x : Exn} {k : σ → Except Exn ρ} (h : o = .error x) (q : outP Rp Xp (o.bind k)) : Xp x := by subst h; exact q
theorem cond_t {α : Type} {P : α → Prop} {c : Bool} {x y : α} (h : c = true) (q : P (cond c x y)) : P x := by subst h; exact q
theorem cond_f {α : Type} {P : α → Prop} {c : Bool} {x y : α} (h : c = false) (q : P (cond c x y)) : P y := by subst h; exact q
/-! ### what is walked -/
/-- from H1 on: at turn i the item xs[i], then it stops -/
def Yields {α : Type} [Dat α] (K : PySem.W.Frag) (J : It) (U : Addr → Prop) (H1 : Hp) (xs : List α) : Prop :=
  ∀ H' U', (∀ a, U' a → ∃ o, H' a = some o) → Ex (wo H1 U) (wo H' U') → ∀ i, (∀ x, xs[i]? = some x → J.go i H' ∧ ∀ v H'', J.yld i H' v H'' → Ex H' H'' ∧ Dat.rep K (wo H'' U') v x) ∧ (xs.length ≤ i → J.stop i H')
/-- the greatest reading of an iterable -/
@[irreducible] def tI (X : Cx) (tg iter : Expr) : TI := fun σ H R => ∀ pins s, Inv X pins σ H s → wpAny (model X.prog X.w) X.A (eval iter X.env) (fun v s1 => wpAny (model X.prog X.w) X.A (pyIter v) (PIE X pins σ tg R) X.xe s1) X.xe s
theorem tI_of {X : Cx} {tg iter : Expr} {σ : L2.St} {H : Hp} {R : It → Hp → Prop} (h : ∀ pins s, Inv X pins σ H s → wpAny (model X.prog X.w) X.A (eval iter X.env) (fun v s1 => wpAny (model X.prog X.w) X.A (pyIter v) (PIE X pins σ tg R) X.xe s1) X.xe s) : tI X tg iter σ H R := by unfold tI; exact h
theorem tI_run {X : Cx} {tg iter : Expr} {σ : L2.St} {H : Hp} {R : It → Hp → Prop} (h : tI X tg iter σ H R) : ∀ pins s, Inv X pins σ H s → wpAny (model X.prog X.w) X.A (eval iter X.env) (fun v s1 => wpAny (model X.prog X.w) X.A (pyIter v) (PIE X pins σ tg R) X.xe s1) X.xe s := by unfold tI at h; exact h
theorem mI (X : Cx) (tg iter : Expr) : PI X tg iter (tI X tg iter) := ⟨fun pins s _ _ _ I h => tI_run h pins s I⟩
def IX {α : Type} [Dat α] (X : Cx) (tg iter : Expr) (env : Env') (xs : List α) : Prop :=
  ∀ O fp σ H, SOk X.K O fp env σ H → ∀ R : It → Hp → Prop, (∀ J H1, Ex H H1 → Yields X.K J (UU O fp) H1 xs → R J H1) → tI X tg iter σ H R
section
variable {X : Cx} {W : WX} {env env' : Env'} {ρ α β γ : Type} [Res ρ] [Dat α] [Dat β] [Dat γ] {po : Po ρ} {x : α} {y : β} {z : γ} {e a b c tg iter : Expr} {es : List Expr} {pos p p2 : Pos} {rest body : List Stmt} {xs : List α}
theorem ix_of {wi : TI} (p : PI X tg iter wi) (h : ∀ O fp σ H, SOk X.K O fp env σ H → ∀ R : It → Hp → Prop, (∀ J H1, Ex H H1 → Yields X.K J (UU O fp) H1 xs → R J H1) → wi σ H R) : IX X tg iter env xs := fun O fp σ H S R r => tI_of fun pins s I => p.run pins s σ H R I (h O fp σ H S R r)
/-- a list that stands still -/
theorem ix_list (h : EX X iter env xs) : IX X tg iter env xs := ix_of (pi_list (mE X iter)) fun O fp σ H S R r => h O fp σ H S _ fun v H1 e1 rp => by
  obtain ⟨ad, vs, e, l, rl⟩ := rp
  refine ⟨ad, e, ⟨vs, wo_le.lst l⟩, r _ H1 e1 fun H' U' bn ex i => ⟨fun x hx => ?_, fun hi => ?_⟩⟩
  · obtain ⟨v, hv, rv⟩ := rl.get hx
    have l' : SqL X.K H' ad vs := wo_le.lst (ex.le.lst l)
    refine ⟨⟨vs, v, l', hv⟩, fun u H'' ⟨q1, q2⟩ => ?_⟩
    subst q1
    have := q2 vs l'
    rw [hv] at this
    cases this
    exact ⟨Ex.refl _, Dat.mono ex.le rv⟩
  · exact ⟨vs, wo_le.lst (ex.le.lst l), by rw [Paired.length rl]; exact hi⟩
/-- range(n) -/
def rangeI (n : Int) : List Int := (List.range n.toNat).map Int.ofNat
def rangeAB (a b : Int) : List Int := (List.range (b - a).toNat).map fun (k : Nat) => a + (k : Int)
theorem yields_range {K : PySem.W.Frag} {U : Addr → Prop} {H1 : Hp} (lo : Int) (n : Nat) : Yields K (Itr lo n) U H1 ((List.range n).map fun (k : Nat) => lo + (k : Int)) := fun H' U' bn ex i => by
  refine ⟨fun x hx => ?_, fun hi => (by simpa using hi : n ≤ i)⟩
  rw [List.getElem?_map] at hx
  by_cases hi : i < n
  · rw [List.getElem?_range hi] at hx
    have hx : lo + (i : Int) = x := by simpa using hx
    exact ⟨hi, fun v H'' ⟨q1, q2⟩ => by subst q1 q2 hx; exact ⟨Ex.refl _, rfl⟩⟩
  · rw [List.getElem?_eq_none (by simpa using hi)] at hx
    cases hx
theorem rangeI_eq (n : Int) : rangeI n = (List.range n.toNat).map fun (k : Nat) => (0 : Int) + (k : Int) := by
  unfold rangeI
  refine List.map_congr_left fun k _ => ?_
  simp
theorem ix_range1 {n : Int} (hm : X.mg "range" = none) (h : EX X a env n) (hn : -(2 ^ 62) ≤ n ∧ n < 2 ^ 62) (hg : Gl X "range" := by rfl) (hs : starEach [a] X.env = [(false, eval a X.env)] := by exact star_plain rfl _ _) : IX X tg (.Call (.Name "range" p) [a] [] pos) env (rangeI n) :=
  ix_of (pi_range1 hg hm (mA X _) hs) fun O fp σ H S R r => ea1 h hs O fp σ H S _ fun vs H1 e1 ar => by
    match vs, ar with
    | [v], ⟨h1, _⟩ =>
      have h1 : v = .int n := h1
      subst h1
      refine ⟨n, rfl, hn.1, hn.2, r _ H1 e1 ?_⟩
      rw [rangeI_eq]
      exact yields_range 0 n.toNat
theorem ix_range2 {n m : Int} (hm : X.mg "range" = none) (h : EX X a env n) (h' : EX X b env m) (hn : -(2 ^ 62) ≤ n ∧ n < 2 ^ 62 ∧ -(2 ^ 62) ≤ m ∧ m < 2 ^ 62) (hg : Gl X "range" := by rfl) (hs : starEach [a, b] X.env = [(false, eval a X.env), (false, eval b X.env)] := by rfl) (hs2 : starEach [b] X.env = [(false, eval b X.env)] := by exact star_plain rfl _ _) : IX X tg (.Call (.Name "range" p) [a, b] [] pos) env (rangeAB n m) :=
  ix_of (pi_range2 hg hm (mA X _) hs hs2) fun O fp σ H S R r => ea_cons h (ea_cons h' ea_nil hs2) (by rw [hs, hs2]) O fp σ H S _ fun vs H1 e1 ar => by
    match vs, ar with
    | [v, u], ⟨h1, h2, _⟩ =>
      have h1 : v = .int n := h1
      have h2 : u = .int m := h2
      subst h1 h2
      exact ⟨n, m, rfl, hn, r _ H1 e1 (yields_range n (m - n).toNat)⟩
/-! ### for -/
def okFold {S τ : Type} (okb : S → τ → Prop) (step : S → τ → S) : S → List τ → Prop
  | _, [] => True
  | s, x :: xs => okb s x ∧ okFold okb step (step s x) xs
theorem drop_cons {τ : Type} {xs : List τ} {i : Nat} {x : τ} {r : List τ} (h : xs.drop i = x :: r) : xs[i]? = some x ∧ xs.drop (i + 1) = r ∧ i < xs.length := by
  have hi : i < xs.length := by
    by_cases q : i < xs.length
    · exact q
    · rw [List.drop_eq_nil_of_le (by omega)] at h; cases h
  rw [List.drop_eq_getElem_cons hi] at h
  injection h with h1 h2
  exact ⟨by rw [List.getElem?_eq_getElem hi, h1], h2, hi⟩
/-- the heart of the for rule, at one state -/
theorem for_core {S : Type} (u : S → Env') (I : List α → S → Prop) (M : Env' → Prop) (s0 : S) {O : Addr → Prop} {fp : Nat → List Addr} {σ : L2.St} {H : Hp} {D : Ends} (S' : SOk X.K O fp env σ H) (hi : ∀ R : It → Hp → Prop, (∀ J H1, Ex H H1 → Yields X.K J (UU O fp) H1 xs → R J H1) → tI X tg iter σ H R) (h0 : Sub env (u s0)) (hI : I xs s0)
    (hb : ∀ x r s, I (x :: r) s → ∃ e1, GX X tg x (u s) e1 ∧ SX X W body e1 { po with N := fun e => ∃ s', Sub e (u s') ∧ I r s', C := fun e => ∃ s', Sub e (u s') ∧ I r s', B := M })
    (G : Goes X.K X.mg W { po with N := fun e => M e ∨ ∃ s, Sub e (u s) ∧ I [] s } O fp H D) : tFor (tI X tg iter) (tG X tg) (tSs X body) D σ H := by
    refine hi _ fun J H1 e1 yl => ?_
    refine ⟨fun i m σ' H' => ∃ s fp', m = xs.length - i ∧ i ≤ xs.length ∧ I (xs.drop i) s ∧ Keep fp H1 fp' H' ∧ SOk X.K O fp' (u s) σ' H', ⟨xs.length, s0, fp, by simp, Nat.zero_le _, hI, Keep.refl, (S'.ex e1).sub h0⟩, ?_⟩
    rintro i m σ1 H2 ⟨s, fp1, rfl, hle, Is, k1, S1⟩
    obtain ⟨y1, y2⟩ := yl H2 (UU O fp1) S1.bndU k1.frz i
    cases hr : xs.drop i with
    | nil =>
      have : xs.length ≤ i := by
        have := congrArg List.length hr
        simp at this
        omega
      rw [hr] at Is
      exact .inl ⟨y2 this, G.nx (u s) fp1 σ1 H2 (.inr ⟨s, Sub.refl _, Is⟩) ((Keep.ex e1).trans k1) S1⟩
    | cons x r =>
      obtain ⟨gx, gr, gl⟩ := drop_cons hr
      obtain ⟨go, yy⟩ := y1 x gx
      rw [hr] at Is
      obtain ⟨en, hg, hbd⟩ := hb x r s Is
      refine .inr ⟨go, fun σ' H' => ∃ s' fp', I r s' ∧ Keep fp H1 fp' H' ∧ SOk X.K O fp' (u s') σ' H', fun σ' H' ⟨s', fp', a, b, c⟩ => ⟨xs.length - (i + 1), by omega, s', fp', rfl, gl, by rw [gr]; exact a, b, c⟩, fun v H3 yv => ?_⟩
      obtain ⟨e3, rv⟩ := yy v H3 yv
      refine hg O fp1 σ1 H3 v (S1.ex e3) rv _ fun σ4 S4 => ?_
      have kk : Keep fp H1 fp1 H3 := k1.trans (Keep.ex e3)
      have kh : Keep fp H fp1 H3 := (Keep.ex e1).trans kk
      exact hbd O fp1 σ4 H3 S4 _ ⟨fun e f s2 h ⟨s', sb, a⟩ q S' => ⟨s', f, a, kk.trans q, S'.sub sb⟩, fun r e f s2 v h p q => G.rt r e f s2 v h p (kh.trans q), fun x e f s2 c d h p q => G.ex x e f s2 c d h p (kh.trans q), fun e f s2 h p q S' => G.nx e f s2 h (.inl p) (kh.trans q) S', fun e f s2 h ⟨s', sb, a⟩ q S' => ⟨s', f, a, kk.trans q, S'.sub sb⟩⟩
/-- the for rule: I of what is still to come and the state -/
theorem sx_for {S : Type} (u : S → Env') (I : List α → S → Prop) (M : Env' → Prop) (s0 : S) (hc : X.calm = true) (hp : PassesOwn (model X.prog X.w) X.A X.env X.xe) (hi : IX X tg iter env xs) (h0 : Sub env (u s0)) (hI : I xs s0)
    (hb : ∀ x r s, I (x :: r) s → ∃ e1, GX X tg x (u s) e1 ∧ SX X W body e1 { po with N := fun e => ∃ s', Sub e (u s') ∧ I r s', C := fun e => ∃ s', Sub e (u s') ∧ I r s', B := M })
    (hd : ∀ s, I [] s → SX X W rest (u s) po) (hM : ∀ e, M e → SX X W rest e po) (hs : ∀ x, foldedSetIterable iter X.env x = pure x := by intro _; rfl) : SX X W (.For tg iter body [] pos :: rest) env po :=
  sx_cons (fun e => M e ∨ ∃ s, Sub e (u s) ∧ I [] s) (s1_of (ps_for hp hc (mI X tg iter) (mG X tg) (mSs X body) hs) fun O fp σ H S' D G => for_core u I M s0 S' (hi O fp σ H S') h0 hI hb G) fun e h => by
  rcases h with h | ⟨s, h, q⟩
  · exact hM e h
  · exact sx_sub h (hd s q)
/-- a loop that runs through: a fold -/
theorem sx_forF {S : Type} (u : S → Env') (step : S → α → S) (okb : S → α → Prop) (s0 : S) (hc : X.calm = true) (hp : PassesOwn (model X.prog X.w) X.A X.env X.xe) (hi : IX X tg iter env xs) (h0 : Sub env (u s0)) (hk : okFold okb step s0 xs)
    (hb : ∀ x s, okb s x → ∃ e1, GX X tg x (u s) e1 ∧ SX X W body e1 { po with N := fun e => Sub e (u (step s x)), C := fun e => Sub e (u (step s x)), B := fun _ => False })
    (hd : SX X W rest (u (xs.foldl step s0)) po) (hs : ∀ x, foldedSetIterable iter X.env x = pure x := by intro _; rfl) : SX X W (.For tg iter body [] pos :: rest) env po :=
  sx_for u (fun r s => okFold okb step s r ∧ r.foldl step s = xs.foldl step s0) (fun _ => False) s0 hc hp hi h0 ⟨hk, rfl⟩ (fun x r s ⟨⟨h1, h2⟩, h3⟩ => by
    obtain ⟨e1, g, b⟩ := hb x s h1
    exact ⟨e1, g, b.imp (fun e h => ⟨step s x, h, h2, h3⟩) (fun _ _ h => h) (fun _ _ h => h) (fun _ h => h) (fun e h => ⟨step s x, h, h2, h3⟩)⟩) (fun s ⟨_, h⟩ => by
    have h : s = xs.foldl step s0 := h
    subst h
    exact hd) (fun _ h => h.elim) hs
/-- a turn's end -/
inductive Stp (S ρ : Type) where
  | go (s : S)
  | brk (s : S)
  | ret (r : ρ)
def runL {S ρ τ : Type} (step : S → τ → Stp S ρ) : S → List τ → Stp S ρ
  | s, [] => .go s
  | s, x :: xs => match step s x with
    | .go s' => runL step s' xs
    | .brk s' => .brk s'
    | .ret r => .ret r
def okRun {S ρ τ : Type} (okb : S → τ → Prop) (step : S → τ → Stp S ρ) : S → List τ → Prop
  | _, [] => True
  | s, x :: xs => okb s x ∧ match step s x with
    | .go s' => okRun okb step s' xs
    | _ => True
/-- behind a loop -/
def Stp.fin {S ρ τ : Type} (k : S → τ) (h : ρ → τ) : Stp S ρ → τ
  | .go s => k s
  | .brk s => k s
  | .ret r => h r
/-- a loop that may be left: T what a way out is worth, in the def's own result -/
theorem sx_forR {S T : Type} (u : S → Env') (step : S → α → Stp S T) (okb : S → α → Prop) (s0 : S) (hc : X.calm = true) (hp : PassesOwn (model X.prog X.w) X.A X.env X.xe) (hi : IX X tg iter env xs) (h0 : Sub env (u s0)) (hk : okRun okb step s0 xs)
    (hb : ∀ x r s, okb s x → (∃ s1, runL step s1 xs = runL step s1 xs) → (runL step s (x :: r) = runL step s0 xs) → ∃ e1, GX X tg x (u s) e1 ∧ SX X W body e1 { po with N := fun e => ∃ s', step s x = .go s' ∧ Sub e (u s'), C := fun e => ∃ s', step s x = .go s' ∧ Sub e (u s'), B := fun e => ∃ s', step s x = .brk s' ∧ Sub e (u s') })
    (hd : ∀ s, (runL step s0 xs = .go s ∨ runL step s0 xs = .brk s) → SX X W rest (u s) po) (hs : ∀ x, foldedSetIterable iter X.env x = pure x := by intro _; rfl) : SX X W (.For tg iter body [] pos :: rest) env po :=
  sx_for u (fun r s => okRun okb step s r ∧ runL step s r = runL step s0 xs) (fun e => ∃ s, Sub e (u s) ∧ runL step s0 xs = .brk s) s0 hc hp hi h0 ⟨hk, rfl⟩ (fun x r s ⟨⟨h1, h2⟩, h3⟩ => by
    obtain ⟨e1, g, b⟩ := hb x r s h1 ⟨s, rfl⟩ h3
    have go : ∀ e, (∃ s', step s x = .go s' ∧ Sub e (u s')) → ∃ s', Sub e (u s') ∧ okRun okb step s' r ∧ runL step s' r = runL step s0 xs := fun e ⟨s', q, sb⟩ => by
      rw [q] at h2
      have h4 : runL step s (x :: r) = runL step s' r := by
        show (match step s x with | .go s' => runL step s' r | .brk s' => .brk s' | .ret r => .ret r) = _
        rw [q]
      exact ⟨s', sb, h2, h4.symm.trans h3⟩
    refine ⟨e1, g, b.imp go (fun _ _ h => h) (fun _ _ h => h) (fun e ⟨s', q, sb⟩ => ⟨s', sb, ?_⟩) go⟩
    rw [← h3]
    show (match step s x with | .go s' => runL step s' r | .brk s' => .brk s' | .ret r => .ret r) = _
    rw [q]) (fun s ⟨_, h⟩ => hd s (.inl h.symm)) (fun e ⟨s, sb, q⟩ => sx_sub sb (hd s (.inr q))) hs
/-- the same, the slots told as changes of what stands -/
theorem sx_forF' {S : Type} (uu : S → Env' → Env') (step : S → α → S) (okb : S → α → Prop) (s0 : S) (hc : X.calm = true) (hp : PassesOwn (model X.prog X.w) X.A X.env X.xe) (hi : IX X tg iter env xs) (h0 : Sub env (uu s0 env)) (hk : okFold okb step s0 xs)
    (hb : ∀ x s, okb s x → ∃ e1, GX X tg x (uu s env) e1 ∧ SX X W body e1 { po with N := fun e => Sub e (uu (step s x) env), C := fun e => Sub e (uu (step s x) env), B := fun _ => False })
    (hd : SX X W rest (uu (xs.foldl step s0) env) po) (hs : ∀ x, foldedSetIterable iter X.env x = pure x := by intro _; rfl) : SX X W (.For tg iter body [] pos :: rest) env po := sx_forF (fun s => uu s env) step okb s0 hc hp hi h0 hk hb hd hs
theorem sx_forR' {S T : Type} (uu : S → Env' → Env') (step : S → α → Stp S T) (okb : S → α → Prop) (s0 : S) (hc : X.calm = true) (hp : PassesOwn (model X.prog X.w) X.A X.env X.xe) (hi : IX X tg iter env xs) (h0 : Sub env (uu s0 env)) (hk : okRun okb step s0 xs)
    (hb : ∀ x r s, okb s x → (runL step s (x :: r) = runL step s0 xs) → ∃ e1, GX X tg x (uu s env) e1 ∧ SX X W body e1 { po with N := fun e => ∃ s', step s x = .go s' ∧ Sub e (uu s' env), C := fun e => ∃ s', step s x = .go s' ∧ Sub e (uu s' env), B := fun e => ∃ s', step s x = .brk s' ∧ Sub e (uu s' env) })
    (hd : ∀ s, (runL step s0 xs = .go s ∨ runL step s0 xs = .brk s) → SX X W rest (uu s env) po) (hs : ∀ x, foldedSetIterable iter X.env x = pure x := by intro _; rfl) : SX X W (.For tg iter body [] pos :: rest) env po := sx_forR (fun s => uu s env) step okb s0 hc hp hi h0 hk (fun x r s h1 _ h2 => hb x r s h1 h2) hd hs
theorem sx_ifj' {k : Bool} {c : Expr} {thn els : List Stmt} {S : Type} (uu : S → Env' → Env') (p1 p0 : S) (hc : ET X c env k) (h1 : k = true → SX X W thn env { po with N := fun e => Sub e (uu p1 env) }) (h2 : k = false → SX X W els env { po with N := fun e => Sub e (uu p0 env) }) (hr : SX X W rest (uu (cond k p1 p0) env) po) : SX X W (.If c thn els pos :: rest) env po :=
  sx_ifj (fun b => uu (cond b p1 p0) env) hc h1 h2 hr
/-- what the whole loop comes to, where a turn ends it -/
theorem run_ret {S ρ τ : Type} {step : S → τ → Stp S ρ} {s : S} {x : τ} {xs : List τ} {o : Stp S ρ} {r : ρ} (h : runL step s (x :: xs) = o) (q : step s x = .ret r) : o = .ret r := by
  rw [← h]
  show (match step s x with | .go s' => runL step s' xs | .brk s' => .brk s' | .ret r => .ret r) = _
  rw [q]
theorem fin_ret {S ρ τ : Type} {P : τ → Prop} {o : Stp S ρ} {k : S → τ} {h : ρ → τ} {r : ρ} (e : o = .ret r) (q : P (o.fin k h)) : P (h r) := by subst e; exact q
theorem fin_go {S ρ τ : Type} {P : τ → Prop} {o : Stp S ρ} {k : S → τ} {h : ρ → τ} {s : S} (e : o = .go s ∨ o = .brk s) (q : P (o.fin k h)) : P (k s) := by rcases e with e | e <;> (subst e; exact q)
end
end R
set_option maxHeartbeats 2000000
set_option autoImplicit false
namespace R
open PySem PySem.Spec PyProof.Rows L2
/-! ### fractions: a tuple in lowest terms is a rational number -/
instance : Dat Rat := ⟨fun K H v q => repT K H v [.dat q.num, .dat (q.den : Int)], fun e h => h.mono e⟩
instance : Tup Rat := ⟨fun q => [.dat q.num, .dat (q.den : Int)], fun _ _ _ _ => rfl⟩
def IsQ (t b : Int) : Prop := 0 < b ∧ Int.gcd t b = 1
theorem IsQ.num {t b : Int} (h : IsQ t b) : (Rat.divInt t b).num = t := by
  rw [Rat.num_divInt, Int.sign_eq_one_of_pos h.1, Int.one_mul, Int.gcd_comm, h.2]
  simp
theorem IsQ.den {t b : Int} (h : IsQ t b) : ((Rat.divInt t b).den : Int) = b := by
  have := h.1
  rw [Rat.den_divInt, if_neg (by omega), Int.gcd_comm, h.2]
  simp
  omega
section
variable {X : Cx} {W : WX} {env env' : Env'} {ρ α β γ : Type} [Res ρ] [Dat α] [Dat β] [Dat γ] {po : Po ρ} {x : α} {y : β} {z : γ} {e a b c tg iter : Expr} {es : List Expr} {pos p p2 pc : Pos} {rest body : List Stmt} {xs : List α}
theorem ex_rat {q : Rat} {t b : Int} (h : EX X e env (t, b)) (h1 : q.num = t) (h2 : (q.den : Int) = b) : EX X e env q := fun O fp σ H S Q k => h O fp σ H S Q fun v H' e r => k v H' e (by
  subst h1 h2
  exact r)
theorem ex_isQ {t b : Int} (h : EX X e env (t, b)) (g : IsQ t b) : EX X e env (Rat.divInt t b) := ex_rat h g.num g.den
/-! ### isinstance, by the kind of the data -/
class TyN (α : Type) [Dat α] (n : outParam String) : Prop where
  ty : ∀ (K : PySem.W.Frag) (H : Hp) (v : V) (x : α), Dat.rep K H v x → TyX K H v (.type n)
instance : TyN Int "int" := ⟨fun K H v x h => by rw [show v = .int x from h]; exact .base (.int x)⟩
instance : TyN Bool "bool" := ⟨fun K H v x h => by rw [show v = .bl x from h]; exact .base (.bl x)⟩
instance : TyN Str "str" := ⟨fun K H v x h => by rw [show v = .str x from h]; exact .base (.str x)⟩
instance : TyN Unit "NoneType" := ⟨fun K H v x h => by rw [show v = .non from h]; exact .base .non⟩
theorem repT.ty {K : PySem.W.Frag} {H : Hp} {v : V} {cs : List Sl} (h : repT K H v cs) : TyX K H v (.type "tuple") := by
  obtain ⟨a, vs, e, t, _⟩ := h
  subst e
  rcases t with (t | ⟨o, t⟩) | ⟨o, its, n, l, c, _⟩
  · exact .base (.tup t)
  · exact .fTuple t
  · exact .kTuple l c
instance : TyN Rat "tuple" := ⟨fun K H v x h => repT.ty h⟩
instance : TyN (α × β) "tuple" := ⟨fun K H v x h => repT.ty h⟩
instance : TyN (T3 α β γ) "tuple" := ⟨fun K H v x h => repT.ty h⟩
instance {α β γ δ ε : Type} [Dat α] [Dat β] [Dat γ] [Dat δ] [Dat ε] : TyN (T5 α β γ δ ε) "tuple" := ⟨fun K H v x h => repT.ty h⟩
instance {α β γ δ : Type} [Dat α] [Dat β] [Dat γ] [Dat δ] : TyN (T4 α β γ δ) "tuple" := ⟨fun K H v x h => repT.ty h⟩
instance : TyN (List α) "list" := ⟨fun K H v x h => by
  obtain ⟨a, vs, e, t, _⟩ := h
  subst e
  rcases t with (t | ⟨o, t⟩) | ⟨o, its, n, l, c, _⟩
  · exact .base (.lst t)
  · exact .base (.frz t)
  · exact .kList l c⟩
instance : TyN (Dc α) "dict" := ⟨fun K H v x h => by
  obtain ⟨a, vs, e, t, _⟩ := h
  subst e
  rcases t with t | ⟨o, t⟩
  · exact .base (.dK t)
  · exact .fDict t⟩
theorem TyX.mono {K : PySem.W.Frag} {H : Hp} {U : Addr → Prop} {v : V} {n : String} (h : TyX K (wo H U) v (.type n)) : TyX K H v (.type n) := by
  cases h with
  | base h =>
    refine .base ?_
    cases h with
    | non => exact .non
    | bl x => exact .bl x
    | int x => exact .int x
    | str x => exact .str x
    | flt x => exact .flt x
    | lst e => exact .lst (wo_some e).2
    | frz e => exact .frz (wo_some e).2
    | tup e => exact .tup (wo_some e).2
    | dK e => exact .dK (wo_some e).2
    | dT e => exact .dT (wo_some e).2
  | byt b => exact .byt b
  | set e => exact .set (wo_some e).2
  | kList e c => exact .kList e c
  | kTuple e c => exact .kTuple e c
  | kDict e c => exact .kDict e c
  | fTuple e => exact .fTuple (wo_some e).2
  | fDict e => exact .fDict (wo_some e).2
theorem ex_isi {n : String} [TyN α n] {T : Str} {c : String} {k : Bool} (hi : X.mg "isinstance" = none) (hT : X.mg T = none) (h : EX X a env x) (hk : kitB n c = some k) (hv : bootBuiltins T = some (.type c)) (hg : Gl X "isinstance" := by rfl) (hgT : Gl X T := by rfl) (hn : T ≠ "__name__" := by decide) (hd : (T == ("__debug__" : Str)) = false := by decide)
    (he : starEach [a, .Name T pc] X.env = (false, eval a X.env) :: starEach [.Name T pc] X.env := by exact star_plain rfl _ _) (he2 : starEach [.Name T pc] X.env = (false, eval (.Name T pc) X.env) :: starEach [] X.env := by exact star_plain rfl _ _) (hpl : (backTo pos (starEach [.Name T pc] X.env)).any (·.1) = false := by exact star_pl rfl) : EX X (.Call (.Name "isinstance" p) [a, .Name T pc] [] pos) env k :=
  ex_of (pe_callB call_isi hg hi (by decide +kernel) (pa_cons (mE X a) (pa_cons (pe_bltn (v := .ty c) hgT hT hv rfl hn hd) pa_nil he2) he) (by decide) (by decide) he hpl) fun O fp σ H S Q q => h O fp σ H S _ fun v H1 e1 r1 => ⟨v, .ty c, .type n, .type c, k, rfl, .ty c, TyX.mono (TyN.ty _ _ _ _ r1), kit_ty hk, q _ H1 e1 rfl⟩
/-- xs[i] of a list, i from 0 on, told with a default -/
theorem ex_ixD {i : Int} {d : α} (h : EX X a env xs) (hb : EX X b env i) (g : 0 ≤ i ∧ i < (xs.length : Int)) (hs : PlainIx b := by exact fun _ _ => rfl) : EX X (.Subscript a b pos) env (xs.getD (Int.toNat i) d) := ex_ixL h hb ⟨g.1, by
  have : i.toNat < xs.length := by omega
  rw [List.getD_eq_getElem?_getD, List.getElem?_eq_getElem this]
  rfl⟩ hs
/-! ### texts -/
def StrRoom (x y : Str) : Prop := x.length + y.length ≤ 100000
theorem ex_addS {x y : Str} (ha : EX X a env x) (hb : EX X b env y) (h : StrRoom x y) : EX X (.BinOp a .Add b pos) env (x ++ y) := ex_op op_add_str ha hb fun U v1 v2 H _ r1 r2 Q q => ⟨x, y, r1, r2, sz_of h, q _ H (Ex.refl H) rfl⟩
end
/-! ### a promise told otherwise -/
theorem spP.imp {ρ : Type} [Res ρ] {K : PySem.W.Frag} {mg : Str → Option Value} {n : Nat} {Φ Φ' : Phi ρ} (h : ∀ args Rp Xp, Φ' args Rp Xp → Φ args Rp Xp) : ∀ vs H Q E, spP K mg n Φ' vs H Q E → spP K mg n Φ vs H Q E :=
  fun vs H Q E ⟨hl, O, args, Rp, Xp, ph, r⟩ => ⟨hl, O, args, Rp, Xp, h _ _ _ ph, r⟩
theorem DefOk.imp {ρ : Type} [Res ρ] {P : Program} {w : World} {K : PySem.W.Frag} {mg : Str → Option Value} {base : Heap} {n : Str} {k m : Nat} {ps : List Str} {dvs : List V} {Φ Φ' : Phi ρ} (d : DefOk P w K mg base n k ps dvs (spP K mg m Φ)) (h : ∀ args Rp Xp, Φ' args Rp Xp → Φ args Rp Xp) : DefOk P w K mg base n k ps dvs (spP K mg m Φ') := by
  obtain ⟨f, fd, ds, F, r⟩ := d.ex
  exact ⟨f, fd, ds, F.imp (spP.imp h), r⟩
/-! ### numbers: room -/
def gcdI (a b : Int) : Int := (Int.gcd a b : Int)
theorem gcd_turn (x y : Int) : Int.gcd y (x % y) = Int.gcd x y := by
  have h := Int.gcd_mul_left_add_right y (x % y) (x / y)
  rw [Int.mul_ediv_add_emod] at h
  rw [← h, Int.gcd_comm]
theorem absI_nn (i : Int) : 0 ≤ absI i := by unfold absI; split <;> omega
theorem absI_nat (i : Int) : (absI i).natAbs = i.natAbs := by unfold absI; split <;> omega
theorem divInt_num {t b : Int} (h : 0 < b) : (Rat.divInt t b).num = t / gcdI t b := by
  rw [Rat.num_divInt, Int.sign_eq_one_of_pos h, Int.one_mul, Int.gcd_comm]
  rfl
theorem divInt_den {t b : Int} (h : 0 < b) : ((Rat.divInt t b).den : Int) = b / gcdI t b := by
  rw [Rat.den_divInt, if_neg (by omega), Int.gcd_comm]
  unfold gcdI
  rw [Int.natCast_ediv, Int.natAbs_of_nonneg (by omega)]
theorem gcdI_pos {t b : Int} (h : b ≠ 0) : 0 < gcdI t b := by
  have := Int.gcd_pos_of_ne_zero_right t h
  unfold gcdI
  omega
theorem gcdI_le {t b : Int} (h : b ≠ 0) : (gcdI t b).natAbs ≤ b.natAbs := by
  have := Int.gcd_le_natAbs_right t h
  unfold gcdI
  omega
theorem cdiv_gcd {t b x : Int} (h : b ≠ 0) (hb : b.natAbs < 2 ^ 9000) : CDivW x (gcdI t b) := wide_div (gcdI_pos h) (Nat.lt_of_le_of_lt (gcdI_le h) hb) (by decide) (by decide)
theorem gcdI_neg (t b : Int) : gcdI (0 - t) (0 - b) = gcdI t b := by
  unfold gcdI
  rw [show 0 - t = -t by omega, show 0 - b = -b by omega, Int.gcd_neg, Int.neg_gcd]
theorem divInt_neg2 (t b : Int) : Rat.divInt (0 - t) (0 - b) = Rat.divInt t b := by
  rw [show 0 - t = -t by omega, show 0 - b = -b by omega, Rat.neg_divInt_neg]
theorem plus_eq (x y : Rat) : Rat.divInt (x.num * (y.den : Int) + y.num * (x.den : Int)) ((x.den : Int) * (y.den : Int)) = x + y := by
  rw [Rat.add_def', ← Rat.divInt_ofNat]
  simp
theorem minus_eq (x y : Rat) : Rat.divInt (x.num * (y.den : Int) - y.num * (x.den : Int)) ((x.den : Int) * (y.den : Int)) = x - y := by
  rw [Rat.sub_def', ← Rat.divInt_ofNat]
  simp
theorem times_eq (x y : Rat) : Rat.divInt (x.num * y.num) ((x.den : Int) * (y.den : Int)) = x * y := by
  rw [Rat.mul_def', ← Rat.divInt_ofNat]
  simp
theorem under_eq (x y : Rat) : decide (x.num * (y.den : Int) < y.num * (x.den : Int)) = decide (x < y) := by
  rw [decide_eq_decide, Rat.lt_iff]
theorem den_pos (x : Rat) : 0 < (x.den : Int) := by have := x.den_pos; omega
theorem dens_ne (x y : Rat) : (x.den : Int) * (y.den : Int) ≠ 0 := Int.ne_of_gt (Int.mul_pos (den_pos x) (den_pos y))
end R
set_option maxHeartbeats 200000
set_option autoImplicit false
namespace R
open PySem PySem.Spec PyProof.Rows L2
/-! ### options -/
def repO {α : Type} [Dat α] (K : PySem.W.Frag) (H : Hp) (v : V) : Option α → Prop
  | none => v = .non
  | some x => Dat.rep K H v x
instance {α : Type} [Dat α] : Dat (Option α) := ⟨repO, fun {K H H' v x} e h => by
  cases x with
  | none => exact h
  | some x => exact Dat.mono (α := α) e h⟩
instance {α β γ : Type} [Inhabited α] [Inhabited β] [Inhabited γ] : Inhabited (T3 α β γ) := ⟨⟨default, default, default⟩⟩
instance {α β γ δ : Type} [Inhabited α] [Inhabited β] [Inhabited γ] [Inhabited δ] : Inhabited (T4 α β γ δ) := ⟨⟨default, default, default, default⟩⟩
instance {α β γ δ ε : Type} [Inhabited α] [Inhabited β] [Inhabited γ] [Inhabited δ] [Inhabited ε] : Inhabited (T5 α β γ δ ε) := ⟨⟨default, default, default, default, default⟩⟩
instance {α : Type} : Inhabited (Dc α) := ⟨⟨[]⟩⟩
/-! ### data without lists and dicts -/
class NoMut (α : Type) [Dat α] : Prop where
  cut : ∀ (K : PySem.W.Frag) (Hf Hf' : Hp) (v : V) (x : α), (∀ a xs, Rd Hf a (.tup xs) → Rd Hf' a (.tup xs)) → Dat.rep K Hf v x → Dat.rep K Hf' v x
instance : NoMut Int := ⟨fun _ _ _ _ _ _ h => h⟩
instance : NoMut Bool := ⟨fun _ _ _ _ _ _ h => h⟩
instance : NoMut Str := ⟨fun _ _ _ _ _ _ h => h⟩
instance : NoMut Unit := ⟨fun _ _ _ _ _ _ h => h⟩
theorem cut_tup {K : PySem.W.Frag} {Hf Hf' : Hp} {a : Addr} {vs : List V} (h : ∀ a xs, Rd Hf a (.tup xs) → Rd Hf' a (.tup xs)) (t : SqT K Hf a vs) : SqT K Hf' a vs := by
  rcases t with t | t
  · exact .inl (h a vs t)
  · exact .inr t
instance : NoMut Rat := ⟨fun K Hf Hf' v x h r => by
  obtain ⟨a, vs, e, t, ar⟩ := r
  refine ⟨a, vs, e, cut_tup h t, ?_⟩
  match vs, ar with
  | [u, w], ⟨h1, h2, _⟩ => exact ⟨h1, h2, trivial⟩⟩
instance {α β : Type} [Dat α] [Dat β] [NoMut α] [NoMut β] : NoMut (α × β) := ⟨fun K Hf Hf' v x h r => by
  obtain ⟨a, vs, e, t, ar⟩ := r
  refine ⟨a, vs, e, cut_tup h t, ?_⟩
  match vs, ar with
  | [u, w], ⟨h1, h2, _⟩ => exact ⟨NoMut.cut K Hf Hf' _ _ h h1, NoMut.cut K Hf Hf' _ _ h h2, trivial⟩⟩
instance {α : Type} [Dat α] [NoMut α] : NoMut (Option α) := ⟨fun K Hf Hf' v x h r => by
  cases x with
  | none => exact r
  | some x => exact NoMut.cut (α := α) K Hf Hf' v x h r⟩
/-! ### dicts as tables -/
section
variable {α : Type}
def lookD (kvs : List (Str × α)) (k : Str) : Option α := (kvs.find? fun p => decide (p.1 = k)).map (·.2)
def putD (kvs : List (Str × α)) (k : Str) (x : α) : List (Str × α) := if (kvs.any fun p => decide (p.1 = k)) = true then kvs.map (fun p => if p.1 = k then (p.1, x) else p) else kvs ++ [(k, x)]
def dropD (kvs : List (Str × α)) (k : Str) : List (Str × α) := kvs.filter fun p => decide (p.1 ≠ k)
def Dc.look (d : Dc α) (k : Str) : Option α := lookD d.kvs k
def Dc.has (d : Dc α) (k : Str) : Bool := (lookD d.kvs k).isSome
def Dc.put (d : Dc α) (k : Str) (x : α) : Dc α := ⟨putD d.kvs k x⟩
def Dc.drop (d : Dc α) (k : Str) : Dc α := ⟨dropD d.kvs k⟩
variable [Dat α] {K : PySem.W.Frag} {H : Hp}
theorem key_dec (a b : Str) : decide ((Sum.inr a : Key) = Sum.inr b) = decide (a = b) := key_rr a b
theorem repD.look : ∀ {ws : List (Key × V)} {kvs : List (Str × α)}, repD K H ws kvs → ∀ k : Str, (valV ws (.inr k) = none ∧ lookD kvs k = none) ∨ ∃ v x, valV ws (.inr k) = some v ∧ lookD kvs k = some x ∧ Dat.rep K H v x
  | _, _, .nil, k => .inl ⟨rfl, rfl⟩
  | (k1, v) :: ws, (k2, x) :: kvs, .cons h t, k => by
    obtain ⟨h1, h2⟩ := h
    have h1 : k1 = .inr k2 := h1
    subst h1
    have ih := repD.look t k
    unfold valV lookD at *
    rw [List.find?_cons, List.find?_cons]
    by_cases e : k2 = k
    · subst e
      simp
      exact h2
    · have e1 : decide ((Sum.inr k2 : Key) = Sum.inr k) = false := by rw [key_dec]; exact decide_eq_false e
      have e2 : decide (k2 = k) = false := decide_eq_false e
      simp only [e1, e2]
      exact ih
theorem repD.any {ws : List (Key × V)} {kvs : List (Str × α)} (h : repD K H ws kvs) (k : Str) : (ws.any fun p => decide (p.1 = .inr k)) = (kvs.any fun p => decide (p.1 = k)) := by
  unfold repD at h
  induction h with
  | nil => rfl
  | cons h t ih => rw [List.any_cons, List.any_cons, ih, h.1, key_dec]
theorem repD.put {ws : List (Key × V)} {kvs : List (Str × α)} (h : repD K H ws kvs) (k : Str) {v : V} {x : α} (r : Dat.rep K H v x) : repD K H (putK ws (.inr k) v) (putD kvs k x) := by
  unfold putK putD
  rw [h.any k]
  split
  · rename_i hq
    clear hq
    unfold repD at *
    induction h with
    | nil => exact .nil
    | @cons a b _ _ h t ih =>
      rw [List.map_cons, List.map_cons]
      refine .cons ?_ ih
      obtain ⟨h1, h2⟩ := h
      by_cases e : b.1 = k
      · rw [if_pos e, if_pos (by rw [h1, e])]
        exact ⟨h1, r⟩
      · rw [if_neg e, if_neg (by rw [h1]; intro z; exact e (Sum.inr.inj z))]
        exact ⟨h1, h2⟩
  · have : ∀ {ws : List (Key × V)} {kvs : List (Str × α)}, repD K H ws kvs → repD K H (ws ++ [(.inr k, v)]) (kvs ++ [(k, x)]) := by
      intro ws kvs h
      unfold repD at *
      induction h with
      | nil => exact .cons ⟨rfl, r⟩ .nil
      | cons h t ih => exact .cons h ih
    exact this h
theorem repD.drop {ws : List (Key × V)} {kvs : List (Str × α)} (h : repD K H ws kvs) (k : Str) : repD K H (dropK ws (.inr k)) (dropD kvs k) := by
  unfold dropK dropD repD at *
  induction h with
  | nil => exact .nil
  | @cons a b _ _ h t ih =>
    rw [List.filter_cons, List.filter_cons]
    obtain ⟨h1, h2⟩ := h
    by_cases e : b.1 = k
    · have e1 : decide (a.1 ≠ .inr k) = false := decide_eq_false (by rw [h1, e]; simp)
      have e2 : decide (b.1 ≠ k) = false := decide_eq_false (by simp [e])
      simp only [e1, e2]
      exact ih
    · have e1 : decide (a.1 ≠ .inr k) = true := decide_eq_true (by rw [h1]; intro z; exact e (Sum.inr.inj z))
      have e2 : decide (b.1 ≠ k) = true := decide_eq_true e
      simp only [e1, e2]
      exact .cons ⟨h1, h2⟩ ih
theorem putD_length (kvs : List (Str × α)) (k : Str) (x : α) : (putD kvs k x).length ≤ kvs.length + 1 := by
  unfold putD
  split
  · rw [List.length_map]; omega
  · simp
end
/-! ### one's own lists and dicts -/
structure OL (α : Type) where
  l : List α
structure OD (α : Type) where
  d : Dc α
instance {α : Type} [Dat α] : Own (OL α) where
  own K Hf H v L x := ∃ a vs, v = .ref a ∧ L = [a] ∧ H a = some (.lst vs) ∧ repL K Hf vs x.l
  frame := fun e f ⟨a, vs, h1, h2, h3, h4⟩ => ⟨a, vs, h1, h2, by rw [f a (by rw [h2]; exact List.mem_singleton.mpr rfl)]; exact h3, h4.mono e⟩
instance {α : Type} [Dat α] : Own (OD α) where
  own K Hf H v L x := ∃ a ws, v = .ref a ∧ L = [a] ∧ H a = some (.dK ws) ∧ repD K Hf ws x.d.kvs
  frame := fun e f ⟨a, vs, h1, h2, h3, h4⟩ => ⟨a, vs, h1, h2, by rw [f a (by rw [h2]; exact List.mem_singleton.mpr rfl)]; exact h3, h4.mono e⟩
def setF (fp : Nat → List Addr) (i : Nat) (L : List Addr) : Nat → List Addr := fun j => if j = i then L else fp j
theorem wo_upd_in {H : Hp} {U : Addr → Prop} {a : Addr} {o : HO} (h : U a) : wo (upd H a o) U = wo H U := by
  funext b
  by_cases u : U b
  · rw [wo_in u, wo_in u]
  · rw [wo_out u, wo_out u, upd_ne]
    intro e
    subst e
    exact u h
section
variable {K : PySem.W.Frag} {O : Addr → Prop} {fp : Nat → List Addr} {env : Env'} {σ : L2.St} {H H' : Hp}
/-- the object of slot i is changed -/
theorem SOk.mut {β γ : Type} [Own β] [Own γ] (S : SOk K O fp env σ H) {i : Nat} {x : β} {y : γ} {a : Addr} {o : HO} (hi : env[i]? = some (.own x)) (ha : fp i = [a]) (hy : ∀ v, σ[i]? = some (some v) → Own.own K (wo H (UU O fp)) (upd H a o) v [a] y) : SOk K O fp (env.set i (.own y)) σ (upd H a o) where
  len := by rw [List.length_set]; exact S.len
  bnd := fun b h => by
    by_cases e : b = a
    · subst e; exact ⟨o, upd_same⟩
    · rw [upd_ne e]; exact S.bnd b h
  fpO := S.fpO
  sep := S.sep
  dom := fun j b h => by
    by_cases e : b = a
    · subst e; exact ⟨o, upd_same⟩
    · rw [upd_ne e]; exact S.dom j b h
  sl := fun j s q => by
    have hU : UU O fp a := .inr ⟨i, by rw [ha]; exact List.mem_singleton.mpr rfl⟩
    rw [wo_upd_in hU]
    by_cases e : i = j
    · subst e
      have hl : i < env.length := (List.getElem?_eq_some_iff.mp hi).1
      rw [List.getElem?_set_self hl] at q
      cases q
      obtain ⟨v, hv, _⟩ := S.sl i _ hi
      exact ⟨v, hv, by rw [ha]; exact hy v hv⟩
    · rw [List.getElem?_set_ne e] at q
      have r := S.sl j s q
      cases s with
      | any => exact trivial
      | dat x => exact r
      | own x =>
        obtain ⟨v, h1, h2⟩ := r
        refine ⟨v, h1, Own.frame (Le.refl _) (fun b hb => ?_) h2⟩
        rw [upd_ne]
        intro z
        subst z
        exact e (S.sep i j b (by rw [ha]; exact List.mem_singleton.mpr rfl) hb)
theorem Keep.mut {a : Addr} {o : HO} (h : ∃ i, a ∈ fp i) : Keep fp H fp (upd H a o) := ⟨fun b u n q => by
  rw [upd_ne]
  · exact q
  · intro e; subst e; exact n h, fun i b q => .inl ⟨i, q⟩⟩
/-- a new object of one's own comes into slot i -/
theorem SOk.new {β : Type} [Own β] (S : SOk K O fp env σ H) {i : Nat} {x : β} {v : V} {L : List Addr} (e : Ex H H') (hL : ∀ a ∈ L, H a = none) (hd : ∀ a ∈ L, ∃ o, H' a = some o) (hx : ∀ Hf, Le (wo H' (fun a => UU O fp a ∨ a ∈ L)) Hf → Own.own K Hf H' v L x) : SOk K O (setF fp i L) (env.set i (.own x)) (σ.set i (some v)) H' := by
  have hn : ∀ a ∈ L, ¬ UU O fp a := fun a ha => S.fresh (hL a ha)
  have sub : ∀ a, UU O (setF fp i L) a → UU O fp a ∨ a ∈ L := fun a h => by
    rcases h with h | ⟨j, h⟩
    · exact .inl (.inl h)
    · unfold setF at h
      split at h
      · exact .inr h
      · exact .inl (.inr ⟨j, h⟩)
  have le : Le (wo H (UU O fp)) (wo H' (UU O (setF fp i L))) := Ex.le fun a o q => by
    obtain ⟨n, q⟩ := wo_some q
    rw [wo_out fun z => (sub a z).elim n fun m => by rw [hL a m] at q; cases q]
    exact e a o q
  exact {
    len := by rw [List.length_set, List.length_set]; exact S.len
    bnd := fun a h => let ⟨o, q⟩ := S.bnd a h; ⟨o, e a o q⟩
    fpO := fun j a h => by
      unfold setF at h
      split at h
      · exact fun z => hn a h (.inl z)
      · exact S.fpO j a h
    sep := fun j k a h1 h2 => by
      unfold setF at h1 h2
      split at h1 <;> split at h2
      · omega
      · exact absurd (.inr ⟨k, h2⟩) (hn a h1)
      · exact absurd (.inr ⟨j, h1⟩) (hn a h2)
      · exact S.sep j k a h1 h2
    dom := fun j a h => by
      unfold setF at h
      split at h
      · exact hd a h
      · let ⟨o, q⟩ := S.dom j a h
        exact ⟨o, e a o q⟩
    sl := fun j s q => by
      by_cases e' : i = j
      · subst e'
        have hl : i < env.length := by
          have := (List.getElem?_eq_some_iff.mp q).1
          simpa using this
        rw [List.getElem?_set_self hl] at q
        cases q
        refine ⟨v, by rw [List.getElem?_set_self (by rw [S.len]; exact hl)], ?_⟩
        have : setF fp i L i = L := by unfold setF; rw [if_pos rfl]
        rw [this]
        exact hx _ (wo_mono sub).le
      · rw [List.getElem?_set_ne e'] at q
        rw [List.getElem?_set_ne e']
        have r := S.sl j s q
        have ef : setF fp i L j = fp j := by unfold setF; rw [if_neg (fun z => e' z.symm)]
        rw [ef]
        cases s with
        | any => exact trivial
        | dat x =>
          obtain ⟨v, h1, h2⟩ := r
          exact ⟨v, h1, Dat.mono le h2⟩
        | own x =>
          obtain ⟨v, h1, h2⟩ := r
          refine ⟨v, h1, Own.frame le (fun a ha => ?_) h2⟩
          obtain ⟨o, q⟩ := S.dom j a ha
          rw [q, e a o q] }
theorem Keep.new {i : Nat} {L : List Addr} (e : Ex H H') (hL : ∀ a ∈ L, H a = none) : Keep fp H (setF fp i L) H' := ⟨fun a o _ h => e a o h, fun j a h => by
  unfold setF at h
  split at h
  · exact .inr (hL a h)
  · exact .inl ⟨j, h⟩⟩
/-- one's own becomes data -/
theorem SOk.frz {β α : Type} [Own β] [Dat α] (S : SOk K O fp env σ H) {i : Nat} {x : β} {y : α} (hi : env[i]? = some (.own x)) (hy : ∀ v Hf, Own.own K Hf H v (fp i) x → (∀ a ∈ fp i, Hf a = H a) → Dat.rep K Hf v y) : SOk K O (setF fp i []) (env.set i (.dat y)) σ H := by
  have sub : ∀ a, UU O (setF fp i []) a → UU O fp a := fun a h => by
    rcases h with h | ⟨j, h⟩
    · exact .inl h
    · unfold setF at h
      split at h
      · cases h
      · exact .inr ⟨j, h⟩
  have le : Le (wo H (UU O fp)) (wo H (UU O (setF fp i []))) := (wo_mono sub).le
  exact {
    len := by rw [List.length_set]; exact S.len
    bnd := S.bnd
    fpO := fun j a h => by
      unfold setF at h
      split at h
      · cases h
      · exact S.fpO j a h
    sep := fun j k a h1 h2 => by
      unfold setF at h1 h2
      split at h1
      · cases h1
      · split at h2
        · cases h2
        · exact S.sep j k a h1 h2
    dom := fun j a h => by
      unfold setF at h
      split at h
      · cases h
      · exact S.dom j a h
    sl := fun j s q => by
      by_cases e : i = j
      · subst e
        have hl : i < env.length := (List.getElem?_eq_some_iff.mp hi).1
        rw [List.getElem?_set_self hl] at q
        cases q
        obtain ⟨v, h1, h2⟩ := S.sl i _ hi
        refine ⟨v, h1, hy v _ (Own.frame le (fun _ _ => rfl) h2) fun a ha => wo_out fun z => ?_⟩
        rcases z with z | ⟨k, z⟩
        · exact S.fpO i a ha z
        · unfold setF at z
          split at z
          · cases z
          · rename_i ne
            exact ne (S.sep k i a z ha)
      · rw [List.getElem?_set_ne e] at q
        have r := S.sl j s q
        have ef : setF fp i [] j = fp j := by unfold setF; rw [if_neg (fun z => e z.symm)]
        rw [ef]
        cases s with
        | any => exact trivial
        | dat x =>
          obtain ⟨v, h1, h2⟩ := r
          exact ⟨v, h1, Dat.mono le h2⟩
        | own x =>
          obtain ⟨v, h1, h2⟩ := r
          exact ⟨v, h1, Own.frame le (fun _ _ => rfl) h2⟩ }
theorem Keep.frz' {i : Nat} : Keep fp H (setF fp i []) H := ⟨fun _ _ _ h => h, fun j a h => by
  unfold setF at h
  split at h
  · cases h
  · exact .inl ⟨j, h⟩⟩
end
theorem own_frzL {α : Type} [Dat α] {K : PySem.W.Frag} {Hf H : Hp} {v : V} {L : List Addr} {xs : List α} (h : Own.own K Hf H v L (OL.mk xs)) (q : ∀ a ∈ L, Hf a = H a) : Dat.rep K Hf v xs := by
  obtain ⟨a, vs, h1, h2, h3, h4⟩ := h
  exact ⟨a, vs, h1, .inl (.inl (by rw [q a (by rw [h2]; exact List.mem_singleton.mpr rfl)]; exact h3)), h4⟩
theorem own_frzD {α : Type} [Dat α] {K : PySem.W.Frag} {Hf H : Hp} {v : V} {L : List Addr} {d : Dc α} (h : Own.own K Hf H v L (OD.mk d)) (q : ∀ a ∈ L, Hf a = H a) : Dat.rep K Hf v d := by
  obtain ⟨a, vs, h1, h2, h3, h4⟩ := h
  exact ⟨a, vs, h1, .inl (by rw [q a (by rw [h2]; exact List.mem_singleton.mpr rfl)]; exact h3), h4⟩
/-- what makes a new object of one's own -/
def EN {β : Type} [Own β] (X : Cx) (e : Expr) (env : Env') (x : β) : Prop :=
  ∀ O fp σ H, SOk X.K O fp env σ H → ∀ Q : VK, (∀ v L H', Ex H H' → (∀ a ∈ L, H a = none) → (∀ a ∈ L, ∃ o, H' a = some o) → (∀ Hf, Le (wo H' (fun a => UU O fp a ∨ a ∈ L)) Hf → Own.own X.K Hf H' v L x) → Q v H') → tE X e σ H Q
section
variable {X : Cx} {W : WX} {env env' : Env'} {ρ α β γ : Type} [Res ρ] [Dat α] [Dat β] [Dat γ] {po : Po ρ} {x : α} {y : β} {z : γ} {e a b c tg iter o : Expr} {es : List Expr} {pos p p2 pc p3 apos cpos : Pos} {rest body : List Stmt} {xs : List α}
theorem sx_new {β : Type} [Own β] {x : β} {i : Nat} {n : Str} (hN : X.N.Nodup) (he : EN X e env x) (h : SX X W rest (env.set i (.own x)) po) (hi : X.N[i]? = some n := by rfl) (hx : Loc X.env.scope n := by first | exact Or.inl rfl | exact Or.inr rfl) (hs : swapsWith e (some (.Name n p2)) pos.line X.env = pure false := by rfl) (hf : X.fn n = true ∨ X.env.scope.names.lookup n = some .local := by first | exact .inl rfl | exact .inr rfl | assumption) :
    SX X W (.Assign [.Name n p2] e pos :: rest) env po :=
  sx_step (ps_set hN hi hx (mE X e) hs hf) (fun O fp σ H S D q => he O fp σ H S _ fun v L H1 e1 hL hd r1 => q (setF fp i L) _ H1 (Keep.new e1 hL) (S.new e1 hL hd r1)) h
theorem en_nil : EN X (.List [] pos) env (OL.mk ([] : List α)) := fun O fp σ H S Q q => tE_of fun pins s I => (pe_lst pa_nil).run pins s σ H Q I ⟨Nat.zero_le _, fun p hp => q (.ref p) [p] _ (Ex.new hp) (fun a ha => by rw [List.mem_singleton.mp ha]; exact hp) (fun a ha => by rw [List.mem_singleton.mp ha]; exact ⟨_, upd_same⟩) fun Hf _ => ⟨p, [], rfl, rfl, upd_same, .nil⟩⟩
theorem en_dnew : EN X (.Dict [] [] pos) env (OD.mk (⟨[]⟩ : Dc α)) := fun O fp σ H S Q q => tE_of fun pins s I => pe_dnewK.run pins s σ H Q I fun p hp => q (.ref p) [p] _ (Ex.new hp) (fun a ha => by rw [List.mem_singleton.mp ha]; exact hp) (fun a ha => by rw [List.mem_singleton.mp ha]; exact ⟨_, upd_same⟩) fun Hf _ => ⟨p, [], rfl, rfl, upd_same, .nil⟩
theorem sx_frzL {i : Nat} (hi : env[i]? = some (.own (OL.mk xs))) (h : SX X W rest (env.set i (.dat xs)) po) : SX X W rest env po := fun O fp σ H S D G => h O (setF fp i []) σ H (S.frz hi fun v Hf r q => own_frzL r q) D (G.step Keep.frz')
theorem sx_frzD {i : Nat} {d : Dc α} (hi : env[i]? = some (.own (OD.mk d))) (h : SX X W rest (env.set i (.dat d)) po) : SX X W rest env po := fun O fp σ H S D G => h O (setF fp i []) σ H (S.frz hi fun v Hf r q => own_frzD r q) D (G.step Keep.frz')
/-- one's own is read as data, where the answer has no lists -/
theorem ex_thawL [NoMut γ] {i : Nat} (hi : env[i]? = some (.own (OL.mk xs))) (h : EX X e (env.set i (.dat xs)) z) : EX X e env z := fun O fp σ H S Q q => h O (setF fp i []) σ H (S.frz hi fun v Hf r q => own_frzL r q) Q fun v H' e1 r => q v H' e1 (by
  obtain ⟨v0, _, ow⟩ := S.sl i _ hi
  obtain ⟨a, vs, _, hL, hl, _⟩ := ow
  refine NoMut.cut X.K _ _ v z (fun b ys t => ?_) r
  have hb : ¬ UU O fp b → Rd (wo H' (UU O fp)) b (.tup ys) := fun n => by
    rcases t with t | ⟨o, t⟩
    · exact .inl (by rw [wo_out n]; exact (wo_some t).2)
    · exact .inr ⟨o, by rw [wo_out n]; exact (wo_some t).2⟩
  refine hb fun u => ?_
  have nb : b ≠ a := fun z => by
    subst z
    have := e1 b _ hl
    rcases t with t | ⟨o, t⟩ <;> (rw [(wo_some t).2] at this; cases this)
  have : UU O (setF fp i []) b := by
    rcases u with u | ⟨j, u⟩
    · exact .inl u
    · refine .inr ⟨j, ?_⟩
      unfold setF
      split
      · rename_i ej
        subst ej
        rw [hL] at u
        exact absurd (List.mem_singleton.mp u) nb
      · exact u
  rcases t with t | ⟨o, t⟩ <;> exact (wo_some t).1 this)
theorem ex_thawD [NoMut γ] {i : Nat} {d : Dc α} (hi : env[i]? = some (.own (OD.mk d))) (h : EX X e (env.set i (.dat d)) z) : EX X e env z := fun O fp σ H S Q q => h O (setF fp i []) σ H (S.frz hi fun v Hf r q => own_frzD r q) Q fun v H' e1 r => q v H' e1 (by
  obtain ⟨v0, _, ow⟩ := S.sl i _ hi
  obtain ⟨a, vs, _, hL, hl, _⟩ := ow
  refine NoMut.cut X.K _ _ v z (fun b ys t => ?_) r
  have hb : ¬ UU O fp b → Rd (wo H' (UU O fp)) b (.tup ys) := fun n => by
    rcases t with t | ⟨o, t⟩
    · exact .inl (by rw [wo_out n]; exact (wo_some t).2)
    · exact .inr ⟨o, by rw [wo_out n]; exact (wo_some t).2⟩
  refine hb fun u => ?_
  have nb : b ≠ a := fun z => by
    subst z
    have := e1 b _ hl
    rcases t with t | ⟨o, t⟩ <;> (rw [(wo_some t).2] at this; cases this)
  have : UU O (setF fp i []) b := by
    rcases u with u | ⟨j, u⟩
    · exact .inl u
    · refine .inr ⟨j, ?_⟩
      unfold setF
      split
      · rename_i ej
        subst ej
        rw [hL] at u
        exact absurd (List.mem_singleton.mp u) nb
      · exact u
  rcases t with t | ⟨o, t⟩ <;> exact (wo_some t).1 this)
theorem et_thawL {k : Bool} {i : Nat} (hi : env[i]? = some (.own (OL.mk xs))) (h : ET X e (env.set i (.dat xs)) k) : ET X e env k := fun O fp σ H S Q q => h O (setF fp i []) σ H (S.frz hi fun v Hf r q => own_frzL r q) Q q
theorem et_thawD {k : Bool} {i : Nat} {d : Dc α} (hi : env[i]? = some (.own (OD.mk d))) (h : ET X e (env.set i (.dat d)) k) : ET X e env k := fun O fp σ H S Q q => h O (setF fp i []) σ H (S.frz hi fun v Hf r q => own_frzD r q) Q q
/-- the slot of one's own object: its address and what stands there -/
theorem SOk.ol {O : Addr → Prop} {fp : Nat → List Addr} {σ : L2.St} {H : Hp} {i : Nat} (S : SOk X.K O fp env σ H) (hi : env[i]? = some (.own (OL.mk xs))) : ∃ ad vs, σ[i]? = some (some (.ref ad)) ∧ fp i = [ad] ∧ H ad = some (.lst vs) ∧ repL X.K (wo H (UU O fp)) vs xs := by
  obtain ⟨v, h1, ad, vs, h2, h3, h4, h5⟩ := S.sl i _ hi
  subst h2
  exact ⟨ad, vs, h1, h3, h4, h5⟩
theorem SOk.od {O : Addr → Prop} {fp : Nat → List Addr} {σ : L2.St} {H : Hp} {i : Nat} {d : Dc α} (S : SOk X.K O fp env σ H) (hi : env[i]? = some (.own (OD.mk d))) : ∃ ad ws, σ[i]? = some (some (.ref ad)) ∧ fp i = [ad] ∧ H ad = some (.dK ws) ∧ repD X.K (wo H (UU O fp)) ws d.kvs := by
  obtain ⟨v, h1, ad, vs, h2, h3, h4, h5⟩ := S.sl i _ hi
  subst h2
  exact ⟨ad, vs, h1, h3, h4, h5⟩
theorem Paired.app {α β : Type} {F : α → β → Prop} {xs : List α} {ys : List β} {x : α} {y : β} (h : Paired F xs ys) (r : F x y) : Paired F (xs ++ [x]) (ys ++ [y]) := by
  induction h with
  | nil => exact .cons r .nil
  | cons h t ih => exact .cons h ih
/-- l.append(e): the statement's own derivation is handed in -/
theorem sx_app {i : Nat} {st : Stmt} (ps : PS X st (tDrop (tBM X.K "list" rAppend (tVar i) (tCons (tE X e) tNil)))) (hi : env[i]? = some (.own (OL.mk xs))) (he : EX X e env x) (hz : xs.length < 100000) (h : SX X W rest (env.set i (.own (OL.mk (xs ++ [x])))) po) : SX X W (st :: rest) env po :=
  sx_step ps (fun O fp σ H S D q => by
    obtain ⟨ad, vs, h1, h2, h3, h4⟩ := S.ol hi
    refine ⟨.ref ad, h1, .inl ⟨rfl, vs, .inl (.inl h3)⟩, he O fp σ H S _ fun v H1 e1 r1 => ⟨ad, vs, v, rfl, rfl, e1 ad _ h3, ?_, ?_⟩⟩
    · rw [Paired.length h4]
      exact Nat.lt_of_lt_of_le hz (by decide)
    · have S1 := S.ex e1
      refine q fp σ _ ((Keep.ex e1).trans (Keep.mut ⟨i, by rw [h2]; exact List.mem_singleton.mpr rfl⟩)) (S1.mut hi h2 fun v' hv' => ?_)
      rw [h1] at hv'
      cases hv'
      exact ⟨ad, vs ++ [v], rfl, rfl, upd_same, Paired.app (h4.mono (wo_ex e1).le) r1⟩) h
/-- d[k] = e -/
theorem sx_dput {i : Nat} {st : Stmt} {d : Dc α} {k : Str} (ps : PS X st (sDPut (tVar i) (tE X a) (tE X e))) (hi : env[i]? = some (.own (OD.mk d))) (he : EX X e env x) (hk : EX X a env k) (hz : d.kvs.length < 100000) (h : SX X W rest (env.set i (.own (OD.mk (d.put k x)))) po) : SX X W (st :: rest) env po :=
  sx_step ps (fun O fp σ H S D q => he O fp σ H S _ fun v H1 e1 r1 => by
    have S1 := S.ex e1
    obtain ⟨ad, ws, h1, h2, h3, h4⟩ := S1.od hi
    refine ⟨.ref ad, h1, hk O fp σ H1 S1 _ fun u H2 e2 r2 => ?_⟩
    have S2 := S1.ex e2
    have r2 : u = .str k := r2
    subst r2
    refine ⟨ad, _, rfl, DPut.k (k := .inr k) (e2 ad _ h3) ?_, ?_⟩
    · rw [Paired.length h4]
      exact Nat.lt_of_lt_of_le hz (by decide)
    · refine q fp σ _ ((Keep.ex (e1.trans e2)).trans (Keep.mut ⟨i, by rw [h2]; exact List.mem_singleton.mpr rfl⟩)) (S2.mut hi h2 fun v' hv' => ?_)
      rw [h1] at hv'
      cases hv'
      exact ⟨ad, _, rfl, rfl, upd_same, (h4.mono (wo_ex e2).le).put k (Dat.mono (wo_ex e2).le r1)⟩) h
/-! ### dicts read -/
theorem ev_path {O : Addr → Prop} {fp : Nat → List Addr} {σ : L2.St} {H : Hp} (S : SOk X.K O fp env σ H) : True := trivial
/-- d[k] -/
theorem ex_dget {d : Dc α} {k : Str} (hu : X.A.units + 1 < cLine) (ho : EX X o env d) (hk : EX X a env k) (g : d.look k = some x) (hs : NoSl a := by exact fun _ _ => rfl) : EX X (.Subscript o a pos) env x :=
  ex_of (pe_dget hu (mE X o) (mE X a) hs) fun O fp σ H S Q q => ho O fp σ H S _ fun v1 H1 e1 r1 => hk O fp σ H1 (S.ex e1) _ fun v2 H2 e2 r2 => by
    obtain ⟨ad, ws, h1, h2, h3⟩ := Dat.mono (wo_ex e2).le r1
    have r2 : v2 = .str k := r2
    subst h1 r2
    rcases h3.look k with ⟨_, n⟩ | ⟨v, x', hv, hx, rx⟩
    · unfold Dc.look at g; rw [n] at g; cases g
    · unfold Dc.look at g
      rw [g] at hx
      cases hx
      exact ⟨ad, v, rfl, .inl ⟨ws, .inr k, wo_le _ _ trivial h2, rfl, hv.symm⟩, q v H2 (e1.trans e2) rx⟩
theorem ex_dgetD {d : Dc α} {k : Str} {x0 : α} (hu : X.A.units + 1 < cLine) (ho : EX X o env d) (hk : EX X a env k) (g : (d.look k).isSome = true) (hs : NoSl a := by exact fun _ _ => rfl) : EX X (.Subscript o a pos) env ((d.look k).getD x0) := ex_dget hu ho hk (by
  cases h : d.look k with
  | none => rw [h] at g; cases g
  | some y => rfl) hs
/-- d.get(k, e) -/
theorem ex_dget2 {d : Dc α} {k : Str} (hu : X.A.units + 1 < cLine) (ho : EX X o env d) (hk : EX X a env k) (he : EX X e env x) (m : M2 X o "get" apos a e cpos) : EX X (.Call (.Attribute o "get" apos) [a, e] [] cpos) env ((d.look k).getD x) :=
  ex_of (pe_dget2 hu (mE X o) (mE X a) (mE X e) m) fun O fp σ H S Q q => ho O fp σ H S _ fun v1 H1 e1 r1 => by
    obtain ⟨ad, ws, h1, h2, h3⟩ := r1
    subst h1
    refine ⟨ad, rfl, .inl ⟨ws, wo_le _ _ trivial h2⟩, hk O fp σ H1 (S.ex e1) _ fun v2 H2 e2 r2 => he O fp σ H2 ((S.ex e1).ex e2) _ fun v3 H3 e3 r3 => ?_⟩
    have r2 : v2 = .str k := r2
    subst r2
    have e23 := e2.trans e3
    have h2' := (wo_ex (U := UU O fp) e23).le _ _ (show Pl (.dK ws) from trivial) h2
    have h3' := h3.mono (wo_ex (U := UU O fp) e23).le
    refine ⟨valV ws (.inr k), .inl ⟨ws, .inr k, wo_le _ _ trivial h2', rfl, rfl⟩, q _ H3 ((e1.trans e2).trans e3) ?_⟩
    rcases h3'.look k with ⟨n1, n2⟩ | ⟨v, x', hv, hx, rx⟩
    · unfold Dc.look; rw [n1, n2]; exact r3
    · unfold Dc.look; rw [hv, hx]; exact rx
theorem ex_din {d : Dc α} {k : Str} (hu : X.A.units + 1 < cLine) (hk : EX X a env k) (ho : EX X o env d) (hm : behindInMarks .In o = false := by rfl) : EX X (.Compare a [.In] [o] pos) env (d.has k) :=
  ex_of (pe_cmp (pc_din hu (mE X a) (mE X o)) hm) fun O fp σ H S Q q => hk O fp σ H S _ fun v2 H1 e1 r2 => ho O fp σ H1 (S.ex e1) _ fun v1 H2 e2 r1 => by
    obtain ⟨ad, ws, h1, h2, h3⟩ := r1
    have r2 : v2 = .str k := r2
    subst h1 r2
    refine ⟨ad, valV ws (.inr k), rfl, .inl ⟨ws, .inr k, wo_le _ _ trivial h2, rfl, rfl⟩, q _ H2 (e1.trans e2) ?_⟩
    show V.bl _ = V.bl _
    unfold Dc.has
    rcases h3.look k with ⟨n1, n2⟩ | ⟨v, x', hv, hx, rx⟩
    · rw [n1, n2]; rfl
    · rw [hv, hx]; rfl
theorem ex_dnotin {d : Dc α} {k : Str} (hu : X.A.units + 1 < cLine) (hk : EX X a env k) (ho : EX X o env d) (hm : behindInMarks .NotIn o = false := by rfl) : EX X (.Compare a [.NotIn] [o] pos) env (!d.has k) :=
  ex_of (pe_cmp (pc_dnotin hu (mE X a) (mE X o)) hm) fun O fp σ H S Q q => hk O fp σ H S _ fun v2 H1 e1 r2 => ho O fp σ H1 (S.ex e1) _ fun v1 H2 e2 r1 => by
    obtain ⟨ad, ws, h1, h2, h3⟩ := r1
    have r2 : v2 = .str k := r2
    subst h1 r2
    refine ⟨ad, valV ws (.inr k), rfl, .inl ⟨ws, .inr k, wo_le _ _ trivial h2, rfl, rfl⟩, q _ H2 (e1.trans e2) ?_⟩
    show V.bl _ = V.bl _
    unfold Dc.has
    rcases h3.look k with ⟨n1, n2⟩ | ⟨v, x', hv, hx, rx⟩
    · rw [n1, n2]; rfl
    · rw [hv, hx]; rfl
theorem call_lenD' : CallR X (.builtin "len") (fun xs H Q => ∃ a kvs, xs = [V.ref a] ∧ Rd H a (.dK kvs) ∧ Q (.int kvs.length) H) := by
  intro pins s σ H xs us Q I r h
  obtain ⟨a, kvs, rfl, ha, q⟩ := h
  obtain ⟨u, rfl, ru⟩ := vals1 r
  cases ru
  exact d_len I ha fun t s' I' => ⟨.int kvs.length, H, I', ⟨t, rfl⟩, q⟩
theorem ex_lenD {d : Dc α} (hm : X.mg "len" = none) (h : EX X a env d) (he : starEach [a] X.env = (false, eval a X.env) :: starEach [] X.env := by exact star_plain rfl _ _) (hpl : (backTo pos (starEach [] X.env)).any (·.1) = false := by exact star_pl rfl) (hg : Gl X "len" := by rfl) : EX X (.Call (.Name "len" p) [a] [] pos) env (d.kvs.length : Int) :=
  ex_callB call_lenD' hm PySem.boot_len (ea1 h he) (rc1 fun U v H bn r Q q => by
    obtain ⟨ad, ws, e, l, rl⟩ := r
    exact ⟨ad, ws, by rw [e], wo_le _ _ trivial l, q _ H (Ex.refl H) (show V.int _ = V.int _ by rw [Paired.length rl])⟩) hg (by decide) (by decide) he hpl
/-- a call of a built-in class that makes something new -/
theorem en_callTy {β : Type} [Own β] {y : β} {id : String} {n : Str} {r : List V → Hp → VK → Prop} {ys : List Sl} (hc : CallR X (.type id) r) (hm : X.mg n = none) (hv : bootBuiltins n = some (.type id)) (ha : EA X (e :: es) env ys)
    (hr : ∀ (U : Addr → Prop) (vs : List V) (H : Hp), (∀ a, U a → ∃ o, H a = some o) → ARep X.K (wo H U) vs ys → ∀ Q : VK, (∀ v L H', Ex H H' → (∀ a ∈ L, H a = none) → (∀ a ∈ L, ∃ o, H' a = some o) → (∀ Hf, Le (wo H' (fun a => U a ∨ a ∈ L)) Hf → Own.own X.K Hf H' v L y) → Q v H') → r vs H Q)
    (hg : Gl X n) (hn : n ≠ "__name__") (hdb : (n == ("__debug__" : Str)) = false) (he : starEach (e :: es) X.env = (false, eval e X.env) :: starEach es X.env) (hpl : (backTo pos (starEach es X.env)).any (·.1) = false) : EN X (.Call (.Name n p) (e :: es) [] pos) env y := by
  intro O fp σ H S Q q
  refine tE_of fun pins s I => ?_
  refine (pe_callTy hc hg hm hv (mA X _) hn hdb he hpl).run pins s σ H Q I ?_
  refine ha O fp σ H S _ fun vs H1 e1 ar => ?_
  exact hr (UU O fp) vs H1 (S.ex e1).bndU ar Q fun v L H' e2 hL hd ow => q v L H' (e1.trans e2) (fun b hb => e1.free (hL b hb)) hd ow
theorem en_callTy1 {β : Type} [Own β] {y : β} {id : String} {n : Str} {r : List V → Hp → VK → Prop} (hc : CallR X (.type id) r) (hm : X.mg n = none) (hv : bootBuiltins n = some (.type id)) (ha : EX X e env x)
    (hr : ∀ (U : Addr → Prop) (v : V) (H : Hp), Dat.rep X.K (wo H U) v x → ∀ Q : VK, (∀ v L H', Ex H H' → (∀ a ∈ L, H a = none) → (∀ a ∈ L, ∃ o, H' a = some o) → (∀ Hf, Le (wo H' (fun a => U a ∨ a ∈ L)) Hf → Own.own X.K Hf H' v L y) → Q v H') → r [v] H Q)
    (hg : Gl X n) (hn : n ≠ "__name__") (hdb : (n == ("__debug__" : Str)) = false) (he : starEach [e] X.env = (false, eval e X.env) :: starEach [] X.env) (hpl : (backTo pos (starEach [] X.env)).any (·.1) = false) : EN X (.Call (.Name n p) [e] [] pos) env y :=
  en_callTy hc hm hv (ea1 ha he) (fun U vs H bn ar Q q => by
    match vs, ar with
    | [v], ⟨r1, _⟩ => exact hr U v H r1 Q q) hg hn hdb he hpl
theorem le_new {H : Hp} {U : Addr → Prop} {u : Addr} {ob : HO} (hu : H u = none) : Le (wo H U) (wo (upd H u ob) (fun a => U a ∨ a ∈ [u])) := Ex.le fun b o hb => by
  obtain ⟨n, hb⟩ := wo_some hb
  have nb : b ≠ u := ne_of_none hb hu
  rw [wo_out fun z => z.elim n fun m => nb (List.mem_singleton.mp m), upd_ne nb]
  exact hb
/-- dict(d), one's own copy; as data -/
theorem en_dictD {d : Dc α} (hm : X.mg "dict" = none) (h : EX X a env d) (he : starEach [a] X.env = (false, eval a X.env) :: starEach [] X.env := by exact star_plain rfl _ _) (hpl : (backTo pos (starEach [] X.env)).any (·.1) = false := by exact star_pl rfl) (hg : Gl X "dict" := by rfl) : EN X (.Call (.Name "dict" p) [a] [] pos) env (OD.mk d) :=
  en_callTy1 call_dictD hm (by decide +kernel) h (fun U v H r1 Q q => by
      obtain ⟨ad, ws, h1, h2, h3⟩ := r1
      refine ⟨ad, ws, by rw [h1], wo_le _ _ trivial h2, fun u hu => ?_⟩
      exact q (.ref u) [u] _ (Ex.new hu) (fun b hb => by rw [List.mem_singleton.mp hb]; exact hu) (fun b hb => by rw [List.mem_singleton.mp hb]; exact ⟨_, upd_same⟩) fun Hf le => ⟨u, ws, rfl, rfl, upd_same, h3.mono (Le.trans (le_new hu) le)⟩) hg (by decide) (by decide) he hpl
theorem ex_new {β : Type} [Own β] {x : β} (h : EN X e env x) (hf : ∀ K Hf H v L, Own.own K Hf H v L x → (∀ a ∈ L, Hf a = H a) → Dat.rep K Hf v y) : EX X e env y := fun O fp σ H S Q q => h O fp σ H S Q fun v L H' e1 hL hd ow => q v H' e1 (hf _ _ H' v L (ow _ (wo_mono fun a z => .inl z).le) fun a ha => wo_out fun z => by
  obtain ⟨o, q⟩ := S.bndU a z
  rw [hL a ha] at q
  cases q)
theorem ex_newL (h : EN X e env (OL.mk xs)) : EX X e env xs := ex_new h fun _ _ _ _ _ => own_frzL
theorem ex_newD {d : Dc α} (h : EN X e env (OD.mk d)) : EX X e env d := ex_new h fun _ _ _ _ _ => own_frzD
theorem ARep.all {K : PySem.W.Frag} {H : Hp} : ∀ {vs : List V} {ys : List α}, ARep K H vs (ys.map Sl.dat) → repL K H vs ys
  | [], [], _ => .nil
  | _ :: _, _ :: _, h => .cons h.1 (ARep.all h.2)
  | [], _ :: _, h => by simp [ARep] at h
  | _ :: _, [], h => by simp [ARep] at h
/-- [a, b, ..] -/
theorem en_lst (h : EA X es env (xs.map Sl.dat)) (hl : xs.length ≤ 100000 := by exact Nat.le_of_ble_eq_true rfl) : EN X (.List es pos) env (OL.mk xs) := by
  intro O fp σ H S Q q
  refine tE_of fun pins s I => ?_
  refine (pe_lst (mA X es)).run pins s σ H Q I ?_
  refine h O fp σ H S _ fun vs H1 e1 ar => ?_
  have rl := ARep.all ar
  refine ⟨sz_of (by rw [Paired.length rl]; exact hl), fun u hu => ?_⟩
  exact q (.ref u) [u] _ (e1.trans (Ex.new hu)) (fun b hb => by rw [List.mem_singleton.mp hb]; exact e1.free hu) (fun b hb => by rw [List.mem_singleton.mp hb]; exact ⟨_, upd_same⟩) fun Hf le => ⟨u, vs, rfl, rfl, upd_same, rl.mono (Le.trans (le_new hu) le)⟩
theorem ex_lst (h : EA X es env (xs.map Sl.dat)) (hl : xs.length ≤ 100000 := by exact Nat.le_of_ble_eq_true rfl) : EX X (.List es pos) env xs := ex_newL (en_lst h hl)
/-- list(xs) -/
theorem en_list (hm : X.mg "list" = none) (h : EX X a env xs) (he : starEach [a] X.env = (false, eval a X.env) :: starEach [] X.env := by exact star_plain rfl _ _) (hpl : (backTo pos (starEach [] X.env)).any (·.1) = false := by exact star_pl rfl) (hg : Gl X "list" := by rfl) : EN X (.Call (.Name "list" p) [a] [] pos) env (OL.mk xs) :=
  en_callTy1 call_list_of hm (by decide +kernel) h (fun U v H r1 Q q => by
      obtain ⟨ad, ws, h1, h2, h3⟩ := r1
      refine ⟨ad, ws, by rw [h1], .inl (wo_le.lst h2), fun u hu => ?_⟩
      exact q (.ref u) [u] _ (Ex.new hu) (fun b hb => by rw [List.mem_singleton.mp hb]; exact hu) (fun b hb => by rw [List.mem_singleton.mp hb]; exact ⟨_, upd_same⟩) fun Hf le => ⟨u, ws, rfl, rfl, upd_same, h3.mono (Le.trans (le_new hu) le)⟩) hg (by decide) (by decide) he hpl
theorem ex_some (h : EX X e env x) : EX X e env (some x) := fun O fp σ H S Q q => h O fp σ H S Q fun v H' e1 r => q v H' e1 r
theorem ex_noneO (h : EX X e env ()) : EX X e env (none : Option α) := fun O fp σ H S Q q => h O fp σ H S Q fun v H' e1 r => q v H' e1 r
theorem ex_getO {m : Option α} {x0 : α} (h : EX X e env m) (g : m.isSome = true) : EX X e env (m.getD x0) := fun O fp σ H S Q q => h O fp σ H S Q fun v H' e1 r => q v H' e1 (by
  cases m with
  | none => cases g
  | some y => exact r)
end
end R
set_option maxHeartbeats 400000
set_option autoImplicit false
namespace R
open PySem PySem.Spec PyProof.Rows L2
/-! ### paths: expressions that lead to a thing that is there -/
def EPth {α : Type} [Dat α] (X : Cx) (e : Expr) (env : Env') (x : α) : Prop :=
  ∀ O fp σ H, SOk X.K O fp env σ H → ∃ v, Dat.rep X.K (wo H (UU O fp)) v x ∧ ∀ H1, Le H H1 → ∀ Q : VK, Q v H1 → tE X e σ H1 Q
section
variable {K : PySem.W.Frag} {O : Addr → Prop} {fp fp' : Nat → List Addr} {env : Env'} {σ : L2.St} {H H' : Hp}
theorem SOk.conv (S : SOk K O fp env σ H) (h1 : Le (wo H (UU O fp)) (wo H' (UU O fp))) (h2 : ∀ i a, a ∈ fp i → H' a = H a) (h3 : ∀ a o, H a = some o → ∃ o', H' a = some o') : SOk K O fp env σ H' where
  len := S.len
  bnd := fun a h => let ⟨o, q⟩ := S.bnd a h; h3 a o q
  fpO := S.fpO
  sep := S.sep
  dom := fun i a h => let ⟨o, q⟩ := S.dom i a h; h3 a o q
  sl := fun i s q => by
    have r := S.sl i s q
    cases s with
    | any => exact trivial
    | dat x =>
      obtain ⟨v, a, b⟩ := r
      exact ⟨v, a, Dat.mono h1 b⟩
    | own x =>
      obtain ⟨v, a, b⟩ := r
      exact ⟨v, a, Own.frame h1 (fun c hc => h2 i c hc) b⟩
theorem lock_le {a : Addr} {ws : List (Key × V)} {od : Obj} (h : H a = some (.dK ws)) : Le H (upd H a (.frz od (.dK ws))) := fun b w pl r => by
  by_cases e : b = a
  · subst e
    rcases r with r | ⟨o, r⟩
    · rw [h] at r; cases r; exact .inr ⟨od, upd_same⟩
    · rw [h] at r; cases r
  · rcases r with r | ⟨o, r⟩
    · exact .inl (by rw [upd_ne e]; exact r)
    · exact .inr ⟨o, by rw [upd_ne e]; exact r⟩
theorem unlock_le {a : Addr} {ws : List (Key × V)} {od : Obj} (h : H a = some (.frz od (.dK ws))) : Le H (upd H a (.dK ws)) := fun b w pl r => by
  by_cases e : b = a
  · subst e
    rcases r with r | ⟨o, r⟩
    · rw [h] at r; cases r; exact pl.elim
    · rw [h] at r; cases r; exact .inl upd_same
  · rcases r with r | ⟨o, r⟩
    · exact .inl (by rw [upd_ne e]; exact r)
    · exact .inr ⟨o, by rw [upd_ne e]; exact r⟩
theorem wo_upd_out {U : Addr → Prop} {a : Addr} {o : HO} (h : ¬ U a) : wo (upd H a o) U = upd (wo H U) a o := by
  funext b
  by_cases e : b = a
  · subst e; rw [upd_same, wo_out h, upd_same]
  · rw [upd_ne e]
    by_cases u : U b
    · rw [wo_in u, wo_in u]
    · rw [wo_out u, wo_out u, upd_ne e]
theorem SOk.lock (S : SOk K O fp env σ H) {a : Addr} {ws : List (Key × V)} {od : Obj} (h : wo H (UU O fp) a = some (.dK ws)) : SOk K O fp env σ (upd H a (.frz od (.dK ws))) := by
  obtain ⟨n, h'⟩ := wo_some h
  refine S.conv ?_ (fun i b hb => upd_ne fun e => n (.inr ⟨i, by rw [← e]; exact hb⟩)) fun b o q => ?_
  · rw [wo_upd_out n]; exact lock_le h
  · by_cases e : b = a
    · subst e; exact ⟨_, upd_same⟩
    · exact ⟨o, by rw [upd_ne e]; exact q⟩
theorem SOk.unlock (S : SOk K O fp env σ H) {a : Addr} {ws : List (Key × V)} {od : Obj} (h : H a = some (.frz od (.dK ws))) (n : ¬ UU O fp a) : SOk K O fp env σ (upd H a (.dK ws)) := by
  refine S.conv ?_ (fun i b hb => upd_ne fun e => n (.inr ⟨i, by rw [← e]; exact hb⟩)) fun b o q => ?_
  · rw [wo_upd_out n]; exact unlock_le (by rw [wo_out n]; exact h)
  · by_cases e : b = a
    · subst e; exact ⟨_, upd_same⟩
    · exact ⟨o, by rw [upd_ne e]; exact q⟩
end
section
variable {X : Cx} {W : WX} {env env' : Env'} {ρ α β γ : Type} [Res ρ] [Dat α] [Dat β] [Dat γ] {po : Po ρ} {x : α} {y : β} {z : γ} {e a b c tg iter o : Expr} {es : List Expr} {pos p p2 pc p3 apos cpos : Pos} {rest body : List Stmt} {xs : List α}
theorem ep_var {i : Nat} {n : Str} {pos : Pos} (h : env[i]? = some (Sl.dat x)) (hN : X.N[i]? = some n := by rfl) (hv : Vis X.env.scope n := by first | exact Or.inl rfl | exact Or.inr (Or.inl rfl) | exact Or.inr (Or.inr rfl)) (hd : (n == ("__debug__" : Str)) = false := by decide) (hc : (n == ("__classdict__" : Str)) = false := by decide) : EPth X (.Name n pos) env x := fun O fp σ H S => by
  obtain ⟨v, h1, h2⟩ := S.sl i _ h
  exact ⟨v, h2, fun H1 le Q q => tE_of fun pins s I => (pe_var hN hv hd hc).run pins s σ H1 Q I ⟨v, h1, q⟩⟩
theorem ep_ixT {τ : Type} [Dat τ] [T : Tup τ] {p : τ} {k j : Nat} {pos' : Pos} (h : EPth X a env p) (g : (T.comps p)[k]? = some (.dat x)) : EPth X (.Subscript a (.Constant (.int (k : Int)) j pos') pos) env x := fun O fp σ H S => by
  obtain ⟨v, h1, h2⟩ := h O fp σ H S
  rw [T.is] at h1
  obtain ⟨ad, vs, e, t, r⟩ := h1
  obtain ⟨u, hu, ru⟩ := r.get g
  refine ⟨u, ru, fun H1 le Q q => tE_of fun pins s I => (pe_ix ix_tup (mE X a) pe_int (fun _ _ => rfl)).run pins s σ H1 Q I ?_⟩
  exact h2 H1 le _ ⟨ad, vs, k, u, e, rfl, le.tup (wo_le.tup t), atI_nat hu, q⟩
/-- a loop over what a dict has: J its turns, xs what they give -/
theorem sx_forD {S : Type} {δ : Type} [Dat δ] {d : Dc δ} (u : S → Env') (I : List α → S → Prop) (s0 : S) (J : Addr → Obj → List (Key × V) → It) (wi : TI) (hc : X.calm = true) (hp : PassesOwn (model X.prog X.w) X.A X.env X.xe) (hPI : PI X tg iter wi)
    (hw : ∀ σ H1 ad od ws (R : It → Hp → Prop), H1 ad = some (.frz od (.dK ws)) → (∀ Q : VK, Q (.ref ad) H1 → tE X e σ H1 Q) → R (J ad od ws) H1 → wi σ H1 R)
    (hy : ∀ U H1 ad od ws, wo H1 U ad = some (.frz od (.dK ws)) → repD X.K (wo H1 U) ws d.kvs → Yields X.K (J ad od ws) U H1 xs)
    (he : EPth X e env d) (h0 : Sub env (u s0)) (hI : I xs s0)
    (hb : ∀ x r s, I (x :: r) s → ∃ e1, GX X tg x (u s) e1 ∧ SX X W body e1 { po with N := fun e => ∃ s', Sub e (u s') ∧ I r s', C := fun e => ∃ s', Sub e (u s') ∧ I r s', B := fun e => ∃ s', Sub e (u s') ∧ I [] s', X := fun _ _ => False })
    (hd : ∀ s, I [] s → SX X W rest (u s) po) (hs : ∀ x, foldedSetIterable iter X.env x = pure x := by intro _; rfl) : SX X W (.For tg iter body [] pos :: rest) env po :=
  sx_cons (fun e => ∃ s, Sub e (u s) ∧ I [] s) (fun O fp σ H S' D G => by
    refine tS_of fun pins s In => ?_
    obtain ⟨v, ⟨ad, ws, rfl, rd, rl⟩, hpth⟩ := he O fp σ H S'
    have key : ∀ (H1 : Hp) (od : Obj) (D1 : Ends), Le H H1 → H1 ad = some (.frz od (.dK ws)) → SOk X.K O fp env σ H1 → wo H1 (UU O fp) ad = some (.frz od (.dK ws)) → repD X.K (wo H1 (UU O fp)) ws d.kvs → Goes X.K X.mg W { po with N := fun e => (∃ s, Sub e (u s) ∧ I [] s) ∨ ∃ s, Sub e (u s) ∧ I [] s, X := fun _ _ => False } O fp H1 D1 →
        tFor (tI X tg iter) (tG X tg) (tSs X body) D1 σ H1 := fun H1 od D1 le hl S1 hv hr G1 =>
      for_core (po := { po with X := fun _ _ => False }) u I (fun e => ∃ s, Sub e (u s) ∧ I [] s) s0 S1 (fun R r => tI_of fun pins s In => hPI.run pins s σ H1 R In (hw σ H1 ad od ws R hl (fun Q q => hpth H1 le Q q) (r _ H1 (Ex.refl _) (hy _ H1 ad od ws hv hr)))) h0 hI hb G1
    have pf := ps_for (pos := pos) hp hc (mI X tg iter) (mG X tg) (mSs X body) hs
    rcases rd with rd | ⟨od, rd⟩
    · obtain ⟨n, rd'⟩ := wo_some rd
      refine (ps_lock pf).run pins s σ H D In ⟨ad, .dK ws, rd', trivial, fun od => ?_⟩
      refine key _ od _ (lock_le rd') upd_same (S'.lock rd) (by rw [wo_out n, upd_same]) (rl.mono (by rw [wo_upd_out n]; exact lock_le rd)) ?_
      have nf : ¬ ∃ i, ad ∈ fp i := fun z => n (.inr z)
      have un : ∀ {fp' : Nat → List Addr} {H' : Hp}, Keep fp (upd H ad (.frz od (.dK ws))) fp' H' → H' ad = some (.frz od (.dK ws)) ∧ Keep fp H fp' (upd H' ad (.dK ws)) ∧ ¬ UU O fp' ad := fun {fp' H'} kp => by
        have h1 := kp.1 ad _ nf upd_same
        refine ⟨h1, ⟨fun b o nb q => ?_, fun i b hb => ?_⟩, ?_⟩
        · by_cases e : b = ad
          · subst e; rw [rd'] at q; cases q; exact upd_same
          · rw [upd_ne e]
            exact kp.1 b o nb (by rw [upd_ne e]; exact q)
        · rcases kp.2 i b hb with z | z
          · exact .inl z
          · refine .inr ?_
            have e : b ≠ ad := fun e => by subst e; rw [upd_same] at z; cases z
            rw [upd_ne e] at z
            exact z
        · rintro (z | ⟨i, z⟩)
          · exact n (.inl z)
          · rcases kp.2 i ad z with y | y
            · exact nf y
            · rw [upd_same] at y; cases y
      refine ⟨fun e' f s2 h m k q => ?_, fun r e' f s2 v h m k q rp => ?_, fun _ _ _ _ _ _ _ m => m.elim, fun e' f s2 h m k q => ?_, fun e' f s2 h m k q => ?_⟩
      · obtain ⟨a1, a2, a3⟩ := un k
        exact ⟨a1, G.nx e' f s2 _ (m.elim id id) a2 (q.unlock a1 a3)⟩
      · obtain ⟨a1, a2, a3⟩ := un k
        refine ⟨a1, G.rt r e' f s2 v _ m a2 (q.unlock a1 a3) (Res.mono ?_ (fun b hb => upd_ne fun e => a3 (.inr (e ▸ hb))) rp)⟩
        rw [wo_upd_out a3]
        exact unlock_le (by rw [wo_out a3]; exact a1)
      · obtain ⟨a1, a2, a3⟩ := un k
        exact ⟨a1, G.bk e' f s2 _ m a2 (q.unlock a1 a3)⟩
      · obtain ⟨a1, a2, a3⟩ := un k
        exact ⟨a1, G.ct e' f s2 _ m a2 (q.unlock a1 a3)⟩
    · obtain ⟨n, rd'⟩ := wo_some rd
      refine pf.run pins s σ H D In (key H od D (Le.refl H) rd' S' rd rl ⟨fun e' f s2 h m k q => G.nx e' f s2 h (m.elim id id) k q, G.rt, fun _ _ _ _ _ _ _ m => m.elim, G.bk, G.ct⟩)) fun e ⟨s, h, q⟩ => sx_sub h (hd s q)
theorem repD.get {δ : Type} [Dat δ] {K : PySem.W.Frag} {H : Hp} : ∀ {ws : List (Key × V)} {kvs : List (Str × δ)} {i : Nat} {k : Str} {x : δ}, repD K H ws kvs → kvs[i]? = some (k, x) → ∃ v, ws[i]? = some (.inr k, v) ∧ Dat.rep K H v x
  | _, _, i, k, x, .nil, q => by simp at q
  | (k1, v1) :: _, (k2, x2) :: _, 0, k, x, .cons h t, q => by
    have q : (k2, x2) = (k, x) := by simpa using q
    cases q
    obtain ⟨h1, h2⟩ := h
    have h1 : k1 = .inr k2 := h1
    subst h1
    exact ⟨v1, rfl, h2⟩
  | _, _, i + 1, k, x, .cons h t, q => by
    have := repD.get (i := i) (k := k) (x := x) t (by simpa using q)
    simpa using this
theorem yields_items {δ : Type} [Dat δ] {d : Dc δ} (K : PySem.W.Frag) : ∀ U H1 ad od ws, wo H1 U ad = some (.frz od (.dK ws)) → repD K (wo H1 U) ws d.kvs → Yields K (Iti ad od ws) U H1 d.kvs := fun U H1 ad od ws hv hr H' U' bn ex i => by
  have hl : H' ad = some (.frz od (.dK ws)) := (wo_some (ex ad _ hv)).2
  refine ⟨fun ⟨k, x⟩ hx => ?_, fun hi => ⟨hl, by rw [Paired.length hr]; exact hi⟩⟩
  obtain ⟨v, hv2, rv⟩ := hr.get hx
  refine ⟨⟨hl, (List.getElem?_eq_some_iff.mp hv2).1⟩, fun u H'' ⟨T, k', v', g, e1, e2, e3⟩ => ?_⟩
  rw [hv2] at g
  cases g
  subst e1 e3
  have n : ¬ U' T := fun z => by obtain ⟨o, q⟩ := bn T z; rw [e2] at q; cases q
  exact ⟨Ex.new e2, T, [_, _], rfl, .inl (.inl (upd_out n)), rfl, Dat.mono (ex.le.trans (wo_ex (Ex.new e2)).le) rv, trivial⟩
theorem yields_values {δ : Type} [Dat δ] {d : Dc δ} (K : PySem.W.Frag) : ∀ U H1 ad od ws, wo H1 U ad = some (.frz od (.dK ws)) → repD K (wo H1 U) ws d.kvs → Yields K (Itd ad od ws) U H1 (d.kvs.map (·.2)) := fun U H1 ad od ws hv hr H' U' bn ex i => by
  have hl : H' ad = some (.frz od (.dK ws)) := (wo_some (ex ad _ hv)).2
  refine ⟨fun x hx => ?_, fun hi => ⟨hl, by rw [Paired.length hr]; simpa using hi⟩⟩
  rw [List.getElem?_map] at hx
  cases hk : d.kvs[i]? with
  | none => rw [hk] at hx; cases hx
  | some kx =>
    obtain ⟨k, x'⟩ := kx
    rw [hk] at hx
    have hx : x' = x := by simpa using hx
    subst hx
    obtain ⟨v, hv2, rv⟩ := hr.get hk
    refine ⟨⟨hl, (List.getElem?_eq_some_iff.mp hv2).1⟩, fun u H'' ⟨e1, k', g⟩ => ?_⟩
    rw [hv2] at g
    cases g
    subst e1
    exact ⟨Ex.refl _, Dat.mono ex.le rv⟩
theorem yields_keys {δ : Type} [Dat δ] {d : Dc δ} (K : PySem.W.Frag) : ∀ U H1 ad od ws, wo H1 U ad = some (.frz od (.dK ws)) → repD K (wo H1 U) ws d.kvs → Yields K (Itk ad od ws) U H1 (d.kvs.map (·.1)) := fun U H1 ad od ws hv hr H' U' bn ex i => by
  have hl : H' ad = some (.frz od (.dK ws)) := (wo_some (ex ad _ hv)).2
  refine ⟨fun x hx => ?_, fun hi => ⟨hl, by rw [Paired.length hr]; simpa using hi⟩⟩
  rw [List.getElem?_map] at hx
  cases hk : d.kvs[i]? with
  | none => rw [hk] at hx; cases hx
  | some kx =>
    obtain ⟨k, x'⟩ := kx
    rw [hk] at hx
    have hx : k = x := by simpa using hx
    subst hx
    obtain ⟨v, hv2, rv⟩ := hr.get hk
    refine ⟨⟨hl, (List.getElem?_eq_some_iff.mp hv2).1⟩, fun u H'' ⟨e1, k', v', g, e2⟩ => ?_⟩
    rw [hv2] at g
    cases g
    subst e1 e2
    exact ⟨Ex.refl _, rfl⟩
theorem hw_items : ∀ σ H1 ad od ws (R : It → Hp → Prop), H1 ad = some (.frz od (.dK ws)) → (∀ Q : VK, Q (.ref ad) H1 → tE X e σ H1 Q) → R (Iti ad od ws) H1 → iItems (tE X e) σ H1 R := fun σ H1 ad od ws R hl hp r => hp _ ⟨ad, od, ws, rfl, hl, r⟩
theorem hw_values : ∀ σ H1 ad od ws (R : It → Hp → Prop), H1 ad = some (.frz od (.dK ws)) → (∀ Q : VK, Q (.ref ad) H1 → tE X e σ H1 Q) → R (Itd ad od ws) H1 → iVals (tE X e) σ H1 R := fun σ H1 ad od ws R hl hp r => hp _ ⟨ad, od, ws, rfl, hl, r⟩
theorem hw_keys : ∀ σ H1 ad od ws (R : It → Hp → Prop), H1 ad = some (.frz od (.dK ws)) → (∀ Q : VK, Q (.ref ad) H1 → tE X e σ H1 Q) → R (Itk ad od ws) H1 → iKeys (tE X e) σ H1 R := fun σ H1 ad od ws R hl hp r => hp _ ⟨ad, od, rfl, .inl ⟨ws, hl, r⟩⟩
theorem hw_keysM : ∀ σ H1 ad od ws (R : It → Hp → Prop), H1 ad = some (.frz od (.dK ws)) → (∀ Q : VK, Q (.ref ad) H1 → tE X e σ H1 Q) → R (Itk ad od ws) H1 → iKeysM (tE X e) σ H1 R := fun σ H1 ad od ws R hl hp r => hp _ ⟨ad, od, ws, rfl, hl, r⟩
theorem sx_forDF' {S : Type} {δ : Type} [Dat δ] {d : Dc δ} (uu : S → Env' → Env') (step : S → α → S) (okb : S → α → Prop) (s0 : S) {J : Addr → Obj → List (Key × V) → It} {wi : TI} (hc : X.calm = true) (hp : PassesOwn (model X.prog X.w) X.A X.env X.xe) (hPI : PI X tg iter wi)
    (hw : ∀ σ H1 ad od ws (R : It → Hp → Prop), H1 ad = some (.frz od (.dK ws)) → (∀ Q : VK, Q (.ref ad) H1 → tE X e σ H1 Q) → R (J ad od ws) H1 → wi σ H1 R)
    (hy : ∀ U H1 ad od ws, wo H1 U ad = some (.frz od (.dK ws)) → repD X.K (wo H1 U) ws d.kvs → Yields X.K (J ad od ws) U H1 xs)
    (he : EPth X e env d) (h0 : Sub env (uu s0 env)) (hk : okFold okb step s0 xs)
    (hb : ∀ x s, okb s x → ∃ e1, GX X tg x (uu s env) e1 ∧ SX X W body e1 { po with N := fun e => Sub e (uu (step s x) env), C := fun e => Sub e (uu (step s x) env), B := fun _ => False, X := fun _ _ => False })
    (hd : SX X W rest (uu (xs.foldl step s0) env) po) (hs : ∀ x, foldedSetIterable iter X.env x = pure x := by intro _; rfl) : SX X W (.For tg iter body [] pos :: rest) env po :=
  sx_forD (fun s => uu s env) (fun r s => okFold okb step s r ∧ r.foldl step s = xs.foldl step s0) s0 J wi hc hp hPI hw hy he h0 ⟨hk, rfl⟩ (fun x r s ⟨⟨h1, h2⟩, h3⟩ => by
    obtain ⟨e1, g, b⟩ := hb x s h1
    exact ⟨e1, g, b.imp (fun e h => ⟨step s x, h, h2, h3⟩) (fun _ _ h => h) (fun _ _ h => h) (fun _ h => h.elim) (fun e h => ⟨step s x, h, h2, h3⟩)⟩) (fun s ⟨_, h⟩ => by
    have h : s = xs.foldl step s0 := h
    subst h
    exact hd) hs
theorem sx_forDR' {S T : Type} {δ : Type} [Dat δ] {d : Dc δ} (uu : S → Env' → Env') (step : S → α → Stp S T) (okb : S → α → Prop) (s0 : S) {J : Addr → Obj → List (Key × V) → It} {wi : TI} (hc : X.calm = true) (hp : PassesOwn (model X.prog X.w) X.A X.env X.xe) (hPI : PI X tg iter wi)
    (hw : ∀ σ H1 ad od ws (R : It → Hp → Prop), H1 ad = some (.frz od (.dK ws)) → (∀ Q : VK, Q (.ref ad) H1 → tE X e σ H1 Q) → R (J ad od ws) H1 → wi σ H1 R)
    (hy : ∀ U H1 ad od ws, wo H1 U ad = some (.frz od (.dK ws)) → repD X.K (wo H1 U) ws d.kvs → Yields X.K (J ad od ws) U H1 xs)
    (he : EPth X e env d) (h0 : Sub env (uu s0 env)) (hk : okRun okb step s0 xs)
    (hb : ∀ x r s, okb s x → (runL step s (x :: r) = runL step s0 xs) → ∃ e1, GX X tg x (uu s env) e1 ∧ SX X W body e1 { po with N := fun e => ∃ s', step s x = .go s' ∧ Sub e (uu s' env), C := fun e => ∃ s', step s x = .go s' ∧ Sub e (uu s' env), B := fun _ => False, X := fun _ _ => False })
    (hd : ∀ s, (runL step s0 xs = .go s ∨ runL step s0 xs = .brk s) → SX X W rest (uu s env) po) (hs : ∀ x, foldedSetIterable iter X.env x = pure x := by intro _; rfl) : SX X W (.For tg iter body [] pos :: rest) env po :=
  sx_forD (fun s => uu s env) (fun r s => okRun okb step s r ∧ runL step s r = runL step s0 xs) s0 J wi hc hp hPI hw hy he h0 ⟨hk, rfl⟩ (fun x r s ⟨⟨h1, h2⟩, h3⟩ => by
    obtain ⟨e1, g, b⟩ := hb x r s h1 h3
    have go : ∀ e, (∃ s', step s x = .go s' ∧ Sub e (uu s' env)) → ∃ s', Sub e (uu s' env) ∧ okRun okb step s' r ∧ runL step s' r = runL step s0 xs := fun e ⟨s', q, sb⟩ => by
      rw [q] at h2
      have h4 : runL step s (x :: r) = runL step s' r := by
        show (match step s x with | .go s' => runL step s' r | .brk s' => .brk s' | .ret r => .ret r) = _
        rw [q]
      exact ⟨s', sb, h2, h4.symm.trans h3⟩
    exact ⟨e1, g, b.imp go (fun _ _ h => h) (fun _ _ h => h) (fun _ h => h.elim) go⟩) (fun s ⟨_, h⟩ => hd s (.inl h.symm)) hs
/-! ### try -/
def tryV {S : Type} (b : Except Exn S) (h : Exn → S) : S := match b with | .ok s => s | .error e => h e
theorem tryV_ok {S : Type} {b : Except Exn S} {h : Exn → S} {s : S} (q : b = .ok s) : tryV b h = s := by subst q; rfl
theorem tryV_err {S : Type} {b : Except Exn S} {h : Exn → S} {e : Exn} (q : b = .error e) : tryV b h = h e := by subst q; rfl
def exnIn (l : List Str) : Exn → Bool
  | .one c => l.contains c
  | .clash _ _ => l.contains ("Clash" : Str)
  | .stuck _ _ _ => l.contains ("Stuck" : Str)
/-- a clause's class: which of the known errors it takes -/
structure CatC (K : PySem.W.Frag) (mg : Str → Option Value) (all some' : List Str) (x : Str) : Prop where
  ex : ∃ cv, mg x = some cv ∧ ∀ e Hf cls d, exnIn all e = true → ExAt mg K Hf e cls d → PySem.W.exmOne K cls cv = some (exnIn some' e)
/-- the class of an error as the clause's class takes it -/
theorem sx_tryO {x : Str} {cv : Value} {np ps' : Pos} {b0 : Stmt} {suite : List Stmt} (M : Env' → Prop) (Xb : Exn → Env' → Prop) (cat : Exn → Bool) (hs : X.stack = X.env :: X.outer) (hf : X.env.frame = some X.env.locals) (hc : Names X x cv) (tk : Takes X W)
    (hb : ∀ (W' : WX) (pn : List (Addr × Obj)) (xe : Value → Shared → Prop), Takes (X.tr pn xe) W' → PassesOwn (model X.prog X.w) X.A X.env xe → SX (X.tr pn xe) W' body env { po with N := M, X := Xb })
    (hk : ∀ e env', Xb e env' → ∀ Hf cls d, ExAt X.mg X.K Hf e cls d → PySem.W.exmOne X.K cls cv = some (cat e))
    (hsu : ∀ e env', Xb e env' → cat e = true → ∀ (ad : Addr) (oe : Obj) (cls : Value) (d : Option Addr) (pn : List (Addr × Obj)), Zc cls d oe → (∃ vs, oe.data = .fields vs) → SX (X.suite ad ((ad, oe) :: pn)) W (b0 :: suite) env' { po with N := M })
    (hn : ∀ e env', Xb e env' → cat e = false → po.X e env') (hr : ∀ e, M e → SX X W rest e po) : SX X W (.Try body [.ExceptHandler (some (.Name x np)) none (b0 :: suite) ps'] [] [] pos :: rest) env po :=
  sx_cons M (s1_of (ps_try_only (tb := fun W' D σ H => ∀ pn xe, Takes (X.tr pn xe) W' → PassesOwn (model X.prog X.w) X.A X.env xe → tSs (X.tr pn xe) body D σ H) (ts := fun ad cls d D σ H => ∀ oe pn, Zc cls d oe → (∃ vs, oe.data = .fields vs) → tSs (X.suite ad ((ad, oe) :: pn)) (b0 :: suite) D σ H) hs hf hc tk
    (fun W' pn xe t q => ⟨fun pins s σ H D I h => tSs_run (h pn xe t q) pins s I⟩) (fun ad oe cls d pn hz hfd => ⟨fun pins s σ H D I h => tSs_run (h oe pn hz hfd) pins s I⟩)) fun O fp σ H S D G => fun pn xe t q => hb _ pn xe t q O fp σ H S D ⟨G.nx, G.rt, fun e env' fp' σ' cls d H' hx kp S' xa => by
      refine ⟨cat e, hk e env' hx _ cls d xa, fun hce ad ha oe pn hz hfd => ?_, fun hce => G.ex e env' fp' σ' cls d H' (hn e env' hx hce) kp S' xa⟩
      exact hsu e env' hx hce ad oe cls d pn hz hfd O fp' σ' H' S' D (G.step kp), G.bk, G.ct⟩) hr
/-- try: .. except X: .. in a def where all that is raised is caught -/
theorem sx_tryO' {S : Type} {x : Str} {np ps' : Pos} {b0 : Stmt} {suite : List Stmt} {all some' : List Str} (uu : S → Env' → Env') (m : Except Exn S) (h : Exn → S) (hs : X.stack = X.env :: X.outer) (hf : X.env.frame = some X.env.locals) (cc : CatC X.K X.mg all some' x) (tk : Takes X W)
    (hv : ∀ e, m = .error e → exnIn all e = true ∧ exnIn some' e = true)
    (hb : ∀ (W' : WX) (pn : List (Addr × Obj)) (xe : Value → Shared → Prop), Takes (X.tr pn xe) W' → PassesOwn (model X.prog X.w) X.A X.env xe → SX (X.tr pn xe) W' body env { po with N := fun e => ∃ s, m = .ok s ∧ Sub e (uu s env), X := fun e env' => m = .error e ∧ env' = env })
    (hsu : ∀ e, m = .error e → ∀ (ad : Addr) (oe : Obj) (cls : Value) (d : Option Addr) (pn : List (Addr × Obj)), Zc cls d oe → (∃ vs, oe.data = .fields vs) → SX (X.suite ad ((ad, oe) :: pn)) W (b0 :: suite) env { po with N := fun e' => Sub e' (uu (h e) env) })
    (hr : SX X W rest (uu (tryV m h) env) po) (hg : Gl X x := by rfl) (hdb : (x == ("__debug__" : Str)) = false := by decide) : SX X W (.Try body [.ExceptHandler (some (.Name x np)) none (b0 :: suite) ps'] [] [] pos :: rest) env po := by
  obtain ⟨cv, hm, hx⟩ := cc.ex
  refine sx_tryO (fun e => Sub e (uu (tryV m h) env)) (fun e env' => m = .error e ∧ env' = env) (exnIn some') hs hf ⟨hg, hdb, .inl hm⟩ tk (fun W' pn xe t q => (hb W' pn xe t q).imp (fun e ⟨s, h1, h2⟩ => by rw [tryV_ok h1]; exact h2) (fun _ _ h => h) (fun _ _ h => h) (fun _ h => h) (fun _ h => h)) (fun e env' ⟨h1, _⟩ Hf cls d xa => hx e Hf cls d (hv e h1).1 xa) (fun e env' ⟨h1, h2⟩ _ ad oe cls d pn hz hfd => ?_) (fun e env' ⟨h1, _⟩ h2 => by rw [(hv e h1).2] at h2; cases h2) fun e h => sx_sub h hr
  subst h2
  exact (hsu e h1 ad oe cls d pn hz hfd).imp (fun e' h => by rw [tryV_err h1]; exact h) (fun _ _ h => h) (fun _ _ h => h) (fun _ h => h) (fun _ h => h)
end
end R
set_option maxHeartbeats 400000
set_option autoImplicit false
namespace R
open PySem PySem.Spec PyProof.Rows L2
/-! ### comprehensions -/
def wipeE (env : Env') : List Nat → Env'
  | [] => env
  | v :: vs => (wipeE env vs).set v .any
theorem SOk.wipe {K : PySem.W.Frag} {O : Addr → Prop} {fp : Nat → List Addr} {env : Env'} {σ : L2.St} {H : Hp} (S : SOk K O fp env σ H) : ∀ vs : List Nat, SOk K O fp (wipeE env vs) (L2.wipe σ vs) H
  | [] => S
  | v :: vs => (SOk.wipe S vs).forget v
/-- an own list in the making, out of sight -/
theorem SOk.hide {K : PySem.W.Frag} {O : Addr → Prop} {fp : Nat → List Addr} {env : Env'} {σ : L2.St} {H : Hp} {D : Addr} {o : HO} (S : SOk K O fp env σ H) (hD : H D = none) : SOk K (fun a => O a ∨ a = D) fp env σ (upd H D o) := by
  have nD : ¬ UU O fp D := S.fresh hD
  have le : Le (wo H (UU O fp)) (wo (upd H D o) (UU (fun a => O a ∨ a = D) fp)) := Ex.le fun b w h => by
    obtain ⟨n, q⟩ := wo_some h
    have nb : b ≠ D := ne_of_none q hD
    rw [wo_out, upd_ne nb]
    · exact q
    · rintro ((z | z) | z)
      · exact n (.inl z)
      · exact nb z
      · exact n (.inr z)
  exact {
    len := S.len
    bnd := fun a h => by
      rcases h with h | h
      · obtain ⟨w, q⟩ := S.bnd a h
        exact ⟨w, by rw [upd_ne (ne_of_none q hD)]; exact q⟩
      · subst h; exact ⟨o, upd_same⟩
    fpO := fun i a h => by
      rintro (z | z)
      · exact S.fpO i a h z
      · subst z; exact nD (.inr ⟨i, h⟩)
    sep := S.sep
    dom := fun i a h => by
      obtain ⟨w, q⟩ := S.dom i a h
      exact ⟨w, by rw [upd_ne (ne_of_none q hD)]; exact q⟩
    sl := fun i s q => by
      have r := S.sl i s q
      cases s with
      | any => exact trivial
      | dat x =>
        obtain ⟨v, a, b⟩ := r
        exact ⟨v, a, Dat.mono le b⟩
      | own x =>
        obtain ⟨v, a, b⟩ := r
        refine ⟨v, a, Own.frame le (fun c hc => ?_) b⟩
        obtain ⟨w, q⟩ := S.dom i c hc
        rw [upd_ne (ne_of_none q hD)] }
section
variable {X : Cx} {W : WX} {env env' : Env'} {ρ α β γ : Type} [Res ρ] [Dat α] [Dat β] [Dat γ] {po : Po ρ} {x : α} {y : β} {z : γ} {e a b c tg iter o : Expr} {es : List Expr} {pos p p2 pc p3 apos cpos : Pos} {rest body : List Stmt} {xs : List α}
/-- the block's contexts -/
abbrev Blk (X : Cx) (scope : Scope) (Φ : Cx → Prop) : Prop := ∀ (s : Shared) (H : Hp) (C : Addr) (cl : List (Str × Addr)) (fp : List Addr), Φ (X.blk s H scope (compEnvC scope cl C X.env) fp)
def tEb (X : Cx) (scope : Scope) (e : Expr) : TE := fun σ H Q => Blk X scope fun Y => tE Y e σ H Q
def tTb (X : Cx) (scope : Scope) (e : Expr) : TT := fun σ H Q => Blk X scope fun Y => tT Y e σ H Q
theorem mEb {scope : Scope} {e : Expr} (s : Shared) (H : Hp) (C : Addr) (cl : List (Str × Addr)) (fp : List Addr) : PE (X.blk s H scope (compEnvC scope cl C X.env) fp) e (tEb X scope e) := ⟨fun pins s1 σ H1 Q I h => tE_run (h s H C cl fp) pins s1 I⟩
theorem mTb {scope : Scope} {e : Expr} (s : Shared) (H : Hp) (C : Addr) (cl : List (Str × Addr)) (fp : List Addr) : PTs (X.blk s H scope (compEnvC scope cl C X.env) fp) [e] (tTb X scope e) := pts_one ⟨fun pins s1 σ H1 Q I h => tT_run (h s H C cl fp) pins s1 I⟩
/-- how a target stores an item: its own slots only -/
structure TgOk (α : Type) [Dat α] (X : Cx) (g : TG) (vs : List Nat) (env : Env') (mk : α → Env') : Prop where
  run : ∀ (x : α) O fp σ H v, SOk X.K O fp env σ H → Dat.rep X.K (wo H (UU O fp)) v x → L2.wipe σ vs = σ → ∀ Q : L2.St → Hp → Prop, (∀ σ', SOk X.K O fp (mk x) σ' H → L2.wipe σ' vs = σ → Q σ' H) → g v σ H Q
/-- what a comprehension gives -/
theorem lc_ev {scope : Scope} {tt : TT} {g : TG} {vs : List Nat} (mk : α → Env') (f : α → β) (t : α → Bool) (hi : IX X tg iter env xs) (hz : xs.length ≤ 100000) (hg : TgOk α X g vs (wipeE env vs) mk) (hww : ∀ σ : L2.St, L2.wipe (L2.wipe σ vs) vs = L2.wipe σ vs)
    (ht : ∀ x ∈ xs, EvT X.K tt (mk x) (t x)) (he : ∀ x ∈ xs, t x = true → Ev X.K (tEb X scope e) (mk x) (f x)) :
    ∀ O fp σ H, SOk X.K O fp env σ H → ∀ Q : VK, (∀ v L H', Ex H H' → (∀ a ∈ L, H a = none) → (∀ a ∈ L, ∃ o, H' a = some o) → (∀ Hf, Le (wo H' (fun a => UU O fp a ∨ a ∈ L)) Hf → Own.own X.K Hf H' v L (OL.mk ((xs.filter t).map f))) → Q v H') → tLc (tI X tg iter) g tt (tEb X scope e) vs σ H Q := by
  intro O fp σ H S Q q
  refine hi O fp σ H S _ fun J H1 e1 yl D hD => ?_
  have S1 := S.ex e1
  have S2 := S1.hide (o := .lst []) hD
  have hU : ∀ a, UU (fun a => O a ∨ a = D) fp a ↔ (UU O fp a ∨ a = D) := fun a => by
    constructor
    · rintro ((z | z) | z)
      · exact .inl (.inl z)
      · exact .inr z
      · exact .inl (.inr z)
    · rintro ((z | z) | z)
      · exact .inl (.inl z)
      · exact .inr z
      · exact .inl (.inr z)
  -- where one stands at turn i
  let Pv : Nat → Hp → Prop := fun i H' => ∃ ws, H' D = some (.lst ws) ∧ (∀ a o, a ≠ D → H1 a = some o → H' a = some o) ∧ repL X.K (wo H' (UU (fun a => O a ∨ a = D) fp)) ws (((xs.take i).filter t).map f)
  have SP : ∀ i H', Pv i H' → SOk X.K (fun a => O a ∨ a = D) fp env σ H' := fun i H' ⟨ws, h1, h2, _⟩ => by
    refine S2.conv (Ex.le fun a o hq => ?_) (fun j a ha => ?_) fun a o hq => ?_
    · obtain ⟨n, hq⟩ := wo_some hq
      have na : a ≠ D := fun z => n ((hU a).mpr (.inr z))
      rw [upd_ne na] at hq
      rw [wo_out n]
      exact h2 a o na hq
    · obtain ⟨o, hq⟩ := S1.dom j a ha
      have na : a ≠ D := ne_of_none hq hD
      rw [h2 a o na hq, upd_ne na, hq]
    · by_cases na : a = D
      · subst na; exact ⟨_, h1⟩
      · rw [upd_ne na] at hq; exact ⟨o, h2 a o na hq⟩
  have YL : ∀ i H', Pv i H' → (∀ x, xs[i]? = some x → J.go i H' ∧ ∀ v H'', J.yld i H' v H'' → Ex H' H'' ∧ Dat.rep X.K (wo H'' (UU (fun a => O a ∨ a = D) fp)) v x) ∧ (xs.length ≤ i → J.stop i H') := fun i H' pv => by
    refine yl H' _ (SP i H' pv).bndU (fun a o hq => ?_) i
    obtain ⟨ws, h1, h2, _⟩ := pv
    obtain ⟨n, hq⟩ := wo_some hq
    have na : a ≠ D := ne_of_none hq hD
    rw [wo_out fun z => ((hU a).mp z).elim n na]
    exact h2 a o na hq
  refine ⟨fun i m H' => m = xs.length - i ∧ i ≤ xs.length ∧ Pv i H', ⟨xs.length, by simp, Nat.zero_le _, [], upd_same, fun a o na h => by rw [upd_ne na]; exact h, .nil⟩, ?_⟩
  rintro i m H2 ⟨rfl, hle, pv⟩
  obtain ⟨y1, y2⟩ := YL i H2 pv
  by_cases hlt : i < xs.length
  · obtain ⟨x, hx⟩ : ∃ x, xs[i]? = some x := ⟨_, List.getElem?_eq_getElem hlt⟩
    have hm : x ∈ xs := List.mem_of_getElem? hx
    obtain ⟨go, yy⟩ := y1 x hx
    refine .inr ⟨go, Pv (i + 1), fun H' p' => ⟨_, by omega, rfl, hlt, p'⟩, fun v H3 yv => ?_⟩
    obtain ⟨e3, rv⟩ := yy v H3 yv
    have S3 := (SP i H2 pv).ex e3
    obtain ⟨ws, h1, h2, h3⟩ := pv
    have tk : xs.take (i + 1) = xs.take i ++ [x] := by rw [List.take_add_one, hx]; rfl
    refine hg.run x _ fp _ H3 v (S3.wipe vs) rv (hww σ) _ fun σ4 S4 w4 => ⟨w4.trans rfl, ?_⟩
    refine ht x hm _ fp σ4 H3 S4 _ fun H5 e5 => ?_
    cases htx : t x with
    | true =>
      show tEb X scope e σ4 H5 _
      refine he x hm htx _ fp σ4 H5 (S4.ex e5) _ fun y H6 e6 ry => ?_
      have e36 : Ex H2 H6 := (e3.trans e5).trans e6
      refine ⟨ws, e36 D _ h1, ?_, ws ++ [y], upd_same, fun a o na h => by rw [upd_ne na]; exact e36 a o (h2 a o na h), ?_⟩
      · have := Paired.length h3
        rw [List.length_map] at this
        have l2 := List.length_filter_le t (xs.take i)
        have l3 : (xs.take i).length ≤ xs.length := by rw [List.length_take]; omega
        exact Nat.lt_of_lt_of_le (show ws.length < 100001 by omega) (by decide)
      · rw [tk, List.filter_append, List.map_append]
        have : (List.filter t [x]).map f = [f x] := by simp [htx]
        rw [this, wo_upd_in (show UU (fun a => O a ∨ a = D) fp D from (hU D).mpr (.inr rfl))]
        exact Paired.app (h3.mono (wo_ex e36).le) ry
    | false =>
      show Pv (i + 1) H5
      have e35 : Ex H2 H5 := e3.trans e5
      refine ⟨ws, e35 D _ h1, fun a o na h => e35 a o (h2 a o na h), ?_⟩
      rw [tk, List.filter_append, List.map_append]
      have : (List.filter t [x]).map f = [] := by simp [htx]
      rw [this, List.append_nil]
      exact h3.mono (wo_ex e35).le
  · have ei : i = xs.length := by omega
    subst ei
    obtain ⟨ws, h1, h2, h3⟩ := pv
    have ek : ∀ a o, H1 a = some o → H2 a = some o := fun a o h => h2 a o (ne_of_none h hD) h
    refine .inl ⟨y2 (Nat.le_refl _), q (.ref D) [D] H2 (e1.trans ek) (fun a ha => by rw [List.mem_singleton.mp ha]; exact e1.free hD) (fun a ha => by rw [List.mem_singleton.mp ha]; exact ⟨_, h1⟩) fun Hf le => ⟨D, ws, rfl, rfl, h1, ?_⟩⟩
    rw [List.take_length] at h3
    refine h3.mono (Le.trans (wo_mono fun a z => ?_).le le)
    rcases z with z | z
    · exact (hU a).mpr (.inl z)
    · exact (hU a).mpr (.inr (List.mem_singleton.mp z))
/-- [e for n in it], [e for n in it if c] -/
theorem tg_name {j : Nat} {vs : List Nat} (hj : ∀ (σ : L2.St) (o : Option V), L2.wipe (σ.set j o) vs = L2.wipe σ vs) : TgOk α X (gName j) vs env (fun x => env.set j (.dat x)) := ⟨fun x O fp σ H v S r w Q q => q _ (S.set j r) (by rw [hj, w])⟩
theorem tg_pair {i j : Nat} {vs : List Nat} (hi : ∀ (σ : L2.St) (o : Option V), L2.wipe (σ.set i o) vs = L2.wipe σ vs) (hj : ∀ (σ : L2.St) (o : Option V), L2.wipe (σ.set j o) vs = L2.wipe σ vs) : TgOk (α × β) X (gTup X.K 2 (gCons (gName i) (gCons (gName j) gNil))) vs env (fun x => (env.set i (.dat x.1)).set j (.dat x.2)) := ⟨fun x O fp σ H v S r w Q q => by
  obtain ⟨ad, us, e, t, ar⟩ := r
  match us, ar with
  | [u1, u2], ⟨h1, h2, _⟩ =>
    exact ⟨ad, [u1, u2], e, wo_le.tup t, rfl, u1, [u2], rfl, u2, [], rfl, rfl, q _ ((S.set i h1).set j h2) (by rw [hj, hi, w])⟩⟩
theorem et_yes : EvT X.K tYes env true := fun O fp σ H S Q q => q H (Ex.refl H)
theorem ev_b {scope : Scope} (h : Blk X scope fun Y => EX Y e env x) : Ev X.K (tEb X scope e) env x := fun O fp σ H S Q q s H0 C cl fpp => h s H0 C cl fpp O fp σ H S Q q
theorem et_b {scope : Scope} {k : Bool} (h : Blk X scope fun Y => ET Y e env k) : EvT X.K (tTb X scope e) env k := fun O fp σ H S Q q s H0 C cl fpp => h s H0 C cl fpp O fp σ H S Q q
theorem en_lc {scope : Scope} {ifs : List Expr} {own : List (Str × Nat)} {tt : TT} {g : TG} (mk : α → Env') (f : α → β) (t : α → Bool) (hc : X.calm = true) (hN : X.N.Nodup) (ok : BlkOk X.N X.env.scope scope own) (hi : IX X tg iter env xs) (hz : xs.length ≤ 100000) (hg : TgOk α X g (own.map (·.2)) (wipeE env (own.map (·.2))) mk) (hww : ∀ σ : L2.St, L2.wipe (L2.wipe σ (own.map (·.2))) (own.map (·.2)) = L2.wipe σ (own.map (·.2)))
    (pg : ∀ (s : Shared) (H : Hp) (C : Addr) (cl : List (Str × Addr)) (fp : List Addr), PG (X.blk s H scope (compEnvC scope cl C X.env) fp) tg g) (pt : ∀ (s : Shared) (H : Hp) (C : Addr) (cl : List (Str × Addr)) (fp : List Addr), PTs (X.blk s H scope (compEnvC scope cl C X.env) fp) ifs tt)
    (ht : ∀ x ∈ xs, EvT X.K tt (mk x) (t x)) (he : ∀ x ∈ xs, t x = true → Blk X scope fun Y => EX Y e (mk x) (f x)) (hs : ∀ x, foldedSetIterable iter X.env x = pure x := by intro _; rfl) : EN X (.ListComp e [⟨tg, iter, ifs, 0⟩] scope pos) env (OL.mk ((xs.filter t).map f)) := fun O fp σ H S Q q => tE_of fun pins s I =>
  (pe_lc hc hN (mI X tg iter) ok pg pt (fun s H C cl fp => mEb s H C cl fp) hs).run pins s σ H Q I (lc_ev mk f t hi hz hg hww ht (fun x hx h => ev_b (he x hx h)) O fp σ H S Q q)
/-- y = [..], y a local name: one's own list -/
theorem sx_newLc {i : Nat} {y : Str} {scope : Scope} {ifs : List Expr} {own : List (Str × Nat)} {tt : TT} {g : TG} (mk : α → Env') (f : α → β) (t : α → Bool) (hc : X.calm = true) (hN : X.N.Nodup) (ok : BlkOk X.N X.env.scope scope own) (hi : IX X tg iter env xs) (hz : xs.length ≤ 100000) (hg : TgOk α X g (own.map (·.2)) (wipeE env (own.map (·.2))) mk) (hww : ∀ σ : L2.St, L2.wipe (L2.wipe σ (own.map (·.2))) (own.map (·.2)) = L2.wipe σ (own.map (·.2)))
    (pg : ∀ (s : Shared) (H : Hp) (C : Addr) (cl : List (Str × Addr)) (fp : List Addr), PG (X.blk s H scope (compEnvC scope cl C X.env) fp) tg g) (pt : ∀ (s : Shared) (H : Hp) (C : Addr) (cl : List (Str × Addr)) (fp : List Addr), PTs (X.blk s H scope (compEnvC scope cl C X.env) fp) ifs tt)
    (ht : ∀ x ∈ xs, EvT X.K tt (mk x) (t x)) (he : ∀ x ∈ xs, t x = true → Blk X scope fun Y => EX Y e (mk x) (f x)) (hr : SX X W rest (env.set i (.own (OL.mk ((xs.filter t).map f)))) po)
    (hy : X.N[i]? = some y) (hyl : X.env.scope.names.lookup y = some .local) (hsw : swapsWith (.ListComp e [⟨tg, iter, ifs, 0⟩] scope pos) (some (.Name y p2)) p3.line X.env = pure true) (hs : ∀ x, foldedSetIterable iter X.env x = pure x := by intro _; rfl) : SX X W (.Assign [.Name y p2] (.ListComp e [⟨tg, iter, ifs, 0⟩] scope pos) p3 :: rest) env po :=
  sx_step (ps_setLc hc hN hy hyl hsw (mI X tg iter) ok pg pt (fun s H C cl fp => mEb s H C cl fp) hs) (fun O fp σ H S D q => lc_ev mk f t hi hz hg hww ht (fun x hx h => ev_b (he x hx h)) O fp σ H S _ fun v L H1 e1 hL hd r1 => q (setF fp i L) _ H1 (Keep.new e1 hL) (S.new e1 hL hd r1)) hr
end
theorem wipe_set {i : Nat} (σ : L2.St) (o : Option V) : (σ.set i o).set i none = σ.set i none := List.set_set _
theorem wipe_1 (j : Nat) : ∀ (σ : L2.St) (o : Option V), L2.wipe (σ.set j o) [j] = L2.wipe σ [j] := fun σ o => List.set_set _
theorem hww_1 (j : Nat) : ∀ σ : L2.St, L2.wipe (L2.wipe σ [j]) [j] = L2.wipe σ [j] := fun σ => List.set_set _
theorem set2 (i j : Nat) (σ : L2.St) : ((((σ.set j none).set i none).set j none).set i none) = (σ.set j none).set i none := by
  by_cases e : i = j
  · subst e; rw [List.set_set, List.set_set, List.set_set]
  · rw [List.set_comm _ _ e, List.set_set, List.set_set]
theorem hww_2 (i j : Nat) : ∀ σ : L2.St, L2.wipe (L2.wipe σ [i, j]) [i, j] = L2.wipe σ [i, j] := fun σ => set2 i j σ
theorem wipe_2a (i j : Nat) : ∀ (σ : L2.St) (o : Option V), L2.wipe (σ.set i o) [i, j] = L2.wipe σ [i, j] := fun σ o => by
  show (((σ.set i o).set j none).set i none) = (σ.set j none).set i none
  by_cases e : i = j
  · subst e; rw [List.set_set, List.set_set, List.set_set]
  · rw [List.set_comm _ _ e, List.set_set]
theorem wipe_2b (i j : Nat) : ∀ (σ : L2.St) (o : Option V), L2.wipe (σ.set j o) [i, j] = L2.wipe σ [i, j] := fun σ o => by
  show (((σ.set j o).set j none).set i none) = (σ.set j none).set i none
  rw [List.set_set]
end R
set_option maxHeartbeats 400000
set_option autoImplicit false
namespace R
open PySem PySem.Spec PyProof.Rows L2
section
variable {X : Cx} {W : WX} {env env' : Env'} {ρ α β γ : Type} [Res ρ] [Dat α] [Dat β] [Dat γ] {po : Po ρ} {x : α} {y : β} {z : γ} {e a b c tg iter o : Expr} {es : List Expr} {pos p p2 pc p3 apos cpos : Pos} {rest body : List Stmt} {xs : List α} {st : Stmt}
theorem exx_some {Rp : α → Prop} {Xp : Exn → Prop} (h : EXX X W e env Rp Xp) : EXX X W e env (fun (o : Option α) => ∃ x, Rp x ∧ o = some x) Xp := fun O fp σ H S Q q qx => h O fp σ H S Q (fun r v H' hr e1 rp => q (some r) v H' ⟨r, hr, rfl⟩ e1 rp) qx
theorem filter_all {τ : Type} (xs : List τ) : (xs.filter fun _ => true) = xs := by simp
theorem en_all {τ υ : Type} [Dat υ] {f : τ → υ} {xs : List τ} (h : EN X e env (OL.mk ((xs.filter fun _ => true).map f))) : EN X e env (OL.mk (xs.map f)) := by rw [filter_all] at h; exact h
theorem hu64 {A : Around} {k : Nat} (hr : Room k A) : A.units + 64 < cLine := hr.units
abbrev Rng (n : Int) : Prop := -(2 ^ 62) ≤ n ∧ n < 2 ^ 62
abbrev Rng2 (n m : Int) : Prop := -(2 ^ 62) ≤ n ∧ n < 2 ^ 62 ∧ -(2 ^ 62) ≤ m ∧ m < 2 ^ 62
/-! any, all, min, max -/
theorem repL.bls {K : PySem.W.Frag} {H : Hp} : ∀ {vs : List V} {bs : List Bool}, repL K H vs bs → vs = bs.map V.bl
  | _, _, .nil => rfl
  | _, _, .cons h t => by
    have h : _ = V.bl _ := h
    rw [h, repL.bls t]; rfl
theorem repL.ints {K : PySem.W.Frag} {H : Hp} : ∀ {vs : List V} {bs : List Int}, repL K H vs bs → vs = bs.map V.int
  | _, _, .nil => rfl
  | _, _, .cons h t => by
    have h : _ = V.int _ := h
    rw [h, repL.ints t]; rfl
theorem repL.strs {K : PySem.W.Frag} {H : Hp} : ∀ {vs : List V} {bs : List Str}, repL K H vs bs → vs = bs.map V.str
  | _, _, .nil => rfl
  | _, _, .cons h t => by
    have h : _ = V.str _ := h
    rw [h, repL.strs t]; rfl
theorem ex_any {bs : List Bool} (hc : X.calm = true) (hm : X.mg "any" = none) (h : EX X a env bs) (he : starEach [a] X.env = (false, eval a X.env) :: starEach [] X.env := by exact star_plain rfl _ _) (hpl : (backTo pos (starEach [] X.env)).any (·.1) = false := by exact star_pl rfl) (hg : Gl X "any" := by rfl) : EX X (.Call (.Name "any" p) [a] [] pos) env (bs.any id) :=
  ex_callB (cr_any hc) hm (by decide +kernel) (ea1 h he) (rc1 fun U v H bn r Q q => by
    obtain ⟨ad, vs, e, l, rl⟩ := r
    have := rl.bls
    subst this
    exact ⟨ad, bs, by rw [e], wo_le.lst l, q _ H (Ex.refl H) rfl⟩) hg (by decide) (by decide) he hpl
theorem ex_all {bs : List Bool} (hc : X.calm = true) (hm : X.mg "all" = none) (h : EX X a env bs) (he : starEach [a] X.env = (false, eval a X.env) :: starEach [] X.env := by exact star_plain rfl _ _) (hpl : (backTo pos (starEach [] X.env)).any (·.1) = false := by exact star_pl rfl) (hg : Gl X "all" := by rfl) : EX X (.Call (.Name "all" p) [a] [] pos) env (bs.all id) :=
  ex_callB (cr_all hc) hm (by decide +kernel) (ea1 h he) (rc1 fun U v H bn r Q q => by
    obtain ⟨ad, vs, e, l, rl⟩ := r
    have := rl.bls
    subst this
    exact ⟨ad, bs, by rw [e], wo_le.lst l, q _ H (Ex.refl H) rfl⟩) hg (by decide) (by decide) he hpl
def maxI (i j : Int) : Int := if j > i then j else i
def minI (i j : Int) : Int := if j < i then j else i
theorem ex_max {i j : Int} (hc : X.calm = true) (hm : X.mg "max" = none) (h : EX X a env i) (h' : EX X b env j) (he : starEach [a, b] X.env = (false, eval a X.env) :: starEach [b] X.env := by exact star_plain rfl _ _) (he2 : starEach [b] X.env = (false, eval b X.env) :: starEach [] X.env := by exact star_plain rfl _ _) (hpl : (backTo pos (starEach [b] X.env)).any (·.1) = false := by exact star_pl rfl) (hg : Gl X "max" := by rfl) : EX X (.Call (.Name "max" p) [a, b] [] pos) env (maxI i j) :=
  ex_callB (call_max2 hc) hm (by decide +kernel) (ea_cons h (ea_cons h' ea_nil he2) he) (rc2 fun U v u H bn r1 r2 Q q => ⟨i, j, by rw [show v = .int i from r1, show u = .int j from r2], q _ H (Ex.refl H) rfl⟩) hg (by decide) (by decide) he hpl
theorem ex_min {i j : Int} (hc : X.calm = true) (hm : X.mg "min" = none) (h : EX X a env i) (h' : EX X b env j) (he : starEach [a, b] X.env = (false, eval a X.env) :: starEach [b] X.env := by exact star_plain rfl _ _) (he2 : starEach [b] X.env = (false, eval b X.env) :: starEach [] X.env := by exact star_plain rfl _ _) (hpl : (backTo pos (starEach [b] X.env)).any (·.1) = false := by exact star_pl rfl) (hg : Gl X "min" := by rfl) : EX X (.Call (.Name "min" p) [a, b] [] pos) env (minI i j) :=
  ex_callB (call_min2 hc) hm (by decide +kernel) (ea_cons h (ea_cons h' ea_nil he2) he) (rc2 fun U v u H bn r1 r2 Q q => ⟨i, j, by rw [show v = .int i from r1, show u = .int j from r2], q _ H (Ex.refl H) rfl⟩) hg (by decide) (by decide) he hpl
/-! options -/
theorem ex_isN {m : Option α} (hno : ∀ K H v (y : α), Dat.rep K H v y → v ≠ .non) (h : EX X a env m) {j : Nat} {pos' : Pos} : EX X (.Compare a [.Is] [.Constant .none j pos'] pos) env m.isNone := ex_of (pe_cmp (pc_isN (mE X a)) (nobehind _ (by decide) (by decide))) fun O fp σ H S Q q => h O fp σ H S _ fun v H' e1 r => by
  refine q _ H' e1 ?_
  show V.bl _ = V.bl _
  cases m with
  | none => rw [show v = .non from r]; rfl
  | some y => rw [decide_eq_false (hno _ _ _ _ r)]; rfl
theorem ex_isNotN {m : Option α} (hno : ∀ K H v (y : α), Dat.rep K H v y → v ≠ .non) (h : EX X a env m) {j : Nat} {pos' : Pos} : EX X (.Compare a [.IsNot] [.Constant .none j pos'] pos) env (!m.isNone) := ex_of (pe_cmp (pc_notN (mE X a)) (nobehind _ (by decide) (by decide))) fun O fp σ H S Q q => h O fp σ H S _ fun v H' e1 r => by
  refine q _ H' e1 ?_
  show V.bl _ = V.bl _
  cases m with
  | none => rw [show v = .non from r]; rfl
  | some y => rw [decide_eq_false (hno _ _ _ _ r)]; rfl
end
theorem catc_mk {K : PySem.W.Frag} {mg : Str → Option Value} {all some' : List Str} {x : Str} {Cx : Addr} (hm : mg x = some (.ref Cx)) (h1 : PySem.W.subIn K (.ref Cx) (.type "BaseException") = some true) (h2 : PySem.W.hasDictIn K Cx = true) (h3 : PySem.W.typeIn K (.ref Cx) = some (.type "type"))
    (tbl : ∀ n ∈ all, ∃ Cn, mg n = some (.ref Cn) ∧ PySem.W.subIn K (.ref Cn) (.ref Cx) = some (some'.contains n)) : CatC K mg all some' x := by
  refine ⟨.ref Cx, hm, fun e Hf cls d ha xa => ?_⟩
  have key : ∀ n, all.contains n = true → mg n = some cls → PySem.W.exmOne K cls (.ref Cx) = some (some'.contains n) := fun n hn hc => by
    obtain ⟨Cn, q1, q2⟩ := tbl n (List.contains_iff_mem.mp hn)
    rw [q1] at hc
    cases hc
    exact PySem.W.exm_ref h1 h2 h3 q2
  cases e with
  | one c => exact key c ha xa.1
  | clash ns ws => exact key _ ha xa.1
  | stuck w ns ws => exact key _ ha xa.1
/-! ### a law's end -/
def spLaw (K : PySem.W.Frag) : Sp := fun vs H Q _ => ∃ (a : Addr) (ns : List Int), vs = [.ref a] ∧ SqL K H a (ns.map V.int) ∧ ns.length ≤ 63 ∧ ∀ v H', v = .bl true → Q v H'
theorem ints_rep {K : PySem.W.Frag} {H : Hp} : ∀ ns : List Int, repL K H (ns.map V.int) ns
  | [] => .nil
  | _ :: r => .cons rfl (ints_rep r)
theorem law_end {K : PySem.W.Frag} {mg : Str → Option Value} {Φ : Phi Bool} (h : ∀ ns : List Int, ns.length ≤ 63 → Φ [.dat ns] (fun r => r = true) (fun _ => False)) : ∀ vs H Q E, spLaw K vs H Q E → spP K mg 1 Φ vs H Q E := fun vs H Q E ⟨a, ns, e, hs, hl, q⟩ => by
  subst e
  have ew : wo H (fun _ => False) = H := by funext b; exact wo_out fun z => z
  have ar : ARep K (wo H (fun _ => False)) [.ref a] [.dat ns] := ⟨⟨a, ns.map V.int, rfl, by rw [ew]; exact hs, ints_rep ns⟩, trivial⟩
  refine ⟨rfl, fun _ => False, [.dat ns], _, _, h ns hl, ARep.sok (fun _ z => z.elim) ar, fun r v H' hr e rp => q v H' ?_, fun _ _ _ _ z => z.elim⟩
  rw [hr] at rp
  exact rp
theorem cx_end {P : Program} {w : World} {H : Hp} {s : Shared} {e : Value} {s' : Shared} (h : L2.CX P w [] H s (fun _ _ _ => False) e s') : False := by
  obtain ⟨_, _, _, _, _, _, _, _, _, _, _, _, z⟩ := h
  exact z
end R
set_option maxHeartbeats 400000
set_option autoImplicit false
/-! == and != of data of any depth, dicts among them. -/
namespace RQ1
open PySem PySem.SeqAt
open AutoSeq1 (wpAny_loadPart')
open MeetsSeq MeetsSeq2 MeetsSeq3 SeqRoads2
section
variable {P : Program} {w : World}
def Items (P : Program) (w : World) (A : Around) (s : Shared) (us ws : Array Value) (f : Nat → Bool) : Prop := ∀ j (h1 : j < us.size) (h2 : j < ws.size), EqP P w A.in1 s us[j] ws[j] (f j)
theorem loop2 (p q : Addr) (us ws : Array Value) (n n2 : Nat) (da db : Option Addr) (sa sb : Array (Option Value)) (hz : us.size = ws.size) (f : Nat → Bool) (k : Nat) :
    ∀ i : Nat, us.size - i = k → MeetsIn P w (Builtin.«list.__eq__.loop» ⟨[.ref p, .ref q, rawInt i, rawInt 2], []⟩)
      (fun A R s => s.heap.get? p = some { cls := .type "list", dict := da, data := .seq us n, slots := sa } ∧ s.heap.get? q = some { cls := .type "list", dict := db, data := .seq ws n2, slots := sb } ∧
        Items P w A s us ws f ∧ R (.ok (.ret (.bool (((List.range us.size).drop i).all f)))) s) := by
  induction k with
  | zero =>
    intro i hk A R s ⟨hl, hb, he, h⟩
    obtain ⟨hp, g, d, tk, os⟩ := s
    wp_walk using wpAny_loadPart' hl, wpAny_loadPart' hb
    have o1 : us[((i : Nat) : Int).toNat]? = none := by simp; omega
    have o2 : ws[((i : Nat) : Int).toNat]? = none := by simp; omega
    rw [show (List.range us.size).drop i = [] by simp; omega] at h
    rw [o1, o2]
    wp_walk using wpAny_loadPart' hl, wpAny_loadPart' hb
    show R (.ok (.ret (.bool (us.size == ws.size)))) _
    rw [hz]
    simpa using h
  | succ k ih =>
    intro i hk A R s ⟨hl, hb, he, h⟩
    obtain ⟨hp, g, d, tk, os⟩ := s
    wp_walk using wpAny_loadPart' hl, wpAny_loadPart' hb
    have l1 : i < us.size := by omega
    have l2 : i < ws.size := by omega
    have o1 : us[((i : Nat) : Int).toNat]? = some us[i] := by simp [l1]
    have o2 : ws[((i : Nat) : Int).toNat]? = some ws[i] := by simp [l2]
    rw [show (List.range us.size).drop i = i :: (List.range us.size).drop (i + 1) by simp [List.drop_eq_getElem_cons, l1], List.all_cons] at h
    rw [o1, o2]
    refine wpAny_bind (he i l1 l2 _ _ ?_)
    cases fb : f i with
    | true =>
      rw [fb] at h
      wp_walk
      rw [show ((i : Int) + 1) = ((i + 1 : Nat) : Int) by omega]
      refine ⟨plainId_quiet plain_eq_loop _, codeAny_builtin entry_eq_loop ?_⟩
      rw [Around.under_plainId plain_eq_loop _]
      exact ih (i + 1) (by omega) A R _ ⟨hl, hb, he, by simpa using h⟩
    | false =>
      rw [fb] at h
      wp_walk using wpAny_loadPart' hl, wpAny_loadPart' hb
      rw [o1, o2]
      wp_walk
      simpa using h
theorem loop3 (p q : Addr) (us ws : Array Value) (n n2 : Nat) (da db : Option Addr) (sa sb : Array (Option Value)) (hz : us.size = ws.size) (f : Nat → Bool) (k : Nat) :
    ∀ i : Nat, us.size - i = k → MeetsIn P w (Builtin.«list.__eq__.loop» ⟨[.ref p, .ref q, rawInt i, rawInt 3], []⟩)
      (fun A R s => s.heap.get? p = some { cls := .type "list", dict := da, data := .seq us n, slots := sa } ∧ s.heap.get? q = some { cls := .type "list", dict := db, data := .seq ws n2, slots := sb } ∧
        Items P w A s us ws f ∧ R (.ok (.ret (.bool (!((List.range us.size).drop i).all f)))) s) := by
  induction k with
  | zero =>
    intro i hk A R s ⟨hl, hb, he, h⟩
    obtain ⟨hp, g, d, tk, os⟩ := s
    wp_walk using wpAny_loadPart' hl, wpAny_loadPart' hb
    have o1 : us[((i : Nat) : Int).toNat]? = none := by simp; omega
    have o2 : ws[((i : Nat) : Int).toNat]? = none := by simp; omega
    rw [show (List.range us.size).drop i = [] by simp; omega] at h
    rw [o1, o2]
    wp_walk using wpAny_loadPart' hl, wpAny_loadPart' hb
    show R (.ok (.ret (.bool (us.size != ws.size)))) _
    rw [hz]
    simpa using h
  | succ k ih =>
    intro i hk A R s ⟨hl, hb, he, h⟩
    obtain ⟨hp, g, d, tk, os⟩ := s
    wp_walk using wpAny_loadPart' hl, wpAny_loadPart' hb
    have l1 : i < us.size := by omega
    have l2 : i < ws.size := by omega
    have o1 : us[((i : Nat) : Int).toNat]? = some us[i] := by simp [l1]
    have o2 : ws[((i : Nat) : Int).toNat]? = some ws[i] := by simp [l2]
    rw [show (List.range us.size).drop i = i :: (List.range us.size).drop (i + 1) by simp [List.drop_eq_getElem_cons, l1], List.all_cons] at h
    rw [o1, o2]
    refine wpAny_bind (he i l1 l2 _ _ ?_)
    cases fb : f i with
    | true =>
      rw [fb] at h
      wp_walk
      rw [show ((i : Int) + 1) = ((i + 1 : Nat) : Int) by omega]
      refine ⟨plainId_quiet plain_eq_loop _, codeAny_builtin entry_eq_loop ?_⟩
      rw [Around.under_plainId plain_eq_loop _]
      exact ih (i + 1) (by omega) A R _ ⟨hl, hb, he, by simpa using h⟩
    | false =>
      rw [fb] at h
      wp_walk using wpAny_loadPart' hl, wpAny_loadPart' hb
      rw [o1, o2]
      wp_walk
      simpa using h
theorem list2 (p q : Addr) (us ws : Array Value) (n n2 : Nat) (da db : Option Addr) (sa sb : Array (Option Value)) (f : Nat → Bool) :
    MeetsIn P w (Builtin.«list.__eq__» ⟨[.ref p, .ref q], []⟩)
      (fun A R s => s.heap.get? p = some { cls := .type "list", dict := da, data := .seq us n, slots := sa } ∧ s.heap.get? q = some { cls := .type "list", dict := db, data := .seq ws n2, slots := sb } ∧
        Items P w A s us ws f ∧ R (.ok (.ret (.bool (us.size == ws.size && (List.range us.size).all f)))) s) := by
  intro A R s ⟨hl, hb, he, h⟩
  by_cases hz : us.size = ws.size
  · have h' : R (.ok (.ret (.bool ((List.range us.size).all f)))) s := by simpa [hz] using h
    obtain ⟨hp, g, d, tk, os⟩ := s
    have f3 := AutoSeq1.sub_list_list
    have hne : ¬ (us.size != ws.size) = true := by simp [hz]
    wp_walk using wpAny_loadPart' hl, wpAny_loadPart' hb
    refine ⟨plainId_quiet plain_eq_loop _, codeAny_builtin entry_eq_loop ?_⟩
    rw [Around.under_plainId plain_eq_loop _]
    exact loop2 p q us ws n n2 da db sa sb hz f _ 0 rfl A R _ ⟨hl, hb, he, by simpa using h'⟩
  · have h' : R (.ok (.ret (.bool false))) s := by
      have e : (us.size == ws.size) = false := by simpa using hz
      rw [e] at h
      exact h
    exact (list_eq_lengthsAt p q us ws n n2 da db sa sb (by simpa using hz)) P w A R s ⟨hl, hb, h'⟩
theorem list3 (p q : Addr) (us ws : Array Value) (n n2 : Nat) (da db : Option Addr) (sa sb : Array (Option Value)) (f : Nat → Bool) :
    MeetsIn P w (Builtin.«list.__ne__» ⟨[.ref p, .ref q], []⟩)
      (fun A R s => s.heap.get? p = some { cls := .type "list", dict := da, data := .seq us n, slots := sa } ∧ s.heap.get? q = some { cls := .type "list", dict := db, data := .seq ws n2, slots := sb } ∧
        Items P w A s us ws f ∧ R (.ok (.ret (.bool (!(us.size == ws.size && (List.range us.size).all f))))) s) := by
  intro A R s ⟨hl, hb, he, h⟩
  by_cases hz : us.size = ws.size
  · have h' : R (.ok (.ret (.bool (!(List.range us.size).all f)))) s := by simpa [hz] using h
    obtain ⟨hp, g, d, tk, os⟩ := s
    have f3 := AutoSeq1.sub_list_list
    have hne : ¬ (us.size != ws.size) = true := by simp [hz]
    wp_walk using wpAny_loadPart' hl, wpAny_loadPart' hb
    refine ⟨plainId_quiet plain_eq_loop _, codeAny_builtin entry_eq_loop ?_⟩
    rw [Around.under_plainId plain_eq_loop _]
    exact loop3 p q us ws n n2 da db sa sb hz f _ 0 rfl A R _ ⟨hl, hb, he, by simpa using h'⟩
  · have h' : R (.ok (.ret (.bool true))) s := by
      have e : (us.size == ws.size) = false := by simpa using hz
      rw [e] at h
      exact h
    exact (list_ne_lengthsAt p q us ws n n2 da db sa sb (by simpa using hz)) P w A R s ⟨hl, hb, h'⟩
theorem tup2 (p q : Addr) (us ws : Array Value) (n n2 : Nat) (da db : Option Addr) (sa sb : Array (Option Value)) (hz : us.size = ws.size) (f : Nat → Bool) :
    MeetsIn P w (Builtin.«tuple.__eq__» ⟨[.ref p, .ref q], []⟩)
      (fun A R s => s.heap.get? p = some { cls := .type "tuple", dict := da, data := .seq us n, slots := sa } ∧ s.heap.get? q = some { cls := .type "tuple", dict := db, data := .seq ws n2, slots := sb } ∧
        Items P w A s us ws f ∧ R (.ok (.ret (.bool ((List.range us.size).all f)))) s) :=
  .of_wp fun A R s ⟨hl, hb, he, h⟩ => by
    obtain ⟨hp, g, d, tk, os⟩ := s
    have f2 := AutoSeq1.sub_tuple_tuple
    have hZ : (us.toList.zip ws.toList).length = us.size := by simp [hz]
    wp_walk using wpAny_loadPart' hl, wpAny_loadPart' hb, wpAny_forIn_list _ (fun rest b s' => b.1 = none ∧ s' = ⟨hp, g, d, tk, os⟩ ∧ ∃ i, rest = (us.toList.zip ws.toList).drop i ∧ R (.ok (.ret (.bool (((List.range us.size).drop i).all f)))) ⟨hp, g, d, tk, os⟩) _
    case turn =>
      rintro ⟨y, x⟩ rest b s' ⟨hb', rfl, i, hz', hR⟩
      have lt : i < (us.toList.zip ws.toList).length := by
        rcases Nat.lt_or_ge i (us.toList.zip ws.toList).length with h' | h'
        · exact h'
        · rw [List.drop_of_length_le h'] at hz'; cases hz'
      have l1 : i < us.size := hZ ▸ lt
      have l2 : i < ws.size := hz ▸ l1
      rw [List.drop_eq_getElem_cons lt] at hz'
      injection hz' with hyx hrest
      have hy : y = us[i] := by have := congrArg Prod.fst hyx; simpa using this
      have hx : x = ws[i] := by have := congrArg Prod.snd hyx; simpa using this
      subst hy hx
      rw [show (List.range us.size).drop i = i :: (List.range us.size).drop (i + 1) by simp [List.drop_eq_getElem_cons, l1], List.all_cons] at hR
      refine wpAny_bind (he i l1 l2 _ _ ?_)
      cases fb : f i with
      | true =>
        rw [fb] at hR
        wp_walk
        exact ⟨rfl, rfl, i + 1, hrest, by simpa using hR⟩
      | false =>
        rw [fb] at hR
        wp_walk
        exact ⟨_, rfl, by simpa using hR⟩
    case fin =>
      rintro ⟨b1, b2⟩ s' ⟨hb', rfl, i, hz', hR⟩
      simp only at hb'
      subst hb'
      have ge : us.size ≤ i := by
        rcases Nat.lt_or_ge i (us.toList.zip ws.toList).length with h' | h'
        · rw [List.drop_eq_getElem_cons h'] at hz'; cases hz'
        · exact hZ ▸ h'
      rw [List.drop_of_length_le (by simpa using ge)] at hR
      wp_walk
      exact ⟨_, rfl, by simpa [Builtin.Tuple.tupleCompareSizes, hz] using hR⟩
    case h =>
      exact ⟨rfl, rfl, 0, rfl, by simpa using h⟩
theorem tup3 (p q : Addr) (us ws : Array Value) (n n2 : Nat) (da db : Option Addr) (sa sb : Array (Option Value)) (hz : us.size = ws.size) (f : Nat → Bool) :
    MeetsIn P w (Builtin.«tuple.__ne__» ⟨[.ref p, .ref q], []⟩)
      (fun A R s => s.heap.get? p = some { cls := .type "tuple", dict := da, data := .seq us n, slots := sa } ∧ s.heap.get? q = some { cls := .type "tuple", dict := db, data := .seq ws n2, slots := sb } ∧
        Items P w A s us ws f ∧ R (.ok (.ret (.bool (!(List.range us.size).all f)))) s) :=
  .of_wp fun A R s ⟨hl, hb, he, h⟩ => by
    obtain ⟨hp, g, d, tk, os⟩ := s
    have f2 := AutoSeq1.sub_tuple_tuple
    have hZ : (us.toList.zip ws.toList).length = us.size := by simp [hz]
    wp_walk using wpAny_loadPart' hl, wpAny_loadPart' hb, wpAny_forIn_list _ (fun rest b s' => b.1 = none ∧ s' = ⟨hp, g, d, tk, os⟩ ∧ ∃ i, rest = (us.toList.zip ws.toList).drop i ∧ R (.ok (.ret (.bool (!((List.range us.size).drop i).all f)))) ⟨hp, g, d, tk, os⟩) _
    case turn =>
      rintro ⟨y, x⟩ rest b s' ⟨hb', rfl, i, hz', hR⟩
      have lt : i < (us.toList.zip ws.toList).length := by
        rcases Nat.lt_or_ge i (us.toList.zip ws.toList).length with h' | h'
        · exact h'
        · rw [List.drop_of_length_le h'] at hz'; cases hz'
      have l1 : i < us.size := hZ ▸ lt
      have l2 : i < ws.size := hz ▸ l1
      rw [List.drop_eq_getElem_cons lt] at hz'
      injection hz' with hyx hrest
      have hy : y = us[i] := by have := congrArg Prod.fst hyx; simpa using this
      have hx : x = ws[i] := by have := congrArg Prod.snd hyx; simpa using this
      subst hy hx
      rw [show (List.range us.size).drop i = i :: (List.range us.size).drop (i + 1) by simp [List.drop_eq_getElem_cons, l1], List.all_cons] at hR
      refine wpAny_bind (he i l1 l2 _ _ ?_)
      cases fb : f i with
      | true =>
        rw [fb] at hR
        wp_walk
        exact ⟨rfl, rfl, i + 1, hrest, by simpa using hR⟩
      | false =>
        rw [fb] at hR
        wp_walk
        exact ⟨_, rfl, by simpa using hR⟩
    case fin =>
      rintro ⟨b1, b2⟩ s' ⟨hb', rfl, i, hz', hR⟩
      simp only at hb'
      subst hb'
      have ge : us.size ≤ i := by
        rcases Nat.lt_or_ge i (us.toList.zip ws.toList).length with h' | h'
        · rw [List.drop_eq_getElem_cons h'] at hz'; cases hz'
        · exact hZ ▸ h'
      rw [List.drop_of_length_le (by simpa using ge)] at hR
      wp_walk
      exact ⟨_, rfl, by simpa [Builtin.Tuple.tupleCompareSizes, hz, bne] using hR⟩
    case h =>
      exact ⟨rfl, rfl, 0, rfl, by simpa using h⟩
/-- what == and != of two references answer -/
def RcP (P : Program) (w : World) (A : Around) (s : Shared) (u v : Value) (b : Bool) : Prop :=
  (∀ E Q : Value → Shared → Prop, Q (.bool b) s → wpAny (model P w) A (richCompare .Eq u v) Q E s) ∧ (∀ E Q : Value → Shared → Prop, Q (.bool (!b)) s → wpAny (model P w) A (richCompare .NotEq u v) Q E s)
theorem rc_lists {A : Around} {s : Shared} {p q : Addr} {us ws : Array Value} {f : Nat → Bool} (hl : s.heap.IsList p us) (hb : s.heap.IsList q ws) (hu : A.units < cLine) (he : Items P w A s us ws f) : RcP P w A s (.ref p) (.ref q) (us.size == ws.size && (List.range us.size).all f) := by
  obtain ⟨⟨c1, d1, x1, s1⟩, o1, e1, n1, y1⟩ := id hl
  obtain ⟨⟨c2, d2, x2, s2⟩, o2, e2, n2, y2⟩ := id hb
  simp only at e1 y1 e2 y2
  subst e1 y1 e2 y2
  have t1 : s.TypeIs (.ref p) "list" := ⟨_, o1, rfl⟩
  have t2 : s.TypeIs (.ref q) "list" := ⟨_, o2, rfl⟩
  refine ⟨fun E Q h => ?_, fun E Q h => ?_⟩
  · exact wpAny_richCompare_same_room (op := .Eq) t1 t2 F.slot_list_eq (call_meetsIn F.slot_list_eq t1 F.entry_list_eq (F.args_list_eq_2 _ _) (list2 p q us ws n1 n2 d1 d2 s1 s2 f) ⟨o1, o2, he, ⟨(fun x => nomatch x), h⟩⟩) hu
  · exact wpAny_richCompare_same_room (op := .NotEq) t1 t2 F.slot_list_ne (call_meetsIn F.slot_list_ne t1 F.entry_list_ne (F.args_list_ne_2 _ _) (list3 p q us ws n1 n2 d1 d2 s1 s2 f) ⟨o1, o2, he, ⟨(fun x => nomatch x), h⟩⟩) hu
theorem rc_tups {A : Around} {s : Shared} {p q : Addr} {us ws : Array Value} {f : Nat → Bool} (hl : s.heap.IsTuple p us) (hb : s.heap.IsTuple q ws) (hz : us.size = ws.size) (hu : A.units < cLine) (he : Items P w A s us ws f) : RcP P w A s (.ref p) (.ref q) ((List.range us.size).all f) := by
  obtain ⟨⟨c1, d1, x1, s1⟩, o1, e1, n1, y1⟩ := id hl
  obtain ⟨⟨c2, d2, x2, s2⟩, o2, e2, n2, y2⟩ := id hb
  simp only at e1 y1 e2 y2
  subst e1 y1 e2 y2
  have t1 : s.TypeIs (.ref p) "tuple" := ⟨_, o1, rfl⟩
  have t2 : s.TypeIs (.ref q) "tuple" := ⟨_, o2, rfl⟩
  refine ⟨fun E Q h => ?_, fun E Q h => ?_⟩
  · exact wpAny_richCompare_same_room (op := .Eq) t1 t2 F.slot_tuple_eq (call_meetsIn F.slot_tuple_eq t1 F.entry_tuple_eq (F.args_tuple_eq_2 _ _) (tup2 p q us ws n1 n2 d1 d2 s1 s2 hz f) ⟨o1, o2, he, ⟨(fun x => nomatch x), h⟩⟩) hu
  · exact wpAny_richCompare_same_room (op := .NotEq) t1 t2 F.slot_tuple_ne (call_meetsIn F.slot_tuple_ne t1 F.entry_tuple_ne (F.args_tuple_ne_2 _ _) (tup3 p q us ws n1 n2 d1 d2 s1 s2 hz f) ⟨o1, o2, he, ⟨(fun x => nomatch x), h⟩⟩) hu
end
section
variable {P : Program} {w : World} {T : Type} [DecidableEq T] {knd : KeyKind P w T} {A : Around} {s : Shared}
open PySem.W
theorem rc_dicts {a b : Addr} {ka kb : List (T × Value)} {r : Bool} (ha : (a == sysModules) = false) (hb : (b == sysModules) = false) (da : s.heap.DictOf knd a ka) (db : s.heap.DictOf knd b kb) (hu : A.units < cLine)
    (hits : ka.length = kb.length → KeqHitsP P w A.in1 s kb ka r) : RcP P w A s (.ref a) (.ref b) (ka.length == kb.length && r) := by
  refine ⟨fun E Q h => rcP_dicts ha hb da db hu hits E Q h, fun E Q h => ?_⟩
  refine wpAny_richCompare_same_room (op := .NotEq) da.typeIs db.typeIs PySem.F.slot_dict_ne (wpAny_call_entry PySem.F.slot_dict_ne da.typeIs PySem.F.entry_dict_ne ?_ (PySem.F.args_dict_ne_2 _ _)) hu
  show wpAny _ _ (Builtin.Dict.dictSlotArgs "__ne__" ⟨[.ref a, .ref b], []⟩ >>= _) _ _ s
  refine wpAny_bind ?_
  unfold Builtin.Dict.dictSlotArgs
  refine wpAny_bind (wpAny_notOrdered_dict da.typeIs ?_)
  show wpAny _ _ (pure (Value.ref a, Value.ref b)) _ _ s
  refine wpAny_pure (wpAny_bind (wpAny_isInstance (T := "dict") db.typeIs PySem.F.sub_dict_dict ?_))
  simp only [Bool.not_true, Bool.false_eq_true, if_false]
  refine wpAny_bind (wpAny_pure (wpAny_bind (wpAny_pure (wpAny_bind (samePairsP ha hb da db hits ?_)))))
  refine wpAny_pure ⟨_, rfl, (fun x => nomatch x), ?_⟩
  cases hk : (ka.length == kb.length && r) <;> rw [hk] at h <;> exact h
end
end RQ1
set_option maxHeartbeats 400000
set_option autoImplicit false
namespace R
open PySem PySem.Spec PyProof.Rows L2 RQ1
abbrev EqS (X : Cx) (A : Around) (s : Shared) (v w : V) (b : Bool) : Prop := ∀ u u', RelV v u → RelV w u' → SeqAt.EqP X.prog X.w A s u u' b
/-- data that can be compared -/
class DEq (α : Type) [Dat α] where
  dep : Nat
  eqv : α → α → Bool
  same : ∀ {X : Cx} {pins : List (Addr × Obj)} {σ : L2.St} {H : Hp} {s : Shared} {v : V} {x y : α}, Inv X pins σ H s → Dat.rep X.K H v x → Dat.rep X.K H v y → eqv x y = true
  run : ∀ {X : Cx} {pins : List (Addr × Obj)} {σ : L2.St} {H : Hp} {s : Shared} {A : Around} {v w : V} {x y : α}, Inv X pins σ H s → A.units + dep < cLine → Dat.rep X.K H v x → Dat.rep X.K H w y → EqS X A s v w (eqv x y)
/-- of these, what lies behind a reference -/
class DRc (α : Type) [Dat α] [DEq α] where
  rc : ∀ {X : Cx} {pins : List (Addr × Obj)} {σ : L2.St} {H : Hp} {s : Shared} {A : Around} {v w : V} {x y : α}, Inv X pins σ H s → A.units + DEq.dep α < cLine → Dat.rep X.K H v x → Dat.rep X.K H w y → ∃ a b, v = .ref a ∧ w = .ref b ∧ RcP X.prog X.w A s (.ref a) (.ref b) (DEq.eqv x y)
def deq {α : Type} [Dat α] [DEq α] (x y : α) : Bool := DEq.eqv x y
section
variable {X : Cx} {pins : List (Addr × Obj)} {σ : L2.St} {H : Hp} {s : Shared} {A : Around}
theorem eqS_flat {v w : V} (hv : flatV v = true) (hw : flatV w = true) : EqS X A s v w (eqV v w) := fun u u' r r' => (eqAt_V r r' hv hw).eqP
theorem eqS_ref {α : Type} {a b : Addr} {k : Bool} (hs : a = b → k = true) (h : RcP X.prog X.w A s (.ref a) (.ref b) k) : EqS X A s (.ref a) (.ref b) k := fun u u' r r' => by
  cases (show u = Value.ref a from r)
  cases (show u' = Value.ref b from r')
  by_cases e : a = b
  · rw [hs e]
    subst e
    exact (SeqAt.EqAt.same _).eqP
  · exact SeqAt.eqP_refs e h.1
end
instance : DEq Int := ⟨0, fun x y => decide (x = y), fun {X pins σ H s v x y} I h h' => by cases (show v = .int x from h); cases (show V.int x = .int y from h'); simp, fun {X pins σ H s A v w x y} I hu h h' => by
  cases (show v = .int x from h)
  cases (show w = .int y from h')
  exact eqS_flat (v := .int x) (w := .int y) rfl rfl⟩
instance : DEq Str := ⟨0, fun x y => decide (x = y), fun {X pins σ H s v x y} I h h' => by cases (show v = .str x from h); cases (show V.str x = .str y from h'); simp, fun {X pins σ H s A v w x y} I hu h h' => by
  cases (show v = .str x from h)
  cases (show w = .str y from h')
  have q := eqS_flat (X := X) (A := A) (s := s) (v := .str x) (w := .str y) rfl rfl
  have e : eqV (.str x) (.str y) = decide (x = y) := by
    show (x == y) = decide (x = y)
    by_cases k : x = y
    · rw [k]; simp
    · rw [decide_eq_false k]; exact beq_false_of_ne k
  rw [e] at q
  exact q⟩
instance : DEq Bool := ⟨0, fun x y => decide (x = y), fun {X pins σ H s v x y} I h h' => by cases (show v = .bl x from h); cases (show V.bl x = .bl y from h'); simp, fun {X pins σ H s A v w x y} I hu h h' => by
  cases (show v = .bl x from h)
  cases (show w = .bl y from h')
  have q := eqS_flat (X := X) (A := A) (s := s) (v := .bl x) (w := .bl y) rfl rfl
  have e : eqV (.bl x) (.bl y) = decide (x = y) := by cases x <;> cases y <;> rfl
  rw [e] at q
  exact q⟩
instance : DEq Unit := ⟨0, fun _ _ => true, fun _ _ _ => rfl, fun {X pins σ H s A v w x y} I hu h h' => by
  cases (show v = .non from h)
  cases (show w = .non from h')
  exact eqS_flat (v := .non) (w := .non) rfl rfl⟩
/-! tuples -/
section
variable {X : Cx} {pins : List (Addr × Obj)} {σ : L2.St} {H : Hp} {s : Shared} {A : Around}
theorem items_of {vs ws : List V} {us us' : List Value} {f : Nat → Bool} (r : Vals vs us) (r' : Vals ws us') (h : ∀ j v w, vs[j]? = some v → ws[j]? = some w → EqS X A.in1 s v w (f j)) : Items X.prog X.w A s us.toArray us'.toArray f := fun j h1 h2 => by
  have k1 : j < vs.length := by rw [r.length]; simpa using h1
  have k2 : j < ws.length := by rw [r'.length]; simpa using h2
  obtain ⟨u, hu, ru⟩ := r.get (List.getElem?_eq_getElem k1)
  obtain ⟨u', hu', ru'⟩ := r'.get (List.getElem?_eq_getElem k2)
  have e1 : us[j]? = some us.toArray[j] := by
    have q : j < us.length := by simpa using h1
    rw [List.getElem?_eq_getElem q]
    simp
  have e2 : us'[j]? = some us'.toArray[j] := by
    have q : j < us'.length := by simpa using h2
    rw [List.getElem?_eq_getElem q]
    simp
  rw [e1] at hu
  rw [e2] at hu'
  cases hu
  cases hu'
  exact h j _ _ (List.getElem?_eq_getElem k1) (List.getElem?_eq_getElem k2) _ _ ru ru'
theorem rc_tupS (I : Inv X pins σ H s) {a b : Addr} {vs ws : List V} {f : Nat → Bool} (hu : A.units < cLine) (h1 : SqT X.K H a vs) (h2 : SqT X.K H b ws) (hz : vs.length = ws.length) (h : ∀ j v w, vs[j]? = some v → ws[j]? = some w → EqS X A.in1 s v w (f j)) :
    RcP X.prog X.w A s (.ref a) (.ref b) ((List.range vs.length).all f) := by
  obtain ⟨us, r, e, _⟩ := I.tuple h1
  obtain ⟨us', r', e', _⟩ := I.tuple h2
  have q := rc_tups (P := X.prog) (w := X.w) e e' (by rw [List.size_toArray, List.size_toArray, ← r.length, ← r'.length]; exact hz) hu (items_of r r' h)
  rw [List.size_toArray, ← r.length] at q
  exact q
theorem rc_listS (I : Inv X pins σ H s) {a b : Addr} {vs ws : List V} {f : Nat → Bool} (hu : A.units < cLine) (h1 : SqL X.K H a vs) (h2 : SqL X.K H b ws) (h : ∀ j v w, vs[j]? = some v → ws[j]? = some w → EqS X A.in1 s v w (f j)) :
    RcP X.prog X.w A s (.ref a) (.ref b) (vs.length == ws.length && (List.range vs.length).all f) := by
  obtain ⟨us, r, p, _⟩ := I.list h1
  obtain ⟨us', r', p', _⟩ := I.list h2
  have q := rc_lists (P := X.prog) (w := X.w) p.isList p'.isList hu (items_of r r' h)
  rw [List.size_toArray, List.size_toArray, ← r.length, ← r'.length] at q
  exact q
theorem units_in1 {A : Around} {n : Nat} (h : A.units + (n + 1) < cLine) : A.in1.units + n < cLine := by
  show A.units + 1 + n < cLine
  omega
end
section
variable {α β γ δ : Type} [Dat α] [Dat β] [Dat γ] [Dat δ] [DEq α] [DEq β] [DEq γ] [DEq δ]
theorem rc_pair {X : Cx} {pins : List (Addr × Obj)} {σ : L2.St} {H : Hp} {s : Shared} {A : Around} {v w : V} {x1 y1 : α} {x2 y2 : β} (I : Inv X pins σ H s) (hu : A.units + (max (DEq.dep α) (DEq.dep β) + 1) < cLine) (h : repT X.K H v [.dat x1, .dat x2]) (h' : repT X.K H w [.dat y1, .dat y2]) :
    ∃ a b, v = .ref a ∧ w = .ref b ∧ RcP X.prog X.w A s (.ref a) (.ref b) (DEq.eqv x1 y1 && DEq.eqv x2 y2) := by
  obtain ⟨a, vs, rfl, t1, a1⟩ := h
  obtain ⟨b, ws, rfl, t2, a2⟩ := h'
  match vs, ws, a1, a2 with
  | [v1, v2], [w1, w2], ⟨p1, p2, _⟩, ⟨q1, q2, _⟩ =>
    have hv := units_in1 hu
    have q := rc_tupS (A := A) I (f := fun j => if j = 0 then DEq.eqv x1 y1 else DEq.eqv x2 y2) (by omega) t1 t2 rfl (fun j v w hj hk => by
      match j with
      | 0 => cases hj; cases hk; exact DEq.run I (by omega) p1 q1
      | 1 => cases hj; cases hk; exact DEq.run I (by omega) p2 q2
      | j + 2 => simp at hj)
    exact ⟨a, b, rfl, rfl, by simpa [List.range_succ] using q⟩
theorem same_pair {X : Cx} {pins : List (Addr × Obj)} {σ : L2.St} {H : Hp} {s : Shared} {v : V} {x1 y1 : α} {x2 y2 : β} (I : Inv X pins σ H s) (h : repT X.K H v [.dat x1, .dat x2]) (h' : repT X.K H v [.dat y1, .dat y2]) : (DEq.eqv x1 y1 && DEq.eqv x2 y2) = true := by
  obtain ⟨a, vs, rfl, t1, a1⟩ := h
  obtain ⟨b, ws, e, t2, a2⟩ := h'
  cases e
  cases I.tuple_inj t1 t2
  match vs, a1, a2 with
  | [v1, v2], ⟨p1, p2, _⟩, ⟨q1, q2, _⟩ => rw [DEq.same I p1 q1, DEq.same I p2 q2]; rfl
instance : DEq (α × β) := ⟨max (DEq.dep α) (DEq.dep β) + 1, fun x y => DEq.eqv x.1 y.1 && DEq.eqv x.2 y.2, fun {X pins σ H s v x y} I h h' => same_pair I h h', fun {X pins σ H s A v w x y} I hu h h' => by
  obtain ⟨a, b, rfl, rfl, q⟩ := rc_pair I hu h h'
  refine eqS_ref (α := α) (fun e => ?_) q
  subst e
  exact same_pair I h h'⟩
instance : DRc (α × β) := ⟨fun {X pins σ H s A v w x y} I hu h h' => rc_pair I hu h h'⟩
instance : DEq Rat := ⟨1, fun x y => decide (x = y), fun {X pins σ H s v x y} I h h' => by
  have q := same_pair I h h'
  rw [Bool.and_eq_true] at q
  exact decide_eq_true (Rat.ext (of_decide_eq_true q.1) (by have := of_decide_eq_true q.2; exact Int.ofNat.inj this)), fun {X pins σ H s A v w x y} I hu h h' => by
  obtain ⟨a, b, rfl, rfl, q⟩ := rc_pair I (by show A.units + (max 0 0 + 1) < cLine; exact hu) h h'
  have e : (DEq.eqv x.num y.num && DEq.eqv (x.den : Int) (y.den : Int)) = decide (x = y) := by
    show (decide (x.num = y.num) && decide ((x.den : Int) = (y.den : Int))) = _
    by_cases k : x = y
    · subst k; simp
    · rw [decide_eq_false k]
      by_cases k1 : x.num = y.num
      · have k2 : ¬ ((x.den : Int) = (y.den : Int)) := fun z => k (Rat.ext k1 (Int.ofNat.inj z))
        rw [decide_eq_false k2, Bool.and_false]
      · rw [decide_eq_false k1, Bool.false_and]
  rw [e] at q
  refine eqS_ref (α := Int) (fun z => ?_) q
  subst z
  have q := same_pair I h h'
  rw [← e]
  exact q⟩
instance : DRc Rat := ⟨fun {X pins σ H s A v w x y} I hu h h' => by
  obtain ⟨a, b, e1, e2, q⟩ := rc_pair I (by show A.units + (max 0 0 + 1) < cLine; exact hu) h h'
  have e : (DEq.eqv x.num y.num && DEq.eqv (x.den : Int) (y.den : Int)) = decide (x = y) := by
    show (decide (x.num = y.num) && decide ((x.den : Int) = (y.den : Int))) = _
    by_cases k : x = y
    · subst k; simp
    · rw [decide_eq_false k]
      by_cases k1 : x.num = y.num
      · have k2 : ¬ ((x.den : Int) = (y.den : Int)) := fun z => k (Rat.ext k1 (Int.ofNat.inj z))
        rw [decide_eq_false k2, Bool.and_false]
      · rw [decide_eq_false k1, Bool.false_and]
  rw [e] at q
  exact ⟨a, b, e1, e2, q⟩⟩
theorem rc_three {X : Cx} {pins : List (Addr × Obj)} {σ : L2.St} {H : Hp} {s : Shared} {A : Around} {v w : V} {x1 y1 : α} {x2 y2 : β} {x3 y3 : γ} (I : Inv X pins σ H s) (hu : A.units + (max (DEq.dep α) (max (DEq.dep β) (DEq.dep γ)) + 1) < cLine) (h : repT X.K H v [.dat x1, .dat x2, .dat x3]) (h' : repT X.K H w [.dat y1, .dat y2, .dat y3]) :
    ∃ a b, v = .ref a ∧ w = .ref b ∧ RcP X.prog X.w A s (.ref a) (.ref b) (DEq.eqv x1 y1 && (DEq.eqv x2 y2 && DEq.eqv x3 y3)) := by
  obtain ⟨a, vs, rfl, t1, a1⟩ := h
  obtain ⟨b, ws, rfl, t2, a2⟩ := h'
  match vs, ws, a1, a2 with
  | [v1, v2, v3], [w1, w2, w3], ⟨p1, p2, p3, _⟩, ⟨q1, q2, q3, _⟩ =>
    have hv := units_in1 hu
    have q := rc_tupS (A := A) I (f := fun j => if j = 0 then DEq.eqv x1 y1 else if j = 1 then DEq.eqv x2 y2 else DEq.eqv x3 y3) (by omega) t1 t2 rfl (fun j v w hj hk => by
      match j with
      | 0 => cases hj; cases hk; exact DEq.run I (by omega) p1 q1
      | 1 => cases hj; cases hk; exact DEq.run I (by omega) p2 q2
      | 2 => cases hj; cases hk; exact DEq.run I (by omega) p3 q3
      | j + 3 => simp at hj)
    exact ⟨a, b, rfl, rfl, by simpa [List.range_succ, Bool.and_assoc] using q⟩
theorem same_three {X : Cx} {pins : List (Addr × Obj)} {σ : L2.St} {H : Hp} {s : Shared} {v : V} {x1 y1 : α} {x2 y2 : β} {x3 y3 : γ} (I : Inv X pins σ H s) (h : repT X.K H v [.dat x1, .dat x2, .dat x3]) (h' : repT X.K H v [.dat y1, .dat y2, .dat y3]) : (DEq.eqv x1 y1 && (DEq.eqv x2 y2 && DEq.eqv x3 y3)) = true := by
  obtain ⟨a, vs, rfl, t1, a1⟩ := h
  obtain ⟨b, ws, e, t2, a2⟩ := h'
  cases e
  cases I.tuple_inj t1 t2
  match vs, a1, a2 with
  | [v1, v2, v3], ⟨p1, p2, p3, _⟩, ⟨q1, q2, q3, _⟩ => rw [DEq.same I p1 q1, DEq.same I p2 q2, DEq.same I p3 q3]; rfl
instance : DEq (T3 α β γ) := ⟨max (DEq.dep α) (max (DEq.dep β) (DEq.dep γ)) + 1, fun x y => DEq.eqv x.a y.a && (DEq.eqv x.b y.b && DEq.eqv x.c y.c), fun {X pins σ H s v x y} I h h' => same_three I h h', fun {X pins σ H s A v w x y} I hu h h' => by
  obtain ⟨a, b, rfl, rfl, q⟩ := rc_three I hu h h'
  refine eqS_ref (α := α) (fun e => ?_) q
  subst e
  exact same_three I h h'⟩
instance : DRc (T3 α β γ) := ⟨fun {X pins σ H s A v w x y} I hu h h' => rc_three I hu h h'⟩
/-! lists -/
def eqL : List α → List α → Bool
  | [], [] => true
  | x :: xs, y :: ys => DEq.eqv x y && eqL xs ys
  | _, _ => false
def atE (xs ys : List α) (j : Nat) : Bool := match xs[j]?, ys[j]? with
  | some x, some y => DEq.eqv x y
  | _, _ => true
theorem range_all (n : Nat) (f : Nat → Bool) : (List.range (n + 1)).all f = (f 0 && (List.range n).all fun j => f (j + 1)) := by
  rw [List.range_succ_eq_map, List.all_cons, List.all_map]
  rfl
theorem eqL_is : ∀ xs ys : List α, (xs.length == ys.length && (List.range xs.length).all (atE xs ys)) = eqL xs ys
  | [], [] => rfl
  | [], _ :: _ => rfl
  | _ :: _, [] => rfl
  | x :: xs, y :: ys => by
    have ih := eqL_is xs ys
    have e : (List.range (xs.length + 1)).all (atE (x :: xs) (y :: ys)) = (DEq.eqv x y && (List.range xs.length).all (atE xs ys)) := by
      rw [range_all]
      congr 1
    rw [List.length_cons, List.length_cons, e]
    show _ = (DEq.eqv x y && eqL xs ys)
    rw [← ih]
    have : (xs.length + 1 == ys.length + 1) = (xs.length == ys.length) := by
      by_cases k : xs.length = ys.length
      · rw [k]; simp
      · rw [beq_false_of_ne k, beq_false_of_ne (by omega)]
    rw [this]
    cases (xs.length == ys.length) <;> cases DEq.eqv x y <;> rfl
theorem repL_at {X : Cx} {H : Hp} : ∀ {vs : List V} {xs : List α}, repL X.K H vs xs → ∀ {j : Nat} {v : V}, vs[j]? = some v → ∃ x, xs[j]? = some x ∧ Dat.rep X.K H v x := fun {vs xs} h => by
  unfold repL at h
  induction h with
  | nil => intro j v e; simp at e
  | cons h0 t ih =>
    intro j v e
    cases j with
    | zero =>
      have e' := e
      simp at e'
      subst e'
      exact ⟨_, rfl, h0⟩
    | succ j => simpa using ih (by simpa using e)
theorem same_list {X : Cx} {pins : List (Addr × Obj)} {σ : L2.St} {H : Hp} {s : Shared} (I : Inv X pins σ H s) : ∀ {vs : List V} {xs ys : List α}, repL X.K H vs xs → repL X.K H vs ys → eqL xs ys = true
  | [], [], [], _, _ => rfl
  | v :: vs, x :: xs, y :: ys, .cons a b, .cons c d => by
    show (DEq.eqv x y && eqL xs ys) = true
    rw [DEq.same I a c, same_list I b d]
    rfl
theorem rc_lst {X : Cx} {pins : List (Addr × Obj)} {σ : L2.St} {H : Hp} {s : Shared} {A : Around} {v w : V} {x y : List α} (I : Inv X pins σ H s) (hu : A.units + (DEq.dep α + 1) < cLine) (h : Dat.rep X.K H v x) (h' : Dat.rep X.K H w y) : ∃ a b, v = .ref a ∧ w = .ref b ∧ RcP X.prog X.w A s (.ref a) (.ref b) (eqL x y) := by
  obtain ⟨a, vs, rfl, t1, a1⟩ := h
  obtain ⟨b, ws, rfl, t2, a2⟩ := h'
  have hv := units_in1 hu
  refine ⟨a, b, rfl, rfl, ?_⟩
  have q := rc_listS (A := A) I (f := atE x y) (by omega) t1 t2 (fun j v w hj hk => by
    obtain ⟨x0, e1, r1⟩ := repL_at a1 hj
    obtain ⟨y0, e2, r2⟩ := repL_at a2 hk
    unfold atE
    rw [e1, e2]
    exact DEq.run I (by omega) r1 r2)
  rw [Paired.length a1, Paired.length a2, eqL_is] at q
  exact q
theorem same_lst {X : Cx} {pins : List (Addr × Obj)} {σ : L2.St} {H : Hp} {s : Shared} {v : V} {x y : List α} (I : Inv X pins σ H s) (h : Dat.rep X.K H v x) (h' : Dat.rep X.K H v y) : eqL x y = true := by
  obtain ⟨a, vs, rfl, t1, a1⟩ := h
  obtain ⟨b, ws, e, t2, a2⟩ := h'
  cases e
  cases I.list_inj t1 t2
  exact same_list I a1 a2
instance : DEq (List α) := ⟨DEq.dep α + 1, eqL, fun {X pins σ H s v x y} I h h' => same_lst I h h', fun {X pins σ H s A v w x y} I hu h h' => by
  obtain ⟨a, b, rfl, rfl, q⟩ := rc_lst I hu h h'
  refine eqS_ref (α := α) (fun e => ?_) q
  subst e
  exact same_lst I h h'⟩
instance : DRc (List α) := ⟨fun {X pins σ H s A v w x y} I hu h h' => rc_lst I hu h h'⟩
/-! dicts -/
def hitE (ys : List (Str × α)) (p : Str × α) : Bool := match lookD ys p.1 with
  | some q => DEq.eqv p.2 q
  | none => false
def eqD (xs ys : List (Str × α)) : Bool := xs.length == ys.length && xs.all (hitE ys)
theorem hits_of {X : Cx} {pins : List (Addr × Obj)} {σ : L2.St} {H : Hp} {s : Shared} {A : Around} (I : Inv X pins σ H s) (hu : A.units + DEq.dep α < cLine) {ks ls : List (Key × V)} {va vb : List (Key × Value)} {xs ys : List (Str × α)} (rb : KV ls vb) (db : repD X.K H ls ys) (ra : KV ks va) (da : repD X.K H ks xs) :
    PySem.W.KeqHitsP X.prog X.w A s vb va (xs.all (hitE ys)) := by
  unfold repD at da
  induction da generalizing va with
  | nil =>
    cases ra
    exact .nil
  | @cons p x ps xs' h t ih =>
    obtain ⟨key, v⟩ := p
    cases ra with
    | @cons _ q _ qs h1 h2 =>
      obtain ⟨key', u⟩ := q
      obtain ⟨e1, ru⟩ := h1
      have e1 : key = key' := e1
      subst e1
      have e2 : key = .inr x.1 := h.1
      subst e2
      rw [List.all_cons]
      have rr : RelO (valV ls (.inr x.1)) (valueAt vb (.inr x.1)) := rb.val _
      rcases db.look x.1 with ⟨n1, n2⟩ | ⟨v', y, hv, hy, ry⟩
      · rw [n1] at rr
        have n3 : valueAt vb (.inr x.1) = none := by
          cases hh : valueAt vb (.inr x.1) with
          | none => rfl
          | some z => rw [hh] at rr; exact rr.elim
        have : hitE ys x = false := by unfold hitE; rw [n2]
        rw [this, Bool.false_and]
        exact .miss n3
      · rw [hv] at rr
        obtain ⟨u', hu', ru'⟩ := rr.some_of
        have : hitE ys x = DEq.eqv x.2 y := by unfold hitE; rw [hy]
        rw [this]
        exact .hit hu' (DEq.run I hu h.2 ry _ _ ru ru') (ih h2)
theorem rc_dct {X : Cx} {pins : List (Addr × Obj)} {σ : L2.St} {H : Hp} {s : Shared} {A : Around} {v w : V} {x y : Dc α} (I : Inv X pins σ H s) (hu : A.units + (DEq.dep α + 1) < cLine) (h : Dat.rep X.K H v x) (h' : Dat.rep X.K H w y) : ∃ a b, v = .ref a ∧ w = .ref b ∧ RcP X.prog X.w A s (.ref a) (.ref b) (eqD x.kvs y.kvs) := by
  obtain ⟨a, ks, rfl, t1, a1⟩ := h
  obtain ⟨b, ls, rfl, t2, a2⟩ := h'
  have hv := units_in1 hu
  obtain ⟨_, ya, va, ra, da⟩ := dk_rd I.hok t1
  obtain ⟨_, yb, vb, rb, db⟩ := dk_rd I.hok t2
  have q := rc_dicts (P := X.prog) (w := X.w) ya yb da db (by omega) (fun _ => hits_of I (A := A.in1) (by omega) rb a2 ra a1)
  rw [← ra.length, ← rb.length, Paired.length a1, Paired.length a2] at q
  exact ⟨a, b, rfl, rfl, q⟩
theorem nodup_of {X : Cx} {pins : List (Addr × Obj)} {σ : L2.St} {H : Hp} {s : Shared} (I : Inv X pins σ H s) {a : Addr} {ks : List (Key × V)} {xs : List (Str × α)} (t : Rd H a (.dK ks)) (r : repD X.K H ks xs) : (xs.map Prod.fst).Nodup := by
  obtain ⟨zz, ya, va, ra, dd⟩ := dk_rd I.hok t
  have nd : (va.map (·.1)).Nodup := by
    obtain ⟨_, _, _, _, _, _, _, _, nd⟩ := dd
    exact nd
  rw [← ra.keys] at nd
  have e : ks.map (·.1) = (xs.map Prod.fst).map Sum.inr := by
    clear nd ra t dd zz
    unfold repD at r
    induction r with
    | nil => rfl
    | cons h _ ih => rw [List.map_cons, List.map_cons, List.map_cons, ih, h.1]
  rw [e] at nd
  exact (List.pairwise_map.mp nd).imp fun h e => h (by rw [e])
theorem lookD_mem : ∀ {ys : List (Str × α)} {p : Str × α}, (ys.map Prod.fst).Nodup → p ∈ ys → lookD ys p.1 = some p.2
  | [], _, _, h => by cases h
  | q :: ys, p, nd, h => by
    rw [List.map_cons, List.nodup_cons] at nd
    rcases List.mem_cons.mp h with rfl | h
    · unfold lookD; simp
    · have k : ¬ q.1 = p.1 := fun e => nd.1 (List.mem_map.mpr ⟨p, h, e.symm⟩)
      have e : lookD (q :: ys) p.1 = lookD ys p.1 := by unfold lookD; rw [List.find?_cons, decide_eq_false k]
      rw [e]
      exact lookD_mem nd.2 h
theorem same_dct {X : Cx} {pins : List (Addr × Obj)} {σ : L2.St} {H : Hp} {s : Shared} {v : V} {x y : Dc α} (I : Inv X pins σ H s) (h : Dat.rep X.K H v x) (h' : Dat.rep X.K H v y) : eqD x.kvs y.kvs = true := by
  obtain ⟨a, ks, rfl, t1, a1⟩ := h
  obtain ⟨b, ls, e, t2, a2⟩ := h'
  cases e
  have ek : ks = ls := by
    rcases t1 with t1 | ⟨o, t1⟩ <;> rcases t2 with t2 | ⟨o', t2⟩ <;> (rw [t1] at t2; cases t2) <;> rfl
  subst ek
  have nd := nodup_of I t1 a2
  unfold eqD
  rw [← Paired.length a1, ← Paired.length a2, beq_self_eq_true, Bool.true_and, List.all_eq_true]
  intro p hp
  have : ∃ q ∈ y.kvs, q.1 = p.1 ∧ DEq.eqv p.2 q.2 = true := by
    clear nd t1 t2
    generalize x.kvs = xs at a1 hp
    generalize y.kvs = ys at a2
    unfold repD at a1 a2
    induction a1 generalizing ys with
    | nil => cases hp
    | @cons k0 x0 ks' xs' h0 t ih =>
      cases a2 with
      | @cons _ y0 _ ys' h1 t1 =>
        rcases List.mem_cons.mp hp with rfl | hp
        · exact ⟨y0, List.mem_cons_self, by have := h0.1.symm.trans h1.1; injection this with this; exact this.symm, DEq.same I h0.2 h1.2⟩
        · obtain ⟨q, hq, r⟩ := ih hp _ t1
          exact ⟨q, List.mem_cons_of_mem _ hq, r⟩
  obtain ⟨q, hq, e1, e2⟩ := this
  unfold hitE
  rw [← e1, lookD_mem nd hq]
  exact e2
instance : DEq (Dc α) := ⟨DEq.dep α + 1, fun x y => eqD x.kvs y.kvs, fun {X pins σ H s v x y} I h h' => same_dct I h h', fun {X pins σ H s A v w x y} I hu h h' => by
  obtain ⟨a, b, rfl, rfl, q⟩ := rc_dct I hu h h'
  refine eqS_ref (α := α) (fun e => ?_) q
  subst e
  exact same_dct I h h'⟩
instance : DRc (Dc α) := ⟨fun {X pins σ H s A v w x y} I hu h h' => rc_dct I hu h h'⟩
/-! as expressions -/
def rEqX (α : Type) [Dat α] [DEq α] (K : PySem.W.Frag) : R2 := fun u v H Q => ∃ (x y : α), Dat.rep K H u x ∧ Dat.rep K H v y ∧ Q (.bl (deq x y)) H
def rNeX (α : Type) [Dat α] [DEq α] (K : PySem.W.Frag) : R2 := fun u v H Q => ∃ (x y : α), Dat.rep K H u x ∧ Dat.rep K H v y ∧ Q (.bl (!deq x y)) H
theorem op_eqX {X : Cx} [DRc α] (hu : X.A.units + 64 < cLine) (hd : DEq.dep α ≤ 60) : OpR X (compareOp .Eq) (rEqX α X.K) := by
  intro pins s σ H v w u u' Q I rx ry ⟨x, y, h1, h2, q⟩
  obtain ⟨a, b, rfl, rfl, k⟩ := DRc.rc (A := X.A) I (by omega) h1 h2
  cases rx
  cases ry
  exact k.1 _ _ ⟨.bl _, H, I, rfl, q⟩
theorem op_neX {X : Cx} [DRc α] (hu : X.A.units + 64 < cLine) (hd : DEq.dep α ≤ 60) : OpR X (compareOp .NotEq) (rNeX α X.K) := by
  intro pins s σ H v w u u' Q I rx ry ⟨x, y, h1, h2, q⟩
  obtain ⟨a, b, rfl, rfl, k⟩ := DRc.rc (A := X.A) I (by omega) h1 h2
  cases rx
  cases ry
  exact k.2 _ _ ⟨.bl _, H, I, rfl, q⟩
variable {X : Cx} {env : Env'} {x y : α} {a b : Expr} {pos : Pos}
theorem rv_eqX [DRc α] : RV X.K (rEqX α X.K) x y (deq x y) := fun U v1 v2 H _ r1 r2 Q q => ⟨x, y, Dat.mono wo_le r1, Dat.mono wo_le r2, q _ H (Ex.refl H) rfl⟩
theorem rv_neX [DRc α] : RV X.K (rNeX α X.K) x y (!deq x y) := fun U v1 v2 H _ r1 r2 Q q => ⟨x, y, Dat.mono wo_le r1, Dat.mono wo_le r2, q _ H (Ex.refl H) rfl⟩
theorem ex_eqD [DRc α] (hu : X.A.units + 64 < cLine) (ha : EX X a env x) (hb : EX X b env y) (hd : DEq.dep α ≤ 60 := by decide) : EX X (.Compare a [.Eq] [b] pos) env (deq x y) := ex_cmp (op_eqX hu hd) ha hb rv_eqX (nomark _)
theorem ex_neD [DRc α] (hu : X.A.units + 64 < cLine) (ha : EX X a env x) (hb : EX X b env y) (hd : DEq.dep α ≤ 60 := by decide) : EX X (.Compare a [.NotEq] [b] pos) env (!deq x y) := ex_cmp (op_neX hu hd) ha hb rv_neX (nomark _)
theorem et_eqD [DRc α] (hu : X.A.units + 64 < cLine) (ha : EX X a env x) (hb : EX X b env y) (hd : DEq.dep α ≤ 60 := by decide) : ET X (.Compare a [.Eq] [b] pos) env (deq x y) := et_cmp (op_eqX hu hd) ha hb rv_eqX (nomark _)
theorem et_neD [DRc α] (hu : X.A.units + 64 < cLine) (ha : EX X a env x) (hb : EX X b env y) (hd : DEq.dep α ≤ 60 := by decide) : ET X (.Compare a [.NotEq] [b] pos) env (!deq x y) := et_cmp (op_neX hu hd) ha hb rv_neX (nomark _)
end
end R
set_option maxHeartbeats 400000
set_option autoImplicit false
namespace R
open PySem PySem.Spec PyProof.Rows L2
/-! ### lists joined -/
theorem meets_joined (p q : Addr) (us ws : Array Value) (n n2 : Nat) (da db : Option Addr) (sa sb : Array (Option Value)) (hz : us.size + ws.size ≤ sizeLine) :
    Meets (Builtin.«list.__add__» ⟨[.ref p, .ref q], []⟩) (fun _ R s => s.heap.get? p = some { cls := .type "list", dict := da, data := .seq us n, slots := sa } ∧ s.heap.get? q = some { cls := .type "list", dict := db, data := .seq ws n2, slots := sb } ∧
      R (.ok (.ret (Value.ref s.heap.objs.size))) { s with heap := s.heap.push { cls := Value.type "list", data := Data.seq (us ++ ws) }, toks := s.toks }) :=
  .of_wp fun P w A R s h => by
    obtain ⟨hp, g, d, tk, os⟩ := s
    obtain ⟨hl, hb, h⟩ := h
    have f3 := AutoSeq1.sub_list_list
    wp_walk using AutoSeq1.wpAny_loadPart' hl, AutoSeq1.wpAny_loadPart' hb
    exact ⟨_, rfl, h⟩
def rJoin (K : PySem.W.Frag) : R2 := fun x y H Q => ∃ l b xs zs, x = .ref l ∧ y = .ref b ∧ SqL K H l xs ∧ SqL K H b zs ∧ xs.length + zs.length ≤ sizeLine ∧ ∀ p, H p = none → Q (.ref p) (upd H p (.lst (xs ++ zs)))
theorem op_join {X : Cx} : OpR X (binaryOp .Add) (rJoin X.K) := by
  intro pins s σ H x y v u Q I rx ry ⟨l, b, xs, zs, e1, e2, h1, h2, hz, q⟩
  subst e1 e2
  cases rx
  cases ry
  obtain ⟨us, r, pl, _⟩ := I.list h1
  obtain ⟨ws, r2, pl2, _⟩ := I.list h2
  obtain ⟨⟨c1, d1, x1, s1⟩, o1, k1, n1, y1⟩ := pl.isList
  obtain ⟨⟨c2, d2, x2, s2⟩, o2, k2, n2, y2⟩ := pl2.isList
  simp only at k1 y1 k2 y2
  subst k1 y1 k2 y2
  refine concat_meets ⟨_, o1, rfl⟩ ⟨_, o2, rfl⟩ noFill_list_add seq_list_add F.slot_list_add F.entry_list_add (F.args_list_add_2 _ _) (meets_joined l b us.toArray ws.toArray n1 n2 d1 d2 s1 s2 (by rw [List.size_toArray, List.size_toArray, ← r.length, ← r2.length]; exact hz)) ⟨o1, o2, ?_⟩
  rw [show us.toArray ++ ws.toArray = (us ++ ws).toArray by simp]
  exact ⟨.ref _, _, I.lnew (t' := s.toks) (r.append r2) (by rw [List.length_append]; omega), rfl, q _ I.fresh⟩
theorem repL.app {α : Type} [Dat α] {K : PySem.W.Frag} {H : Hp} : ∀ {vs ws : List V} {xs ys : List α}, repL K H vs xs → repL K H ws ys → repL K H (vs ++ ws) (xs ++ ys)
  | [], _, [], _, _, h => h
  | _ :: _, _, _ :: _, _, .cons a b, h => .cons a (repL.app b h)
section
variable {X : Cx} {W : WX} {env env' : Env'} {ρ α β γ : Type} [Res ρ] [Dat α] [Dat β] [Dat γ] {po : Po ρ} {x : α} {y : β} {z : γ} {e a b c tg iter o : Expr} {es elts : List Expr} {pos p p2 pc p3 apos cpos tpos : Pos} {rest body : List Stmt} {xs ys : List α} {st : Stmt}
theorem en_cat (h : EX X a env xs) (h' : EX X b env ys) (g : xs.length + ys.length ≤ 100000) : EN X (.BinOp a .Add b pos) env (OL.mk (xs ++ ys)) := by
  intro O fp σ H S Q q
  refine tE_of fun pins s I => ?_
  refine (pe_op op_join (mE X a) (mE X b)).run pins s σ H Q I ?_
  refine h O fp σ H S _ fun v1 H1 e1 r1 => h' O fp σ H1 (S.ex e1) _ fun v2 H2 e2 r2 => ?_
  obtain ⟨l, vs, rfl, t1, l1⟩ := r1
  obtain ⟨l', ws, rfl, t2, l2⟩ := r2
  have t1' : SqL X.K (wo H2 (UU O fp)) l vs := (wo_ex e2).le.lst t1
  refine ⟨l, l', vs, ws, rfl, rfl, wo_le.lst t1', wo_le.lst t2, by rw [Paired.length l1, Paired.length l2]; exact sz_of g, fun u hu => ?_⟩
  exact q (.ref u) [u] _ ((e1.trans e2).trans (Ex.new hu)) (fun c hc => by rw [List.mem_singleton.mp hc]; exact (e1.trans e2).free hu) (fun c hc => by rw [List.mem_singleton.mp hc]; exact ⟨_, upd_same⟩)
    fun Hf le => ⟨u, vs ++ ws, rfl, rfl, upd_same, ((l1.mono (wo_ex e2).le).app l2).mono (Le.trans (le_new hu) le)⟩
/-! ### parts of lists and texts -/
@[irreducible] def tPo (X : Cx) (e : Option Expr) : L2.TO := fun σ H Q => ∀ pins s, Inv X pins σ H s → wpAny (model X.prog X.w) X.A (evalPart e X.env) (fun u s' => ∃ o H', Inv X pins σ H' s' ∧ IsPart u o ∧ Q o H') X.xe s
theorem tPo_of {X : Cx} {e : Option Expr} {σ : L2.St} {H : Hp} {Q : Option Int → Hp → Prop} (h : ∀ pins s, Inv X pins σ H s → wpAny (model X.prog X.w) X.A (evalPart e X.env) (fun u s' => ∃ o H', Inv X pins σ H' s' ∧ IsPart u o ∧ Q o H') X.xe s) : tPo X e σ H Q := by unfold tPo; exact h
theorem tPo_run {X : Cx} {e : Option Expr} {σ : L2.St} {H : Hp} {Q : Option Int → Hp → Prop} (h : tPo X e σ H Q) : ∀ pins s, Inv X pins σ H s → wpAny (model X.prog X.w) X.A (evalPart e X.env) (fun u s' => ∃ o H', Inv X pins σ H' s' ∧ IsPart u o ∧ Q o H') X.xe s := by unfold tPo at h; exact h
theorem mPo (X : Cx) (e : Option Expr) : PO X e (tPo X e) := ⟨fun pins s σ H Q I h => tPo_run h pins s I⟩
def EXO (X : Cx) (e : Option Expr) (env : Env') (o : Option Int) : Prop := ∀ O fp σ H, SOk X.K O fp env σ H → ∀ Q : Option Int → Hp → Prop, (∀ H', Ex H H' → Q o H') → tPo X e σ H Q
theorem exo_none : EXO X none env none := fun O fp σ H S Q q => tPo_of fun pins s I => po_none.run pins s σ H Q I (q H (Ex.refl H))
theorem exo_some {i : Int} (h : EX X e env i) : EXO X (some e) env (some i) := fun O fp σ H S Q q => tPo_of fun pins s I => (po_some (mE X e)).run pins s σ H Q I (h O fp σ H S _ fun v H' e1 r => ⟨i, r, q H' e1⟩)
def cutL {τ : Type} (xs : List τ) (lo hi : Option Int) : List τ := (xs.drop (HT.sIx xs.length 0 lo)).take (HT.sIx xs.length xs.length hi - HT.sIx xs.length 0 lo)
theorem repL.drop {K : PySem.W.Frag} {H : Hp} : ∀ {vs : List V} {xs : List α} (n : Nat), repL K H vs xs → repL K H (vs.drop n) (xs.drop n)
  | _, _, 0, h => h
  | [], [], n + 1, _ => .nil
  | _ :: _, _ :: _, n + 1, .cons _ t => repL.drop n t
theorem repL.take {K : PySem.W.Frag} {H : Hp} : ∀ {vs : List V} {xs : List α} (n : Nat), repL K H vs xs → repL K H (vs.take n) (xs.take n)
  | _, _, 0, _ => .nil
  | [], [], n + 1, _ => .nil
  | _ :: _, _ :: _, n + 1, .cons h t => .cons h (repL.take n t)
theorem en_slice {lo hi : Option Expr} {l u : Option Int} (h : EX X a env xs) (hl : EXO X lo env l) (hu : EXO X hi env u) : EN X (.Subscript a (.Slice lo hi none p2) pos) env (OL.mk (cutL xs l u)) := by
  intro O fp σ H S Q q
  refine tE_of fun pins s I => ?_
  refine (pe_slice sl_list (mE X a) (mPo X lo) (mPo X hi)).run pins s σ H Q I ?_
  refine h O fp σ H S _ fun v1 H1 e1 r1 => hl O fp σ H1 (S.ex e1) _ fun H2 e2 => hu O fp σ H2 ((S.ex e1).ex e2) _ fun H3 e3 => ?_
  obtain ⟨ad, vs, rfl, t1, l1⟩ := r1
  have ee := e2.trans e3
  have t1' : SqL X.K (wo H3 (UU O fp)) ad vs := (wo_ex ee).le.lst t1
  refine ⟨ad, vs, rfl, wo_le.lst t1', fun p hp => ?_⟩
  have rl : repL X.K (wo H3 (UU O fp)) (cutV vs l u) (cutL xs l u) := by
    unfold cutV cutL
    rw [Paired.length l1]
    exact ((l1.mono (wo_ex ee).le).drop _).take _
  exact q (.ref p) [p] _ ((e1.trans ee).trans (Ex.new hp)) (fun c hc => by rw [List.mem_singleton.mp hc]; exact (e1.trans ee).free hp) (fun c hc => by rw [List.mem_singleton.mp hc]; exact ⟨_, upd_same⟩)
    fun Hf le => ⟨p, _, rfl, rfl, upd_same, rl.mono (Le.trans (le_new hp) le)⟩
def cutSt (x : Str) (lo hi : Option Int) : Str := cutS x lo hi
theorem ex_sliceS {lo hi : Option Expr} {l u : Option Int} {x : Str} (h : EX X a env x) (hl : EXO X lo env l) (hu : EXO X hi env u) (g : x.length ≤ 100000) : EX X (.Subscript a (.Slice lo hi none p2) pos) env (cutSt x l u) := by
  intro O fp σ H S Q q
  refine tE_of fun pins s I => ?_
  refine (pe_slice sl_str (mE X a) (mPo X lo) (mPo X hi)).run pins s σ H Q I ?_
  refine h O fp σ H S _ fun v1 H1 e1 r1 => hl O fp σ H1 (S.ex e1) _ fun H2 e2 => hu O fp σ H2 ((S.ex e1).ex e2) _ fun H3 e3 => ?_
  exact ⟨x, r1, sz_of g, q _ H3 ((e1.trans e2).trans e3) rfl⟩
/-! ### texts -/
def StrIx (x : Str) (i : Int) : Prop := 0 ≤ i ∧ i < (x.length : Int) ∧ x.length ≤ 100000
def strAt (x : Str) (i : Int) : Str := ⟨#[x.cps.toList.getD i.toNat 0]⟩
theorem ex_ixS {x : Str} {i : Int} (h : EX X a env x) (hb : EX X b env i) (g : StrIx x i) (hs : PlainIx b := by exact fun _ _ => rfl) : EX X (.Subscript a b pos) env (strAt x i) := ex_of (pe_ix ix_str (mE X a) (mE X _) hs) (ev_op h hb fun U v1 v2 H _ r1 r2 Q q => by
  have hl : i.toNat < x.cps.toList.length := by
    have := g.2.1
    have e : x.length = x.cps.toList.length := by rw [Array.length_toList]; rfl
    rw [e] at this
    have := g.1
    omega
  have e1 : x.cps.toList[i.toNat]? = some (x.cps.toList.getD i.toNat 0) := by rw [List.getD_eq_getElem?_getD, List.getElem?_eq_getElem hl]; rfl
  refine ⟨x, i, _, r1, r2, sz_of g.2.2, ?_, q _ H (Ex.refl H) rfl⟩
  rw [← Int.toNat_of_nonneg g.1]
  rw [← Int.toNat_of_nonneg g.1] at e1
  exact atI_nat e1)
theorem ex_lenS {x : Str} (hm : X.mg "len" = none) (h : EX X a env x) (g : x.length ≤ 100000) (he : starEach [a] X.env = (false, eval a X.env) :: starEach [] X.env := by exact star_plain rfl _ _) (hpl : (backTo pos (starEach [] X.env)).any (·.1) = false := by exact star_pl rfl) (hg : Gl X "len" := by rfl) : EX X (.Call (.Name "len" p) [a] [] pos) env (x.length : Int) :=
  ex_callB call_len_str hm PySem.boot_len (ea1 h he) (rc1 fun U v H bn r Q q => ⟨x, by rw [show v = .str x from r], sz_of g, q _ H (Ex.refl H) rfl⟩) hg (by decide) (by decide) he hpl
/-- x * n of a text -/
def StrTimes (x : Str) (n : Int) : Prop := n < 2 ^ 60 ∧ -(2 ^ 60) < n ∧ x.length * n.toNat ≤ 100000
def repS (x : Str) (n : Int) : Str := ⟨(List.replicate n.toNat x.cps).foldl (· ++ ·) #[]⟩
theorem repS_none {x : Str} {n : Int} (h : n < 1) : repS x n = Str.empty := by
  unfold repS
  rw [show n.toNat = 0 by omega]
  rfl
theorem op_repS : OpR X (binaryOp .Mult) (fun x y H Q => ∃ (z : Str) (n : Int), x = .str z ∧ y = .int n ∧ StrTimes z n ∧ Q (.str (repS z n)) H) := by
  intro pins s σ H x y v u Q I rx ry ⟨z, n, e1, e2, ⟨g1, g2, g3⟩, q⟩
  subst e1 e2
  obtain ⟨t, rfl⟩ := rx
  obtain ⟨t', rfl⟩ := ry
  refine PySem.P.mul_str (by
    have h1 : ¬ n < -(2 ^ 63 : Int) := by omega
    have h2 : ¬ n ≥ 2 ^ 63 := by omega
    rw [decide_eq_false h1, decide_eq_false h2]; rfl) (fun h1 h2 h3 => ?_) (fun h1 h2 => ?_) ?_
  · have hp : 0 < n := by omega
    have h4 := Int.lt_mul_of_ediv_lt hp h3
    have e : ((z.length * n.toNat : Nat) : Int) = (z.length : Int) * n := by
      rw [Int.natCast_mul, Int.toNat_of_nonneg (by omega)]
    have h5 : (z.length : Int) * n ≤ 100000 := by rw [← e]; exact Int.ofNat_le.mpr g3
    have h6 : ((2 : Int) ^ 63 - 1) = 9223372036854775807 := by decide
    rw [h6] at h4
    omega
  · show decide (z.length * n.toNat > sizeLine) = false
    have := sz_of g3
    exact decide_eq_false (by omega)
  · have I1 : Inv X pins σ H { s with toks := s.toks + 1 } := I.tok _
    by_cases h1 : n < 1
    · rw [if_pos h1]
      rw [repS_none h1] at q
      exact ⟨by decide, .str _, H, I1, ⟨_, rfl⟩, q⟩
    · rw [if_neg h1]
      by_cases h2 : (n == 1 || z.length == 0) = true
      · rw [if_pos h2]
        refine ⟨.str z, H, I, ⟨_, rfl⟩, ?_⟩
        have e : repS z n = z := by
          unfold repS
          rcases Bool.or_eq_true_iff.mp h2 with h2 | h2
          · rw [show n = 1 from eq_of_beq h2]
            show Str.mk (#[] ++ z.cps) = z
            rw [Array.empty_append]
          · have h3 : z.cps = #[] := Array.eq_empty_of_size_eq_zero (eq_of_beq h2)
            obtain ⟨zc⟩ := z
            have h3 : zc = #[] := h3
            subst h3
            have : ∀ m : Nat, (List.replicate m (#[] : Array Nat)).foldl (· ++ ·) #[] = #[] := fun m => by
              induction m with
              | zero => rfl
              | succ m ih => rw [List.replicate_succ, List.foldl_cons]; exact ih
            rw [this]
        rw [e] at q
        exact q
      · rw [if_neg h2]
        refine ⟨?_, .str _, H, I1, ⟨_, rfl⟩, q⟩
        exact PySem.fits_reps (decide_eq_false (by have := sz_of g3; omega))
theorem ex_repS {x : Str} {n : Int} (h : EX X a env x) (hb : EX X b env n) (g : StrTimes x n) : EX X (.BinOp a .Mult b pos) env (repS x n) := ex_op op_repS h hb fun U v1 v2 H _ r1 r2 Q q => ⟨x, n, r1, r2, g, q _ H (Ex.refl H) rfl⟩
/-! ### enumerate, zip, reversed, a text -/
theorem ARep.one {K : PySem.W.Frag} {H : Hp} {vs : List V} (h : ARep K H vs [.dat x]) : ∃ v, vs = [v] ∧ Dat.rep K H v x := by
  match vs, h with
  | [v], ⟨h1, _⟩ => exact ⟨v, rfl, h1⟩
theorem ARep.two {K : PySem.W.Frag} {H : Hp} {vs : List V} (h : ARep K H vs [.dat x, .dat y]) : ∃ v u, vs = [v, u] ∧ Dat.rep K H v x ∧ Dat.rep K H u y := by
  match vs, h with
  | [v, u], ⟨h1, h2, _⟩ => exact ⟨v, u, rfl, h1, h2⟩
def enumI {τ : Type} (xs : List τ) : List (Int × τ) := xs.mapIdx fun (i : Nat) x => ((i : Int), x)
theorem new_rep {H' : Hp} {U' : Addr → Prop} {K : PySem.W.Frag} {T : Addr} {v1 v2 : V} {x1 : α} {x2 : β} (bn : ∀ a, U' a → ∃ o, H' a = some o) (hT : H' T = none) (r1 : Dat.rep K (wo H' U') v1 x1) (r2 : Dat.rep K (wo H' U') v2 x2) : Dat.rep K (wo (upd H' T (.tup [v1, v2])) U') (.ref T) (x1, x2) := by
  have nt : ¬ U' T := fun z => by obtain ⟨o, e⟩ := bn T z; rw [hT] at e; cases e
  have le : Le (wo H' U') (wo (upd H' T (.tup [v1, v2])) U') := (wo_ex (Ex.new hT)).le
  exact ⟨T, [v1, v2], rfl, .inl (.inl (upd_out nt)), Dat.mono le r1, Dat.mono le r2, trivial⟩
theorem ix_enum (hm : X.mg "enumerate" = none) (h : EX X e env xs) {kk : Nat} (hg : Gl X "enumerate" := by rfl) (hs : starEach [e] X.env = [(false, eval e X.env)] := by exact star_plain rfl _ _) : IX X (.Tuple elts kk tpos) (.Call (.Name "enumerate" p) [e] [] pos) env (enumI xs) :=
  ix_of (pi_enum hg hm (mA X _) hs) fun O fp σ H S R r => ea1 h hs O fp σ H S _ fun vs H1 e1 ar => by
      obtain ⟨v, ev, h1⟩ := ar.one
      subst ev
      obtain ⟨ad, ws, e, l, rl⟩ := h1
      subst e
      refine ⟨ad, ws, rfl, wo_le.lst l, r _ H1 e1 fun H' U' bn ex i => ⟨fun x hx => ?_, fun hi => ?_⟩⟩
      · unfold enumI at hx
        rw [List.getElem?_mapIdx] at hx
        cases hy : xs[i]? with
        | none => rw [hy] at hx; cases hx
        | some y =>
          rw [hy] at hx
          have hx : ((i : Int), y) = x := Option.some.inj hx
          subst hx
          obtain ⟨v, hv, rv⟩ := rl.get hy
          have l' : SqL X.K H' ad ws := wo_le.lst (ex.le.lst l)
          refine ⟨⟨ws, v, l', hv⟩, fun u H'' ⟨T, x', e1, e2, e3, e4⟩ => ?_⟩
          subst e1 e3
          have := e4 ws l'
          rw [hv] at this
          cases this
          exact ⟨Ex.new e2, new_rep bn e2 rfl (Dat.mono ex.le rv)⟩
      · exact ⟨ws, wo_le.lst (ex.le.lst l), by rw [Paired.length rl]; unfold enumI at hi; simpa using hi⟩
theorem ix_zip {zs : List β} (hm : X.mg "zip" = none) (h : EX X a env xs) (h' : EX X b env zs) {kk : Nat} (hg : Gl X "zip" := by rfl) (hs : starEach [a, b] X.env = (false, eval a X.env) :: starEach [b] X.env := by exact star_plain rfl _ _) (hs2 : starEach [b] X.env = (false, eval b X.env) :: starEach [] X.env := by exact star_plain rfl _ _) (hpl : (backTo pos (starEach [b] X.env)).any (·.1) = false := by exact star_pl rfl) :
    IX X (.Tuple elts kk tpos) (.Call (.Name "zip" p) [a, b] [] pos) env (List.zip xs zs) :=
  ix_of (pi_zip hg hm (mA X _) hs hpl) fun O fp σ H S R r => ea_cons h (ea_cons h' ea_nil hs2) hs O fp σ H S _ fun vs H1 e1 ar => by
      obtain ⟨v, v', ev, h1, h2⟩ := ar.two
      subst ev
      obtain ⟨ad, ws, e, l, rl⟩ := h1
      obtain ⟨ad', ws', e', l', rl'⟩ := h2
      subst e e'
      refine ⟨ad, ad', ws, ws', rfl, wo_le.lst l, wo_le.lst l', r _ H1 e1 fun H' U' bn ex i => ⟨fun x hx => ?_, fun hi => ?_⟩⟩
      · have k : SqL X.K H' ad ws := wo_le.lst (ex.le.lst l)
        have k' : SqL X.K H' ad' ws' := wo_le.lst (ex.le.lst l')
        obtain ⟨x1, x2⟩ := x
        rw [List.getElem?_zip_eq_some] at hx
        obtain ⟨v1, hv1, rv1⟩ := rl.get hx.1
        obtain ⟨v2, hv2, rv2⟩ := rl'.get hx.2
        refine ⟨⟨ws, ws', v1, v2, k, k', hv1, hv2⟩, fun u H'' ⟨T, y1, y2, e1, e2, e3, e4, e5⟩ => ?_⟩
        subst e1 e3
        have q1 := e4 ws k
        have q2 := e5 ws' k'
        rw [hv1] at q1
        rw [hv2] at q2
        cases q1
        cases q2
        exact ⟨Ex.new e2, new_rep bn e2 (Dat.mono ex.le rv1) (Dat.mono ex.le rv2)⟩
      · refine ⟨ws, ws', wo_le.lst (ex.le.lst l), wo_le.lst (ex.le.lst l'), ?_⟩
        rw [List.length_zip] at hi
        rw [Paired.length rl, Paired.length rl']
        omega
theorem ix_rev (hm : X.mg "reversed" = none) (h : EX X e env xs) (hg : Gl X "reversed" := by rfl) (hs : starEach [e] X.env = [(false, eval e X.env)] := by exact star_plain rfl _ _) : IX X tg (.Call (.Name "reversed" p) [e] [] pos) env (List.reverse xs) :=
  ix_of (pi_reversed hg hm (mA X _) hs) fun O fp σ H S R r => ea1 h hs O fp σ H S _ fun vs H1 e1 ar => by
      obtain ⟨v, ev, h1⟩ := ar.one
      subst ev
      obtain ⟨ad, ws, e, l, rl⟩ := h1
      subst e
      have hlen := Paired.length rl
      refine ⟨ad, ws, rfl, wo_le.lst l, r _ H1 e1 fun H' U' bn ex i => ⟨fun x hx => ?_, fun hi => by show ws.length ≤ i; rw [hlen]; simpa using hi⟩⟩
      have hi : i < xs.length := by
        have := (List.getElem?_eq_some_iff.mp hx).1
        simpa using this
      rw [List.getElem?_reverse hi] at hx
      obtain ⟨v, hv, rv⟩ := rl.get hx
      have l' : SqL X.K H' ad ws := wo_le.lst (ex.le.lst l)
      rw [← hlen] at hv
      refine ⟨⟨by omega, ws, v, l', hv⟩, fun u H'' ⟨e1, e2⟩ => ?_⟩
      subst e1
      have := e2 ws l'
      rw [hv] at this
      cases this
      exact ⟨Ex.refl _, Dat.mono ex.le rv⟩
def signs (x : Str) : List Str := x.cps.toList.map fun c => ⟨#[c]⟩
theorem ix_str {x : Str} (h : EX X e env x) : IX X tg e env (signs x) := ix_of (pi_str (mE X e)) fun O fp σ H S R r => h O fp σ H S _ fun v H1 e1 rp => by
  refine ⟨x, rp, r _ H1 e1 fun H' U' bn ex i => ⟨fun y hy => ?_, fun hi => ?_⟩⟩
  · unfold signs at hy
    rw [List.getElem?_map, Array.getElem?_toList] at hy
    cases hc : x.cps[i]? with
    | none => rw [hc] at hy; cases hy
    | some c =>
      rw [hc] at hy
      have hy : (⟨#[c]⟩ : Str) = y := Option.some.inj hy
      subst hy
      refine ⟨(Array.getElem?_eq_some_iff.mp hc).1, fun u H'' ⟨q1, c', q2, q3⟩ => ?_⟩
      subst q1 q3
      rw [hc] at q2
      cases q2
      exact ⟨Ex.refl _, rfl⟩
  · show x.cps.size ≤ i
    unfold signs at hi
    simpa using hi
/-! ### a dict's names as a list -/
theorem en_listD {d : Dc α} (hc : X.calm = true) (hm : X.mg "list" = none) (h : EX X a env d) (he : starEach [a] X.env = (false, eval a X.env) :: starEach [] X.env := by exact star_plain rfl _ _) (hpl : (backTo pos (starEach [] X.env)).any (·.1) = false := by exact star_pl rfl) (hg : Gl X "list" := by rfl) : EN X (.Call (.Name "list" p) [a] [] pos) env (OL.mk (d.kvs.map Prod.fst)) :=
  en_callTy1 (call_listD hc) hm (by decide +kernel) h (fun U v H r1 Q q => by
      obtain ⟨ad, ws, h1, h2, h3⟩ := r1
      refine ⟨ad, ws, by rw [h1], wo_le _ _ trivial h2, fun u hu => ?_⟩
      have rl : ∀ Hf, repL X.K Hf (ws.map fun kv => kV kv.1) (d.kvs.map Prod.fst) := fun Hf => by
        clear h2
        unfold repD at h3
        generalize d.kvs = kvs at h3
        induction h3 with
        | nil => exact .nil
        | cons h0 _ ih =>
          rw [List.map_cons, List.map_cons]
          refine .cons ?_ ih
          rw [h0.1]
          rfl
      exact q (.ref u) [u] _ (Ex.new hu) (fun b hb => by rw [List.mem_singleton.mp hb]; exact hu) (fun b hb => by rw [List.mem_singleton.mp hb]; exact ⟨_, upd_same⟩) fun Hf le => ⟨u, _, rfl, rfl, upd_same, rl Hf⟩) hg (by decide) (by decide) he hpl
end
end R
set_option maxHeartbeats 400000
set_option autoImplicit false
namespace R
open PySem PySem.Spec PyProof.Rows L2
/-! ### plain: how large a fraction is -/
def QB (n : Nat) (q : Rat) : Prop := q.num.natAbs < 2 ^ n ∧ q.den < 2 ^ n
theorem two_le {m n : Nat} (h : m ≤ n) : 2 ^ m ≤ 2 ^ n := Nat.pow_le_pow_right (by decide) h
theorem nb_mono {a m n : Nat} (h : a < 2 ^ m) (k : m ≤ n) : a < 2 ^ n := Nat.lt_of_lt_of_le h (two_le k)
theorem nb_mul {a b : Int} {m n : Nat} (h : a.natAbs < 2 ^ m) (k : b.natAbs < 2 ^ n) : (a * b).natAbs < 2 ^ (m + n) := by
  rw [Int.natAbs_mul, Nat.pow_add]
  exact Nat.mul_lt_mul_of_lt_of_le h (Nat.le_of_lt k) (Nat.two_pow_pos n)
theorem nb_add {a b : Int} {m : Nat} (h : a.natAbs < 2 ^ m) (k : b.natAbs < 2 ^ m) : (a + b).natAbs < 2 ^ (m + 1) := by
  have := Int.natAbs_add_le a b
  rw [Nat.pow_succ]
  omega
theorem nb_sub {a b : Int} {m : Nat} (h : a.natAbs < 2 ^ m) (k : b.natAbs < 2 ^ m) : (a - b).natAbs < 2 ^ (m + 1) := by
  have := Int.natAbs_sub_le a b
  rw [Nat.pow_succ]
  omega
theorem QB.mono {m n : Nat} {q : Rat} (h : QB m q) (k : m ≤ n) : QB n q := ⟨nb_mono h.1 k, nb_mono h.2 k⟩
theorem QB.den' {n : Nat} {q : Rat} (h : QB n q) : ((q.den : Nat) : Int).natAbs < 2 ^ n := by rw [Int.natAbs_natCast]; exact h.2
theorem QB.divInt {n : Nat} {t b : Int} (h : t.natAbs < 2 ^ n) (k : b.natAbs < 2 ^ n) (z : b ≠ 0) : QB n (Rat.divInt t b) := by
  have g1 : (t / ((Int.gcd b t : Nat) : Int)).natAbs ≤ t.natAbs := Int.natAbs_ediv_le_natAbs _ _
  refine ⟨?_, ?_⟩
  · rw [Rat.num_divInt]
    refine Nat.lt_of_le_of_lt (Int.natAbs_ediv_le_natAbs _ _) ?_
    rw [Int.natAbs_mul, Int.natAbs_sign_of_ne_zero z, Nat.one_mul]
    exact h
  · rw [Rat.den_divInt, if_neg z]
    exact Nat.lt_of_le_of_lt (Nat.div_le_self _ _) k
theorem QB.add {m n : Nat} {x y : Rat} (h : QB m x) (k : QB n y) : QB (m + n + 1) (x + y) := by
  rw [← plus_eq]
  exact .divInt (nb_add (nb_mul h.1 k.den') (Nat.add_comm n m ▸ nb_mul k.1 h.den')) (nb_mono (nb_mul h.den' k.den') (by omega)) (dens_ne x y)
theorem QB.sub {m n : Nat} {x y : Rat} (h : QB m x) (k : QB n y) : QB (m + n + 1) (x - y) := by
  rw [← minus_eq]
  exact .divInt (nb_sub (nb_mul h.1 k.den') (Nat.add_comm n m ▸ nb_mul k.1 h.den')) (nb_mono (nb_mul h.den' k.den') (by omega)) (dens_ne x y)
theorem QB.mul {m n : Nat} {x y : Rat} (h : QB m x) (k : QB n y) : QB (m + n) (x * y) := by
  rw [← times_eq]
  exact .divInt (nb_mul h.1 k.1) (nb_mul h.den' k.den') (dens_ne x y)
theorem QB.neg {n : Nat} {x : Rat} (h : QB n x) : QB n (-x) := by
  have e : (-x).num = -x.num := rfl
  refine ⟨?_, h.2⟩
  rw [e, Int.natAbs_neg]
  exact h.1
theorem QB.zero : QB 1 (0 : Rat) := ⟨by decide, by decide⟩
theorem QB.one : QB 1 (1 : Rat) := ⟨by decide, by decide⟩
/-- room for a product -/
theorem mulW {a b : Int} {m n : Nat} (h : a.natAbs < 2 ^ m) (k : b.natAbs < 2 ^ n) (hm : 0 < m) (hn : 0 < n) (l : m + n ≤ 1000000) : CMulW a b := wide_mul h k hm hn l
/-- a fraction over its own parts -/
theorem divInt_cross {t b : Int} (z : b ≠ 0) : (Rat.divInt t b).num * b = (((Rat.divInt t b).den : Nat) : Int) * t := by
  have h : Rat.divInt (Rat.divInt t b).num ((Rat.divInt t b).den : Int) = Rat.divInt t b := Rat.num_divInt_den _
  have := (Rat.divInt_eq_divInt_iff (Int.ne_of_gt (den_pos _)) z).mp h
  rw [this, Int.mul_comm]
theorem gcd_own (q : Rat) : gcdI q.num ((q.den : Nat) : Int) = 1 := by
  have : q.num.natAbs.gcd q.den = 1 := q.reduced
  unfold gcdI Int.gcd
  rw [Int.natAbs_natCast, this]
  rfl
theorem isQ_own (q : Rat) : IsQ q.num (q.den : Int) := by
  have : q.num.natAbs.gcd q.den = 1 := q.reduced
  refine ⟨den_pos q, ?_⟩
  unfold Int.gcd
  rw [Int.natAbs_natCast, this]
theorem isQ_neg {t b : Int} (h : IsQ t b) : IsQ (0 - t) b := ⟨h.1, by rw [show 0 - t = -t by omega, Int.neg_gcd]; exact h.2⟩
theorem isQ_low {t b : Int} (h : 0 < b) : IsQ (t / gcdI t b) (b / gcdI t b) := by
  have h1 := isQ_own (Rat.divInt t b)
  rw [divInt_num h, divInt_den h] at h1
  exact h1
theorem divInt_low {t b : Int} (h : 0 < b) : Rat.divInt (t / gcdI t b) (b / gcdI t b) = Rat.divInt t b := by
  rw [← divInt_num h, ← divInt_den h]
  exact Rat.num_divInt_den _
theorem nb_div {t g : Int} {n : Nat} (h : t.natAbs < 2 ^ n) : (t / g).natAbs < 2 ^ n := Nat.lt_of_le_of_lt (Int.natAbs_ediv_le_natAbs _ _) h
end R
set_option maxHeartbeats 400000
set_option autoImplicit false
namespace R
open PySem PySem.Spec PyProof.Rows L2
section
variable {X : Cx} {W : WX} {env env' : Env'} {ρ α β γ : Type} [Res ρ] [Dat α] [Dat β] [Dat γ] {po : Po ρ} {x : α} {y : β} {z : γ} {e a b c tg iter o : Expr} {es elts : List Expr} {pos p p2 pc p3 apos cpos tpos : Pos} {rest body : List Stmt} {xs ys : List α} {st : Stmt}
/-! range with a step -/
def rangeABC (i j c : Int) : List Int := (List.range (Builtin.Range.rangeSize i j c).toNat).map fun (k : Nat) => i + (k : Int) * c
def Rng3 (i j c : Int) : Prop := RgC i j c (Builtin.Range.rangeSize i j c).toNat
theorem ix_range3 {i j k : Int} (hm : X.mg "range" = none) (h : EX X a env i) (h' : EX X b env j) (h'' : EX X c env k) (g : Rng3 i j k) (hg : Gl X "range" := by rfl) (hs : starEach [a, b, c] X.env = (false, eval a X.env) :: starEach [b, c] X.env := by exact star_plain rfl _ _) (hs1 : starEach [b, c] X.env = (false, eval b X.env) :: starEach [c] X.env := by exact star_plain rfl _ _)
    (hs2 : starEach [c] X.env = (false, eval c X.env) :: starEach [] X.env := by exact star_plain rfl _ _) (hpl : (backTo pos (starEach [b, c] X.env)).any (·.1) = false := by exact star_pl rfl) : IX X tg (.Call (.Name "range" p) [a, b, c] [] pos) env (rangeABC i j k) :=
  ix_of (pi_range3 hg hm (mA X _) hs hpl) fun O fp σ H S R r => ea_cons h (ea_cons h' (ea_cons h'' ea_nil hs2) hs1) hs O fp σ H S _ fun vs H1 e1 ar => by
    have h3 : vs = [.int i, .int j, .int k] := by
      match vs, ar with
      | [v, u, w], ⟨h1, h2, h3, _⟩ => rw [show v = .int i from h1, show u = .int j from h2, show w = .int k from h3]
    refine ⟨i, j, k, _, h3, g, r _ H1 e1 fun H' U' bn ex n => ⟨fun x hx => ?_, fun hi => ?_⟩⟩
    · unfold rangeABC at hx
      rw [List.getElem?_map] at hx
      by_cases hn : n < (Builtin.Range.rangeSize i j k).toNat
      · rw [List.getElem?_range hn] at hx
        have hx : i + (n : Int) * k = x := by simpa using hx
        refine ⟨hn, fun v H'' q => ?_⟩
        obtain ⟨q1, q2⟩ := q
        subst q1 q2 hx
        exact ⟨Ex.refl _, rfl⟩
      · rw [List.getElem?_eq_none (by simpa using hn)] at hx
        cases hx
    · show (Builtin.Range.rangeSize i j k).toNat ≤ n
      unfold rangeABC at hi
      simpa using hi
theorem rng3_up {i j c : Int} (hc : 0 < c) (hc' : c < 1000000) (hi : -(2 ^ 40) < i) (hi' : i < 2 ^ 40) (hj : -(2 ^ 40) < j) (hj' : j < 2 ^ 40) : Rng3 i j c := by
  have hz : 0 ≤ Builtin.Range.rangeSize i j c ∧ Builtin.Range.rangeSize i j c < 2 ^ 43 := by
    unfold Builtin.Range.rangeSize
    rw [if_pos hc]
    split
    · have h1 : 0 ≤ (j - i - 1) / c := Int.ediv_nonneg (by omega) (by omega)
      have h2 : (j - i - 1) / c ≤ j - i - 1 := Int.ediv_le_self _ (by omega)
      omega
    · omega
  refine ⟨by omega, by omega, ?_, by omega⟩
  unfold Builtin.Range.small
  have f : ∀ z : Int, -(2 ^ 60) < z → z < 2 ^ 60 → Builtin.Range.rangeFitsLong z = true := fun z h1 h2 => by
    unfold Builtin.Range.rangeFitsLong
    simp
    omega
  have hm : Builtin.Range.rangeSize i j c * c ≤ (2 ^ 41 + 2 ^ 41) := by
    unfold Builtin.Range.rangeSize
    rw [if_pos hc]
    split
    · have h1 : (j - i - 1) / c * c ≤ j - i - 1 := Int.ediv_mul_le _ (by omega)
      rw [Int.add_mul]
      omega
    · omega
  have hm0 : 0 ≤ Builtin.Range.rangeSize i j c * c := Int.mul_nonneg hz.1 (by omega)
  rw [f i (by omega) (by omega), f j (by omega) (by omega), f c (by omega) (by omega), f _ (by omega) (by omega)]
  rw [f _ (by omega) (by omega), if_pos hc]
  simp
end
section
variable {α β γ δ : Type} [Dat α] [DEq α] [Dat β] [DEq β] [Dat γ] [DEq γ] [Dat δ] [DEq δ]
theorem rc_tup4 {X : Cx} {pins : List (Addr × Obj)} {σ : L2.St} {H : Hp} {s : Shared} {A : Around} {v w : V} {x1 y1 : α} {x2 y2 : β} {x3 y3 : γ} {x4 y4 : δ} (I : Inv X pins σ H s) (hu : A.units + ((max (DEq.dep α) (max (DEq.dep β) (max (DEq.dep γ) (DEq.dep δ)))) + 1) < cLine) (h : repT X.K H v [.dat x1, .dat x2, .dat x3, .dat x4]) (h' : repT X.K H w [.dat y1, .dat y2, .dat y3, .dat y4]) :
    ∃ a b, v = .ref a ∧ w = .ref b ∧ RQ1.RcP X.prog X.w A s (.ref a) (.ref b) (DEq.eqv x1 y1 && ((DEq.eqv x2 y2 && ((DEq.eqv x3 y3 && (DEq.eqv x4 y4)))))) := by
  obtain ⟨a, vs, rfl, t1, a1⟩ := h
  obtain ⟨b, ws, rfl, t2, a2⟩ := h'
  match vs, ws, a1, a2 with
  | [v1, v2, v3, v4], [w1, w2, w3, w4], ⟨p1, p2, p3, p4, _⟩, ⟨q1, q2, q3, q4, _⟩ =>
    have hv := units_in1 hu
    have q := rc_tupS (A := A) I (f := fun j => if j = 0 then DEq.eqv x1 y1 else if j = 1 then DEq.eqv x2 y2 else if j = 2 then DEq.eqv x3 y3 else DEq.eqv x4 y4) (by omega) t1 t2 rfl (fun j v w hj hk => by
      match j with
      | 0 => cases hj; cases hk; exact DEq.run I (by omega) p1 q1
      | 1 => cases hj; cases hk; exact DEq.run I (by omega) p2 q2
      | 2 => cases hj; cases hk; exact DEq.run I (by omega) p3 q3
      | 3 => cases hj; cases hk; exact DEq.run I (by omega) p4 q4
      | j + 4 => simp at hj)
    exact ⟨a, b, rfl, rfl, by simpa [List.range_succ, Bool.and_assoc] using q⟩
theorem same_tup4 {X : Cx} {pins : List (Addr × Obj)} {σ : L2.St} {H : Hp} {s : Shared} {v : V} {x1 y1 : α} {x2 y2 : β} {x3 y3 : γ} {x4 y4 : δ} (I : Inv X pins σ H s) (h : repT X.K H v [.dat x1, .dat x2, .dat x3, .dat x4]) (h' : repT X.K H v [.dat y1, .dat y2, .dat y3, .dat y4]) : (DEq.eqv x1 y1 && ((DEq.eqv x2 y2 && ((DEq.eqv x3 y3 && (DEq.eqv x4 y4)))))) = true := by
  obtain ⟨a, vs, rfl, t1, a1⟩ := h
  obtain ⟨b, ws, e, t2, a2⟩ := h'
  cases e
  cases I.tuple_inj t1 t2
  match vs, a1, a2 with
  | [v1, v2, v3, v4], ⟨p1, p2, p3, p4, _⟩, ⟨q1, q2, q3, q4, _⟩ => rw [DEq.same I p1 q1, DEq.same I p2 q2, DEq.same I p3 q3, DEq.same I p4 q4]; rfl
instance : DEq (T4 α β γ δ) := ⟨(max (DEq.dep α) (max (DEq.dep β) (max (DEq.dep γ) (DEq.dep δ)))) + 1, fun x y => (DEq.eqv x.a y.a && ((DEq.eqv x.b y.b && ((DEq.eqv x.c y.c && (DEq.eqv x.d y.d)))))), fun {X pins σ H s v x y} I h h' => same_tup4 I h h', fun {X pins σ H s A v w x y} I hu h h' => by
  obtain ⟨a, b, rfl, rfl, q⟩ := rc_tup4 I hu h h'
  refine eqS_ref (α := α) (fun e => ?_) q
  subst e
  exact same_tup4 I h h'⟩
instance : DRc (T4 α β γ δ) := ⟨fun {X pins σ H s A v w x y} I hu h h' => rc_tup4 I hu h h'⟩
end
section
variable {α β γ δ ε : Type} [Dat α] [DEq α] [Dat β] [DEq β] [Dat γ] [DEq γ] [Dat δ] [DEq δ] [Dat ε] [DEq ε]
theorem rc_tup5 {X : Cx} {pins : List (Addr × Obj)} {σ : L2.St} {H : Hp} {s : Shared} {A : Around} {v w : V} {x1 y1 : α} {x2 y2 : β} {x3 y3 : γ} {x4 y4 : δ} {x5 y5 : ε} (I : Inv X pins σ H s) (hu : A.units + ((max (DEq.dep α) (max (DEq.dep β) (max (DEq.dep γ) (max (DEq.dep δ) (DEq.dep ε))))) + 1) < cLine) (h : repT X.K H v [.dat x1, .dat x2, .dat x3, .dat x4, .dat x5]) (h' : repT X.K H w [.dat y1, .dat y2, .dat y3, .dat y4, .dat y5]) :
    ∃ a b, v = .ref a ∧ w = .ref b ∧ RQ1.RcP X.prog X.w A s (.ref a) (.ref b) (DEq.eqv x1 y1 && ((DEq.eqv x2 y2 && ((DEq.eqv x3 y3 && ((DEq.eqv x4 y4 && (DEq.eqv x5 y5)))))))) := by
  obtain ⟨a, vs, rfl, t1, a1⟩ := h
  obtain ⟨b, ws, rfl, t2, a2⟩ := h'
  match vs, ws, a1, a2 with
  | [v1, v2, v3, v4, v5], [w1, w2, w3, w4, w5], ⟨p1, p2, p3, p4, p5, _⟩, ⟨q1, q2, q3, q4, q5, _⟩ =>
    have hv := units_in1 hu
    have q := rc_tupS (A := A) I (f := fun j => if j = 0 then DEq.eqv x1 y1 else if j = 1 then DEq.eqv x2 y2 else if j = 2 then DEq.eqv x3 y3 else if j = 3 then DEq.eqv x4 y4 else DEq.eqv x5 y5) (by omega) t1 t2 rfl (fun j v w hj hk => by
      match j with
      | 0 => cases hj; cases hk; exact DEq.run I (by omega) p1 q1
      | 1 => cases hj; cases hk; exact DEq.run I (by omega) p2 q2
      | 2 => cases hj; cases hk; exact DEq.run I (by omega) p3 q3
      | 3 => cases hj; cases hk; exact DEq.run I (by omega) p4 q4
      | 4 => cases hj; cases hk; exact DEq.run I (by omega) p5 q5
      | j + 5 => simp at hj)
    exact ⟨a, b, rfl, rfl, by simpa [List.range_succ, Bool.and_assoc] using q⟩
theorem same_tup5 {X : Cx} {pins : List (Addr × Obj)} {σ : L2.St} {H : Hp} {s : Shared} {v : V} {x1 y1 : α} {x2 y2 : β} {x3 y3 : γ} {x4 y4 : δ} {x5 y5 : ε} (I : Inv X pins σ H s) (h : repT X.K H v [.dat x1, .dat x2, .dat x3, .dat x4, .dat x5]) (h' : repT X.K H v [.dat y1, .dat y2, .dat y3, .dat y4, .dat y5]) : (DEq.eqv x1 y1 && ((DEq.eqv x2 y2 && ((DEq.eqv x3 y3 && ((DEq.eqv x4 y4 && (DEq.eqv x5 y5)))))))) = true := by
  obtain ⟨a, vs, rfl, t1, a1⟩ := h
  obtain ⟨b, ws, e, t2, a2⟩ := h'
  cases e
  cases I.tuple_inj t1 t2
  match vs, a1, a2 with
  | [v1, v2, v3, v4, v5], ⟨p1, p2, p3, p4, p5, _⟩, ⟨q1, q2, q3, q4, q5, _⟩ => rw [DEq.same I p1 q1, DEq.same I p2 q2, DEq.same I p3 q3, DEq.same I p4 q4, DEq.same I p5 q5]; rfl
instance : DEq (T5 α β γ δ ε) := ⟨(max (DEq.dep α) (max (DEq.dep β) (max (DEq.dep γ) (max (DEq.dep δ) (DEq.dep ε))))) + 1, fun x y => (DEq.eqv x.a y.a && ((DEq.eqv x.b y.b && ((DEq.eqv x.c y.c && ((DEq.eqv x.d y.d && (DEq.eqv x.e y.e)))))))), fun {X pins σ H s v x y} I h h' => same_tup5 I h h', fun {X pins σ H s A v w x y} I hu h h' => by
  obtain ⟨a, b, rfl, rfl, q⟩ := rc_tup5 I hu h h'
  refine eqS_ref (α := α) (fun e => ?_) q
  subst e
  exact same_tup5 I h h'⟩
instance : DRc (T5 α β γ δ ε) := ⟨fun {X pins σ H s A v w x y} I hu h h' => rc_tup5 I hu h h'⟩
end
end R
set_option maxHeartbeats 400000
set_option autoImplicit false
/-! what is new comes back as one's own -/
namespace R
open PySem PySem.Spec PyProof.Rows L2
/-- a dict and more, as one's own pair -/
structure OS (α β : Type) where
  p : Dc α × β
instance {α β : Type} [Dat α] [Dat β] : Own (OS α β) where
  own K Hf H v L x := ∃ t a ws u, v = .ref t ∧ SqT K Hf t [.ref a, u] ∧ L = [a] ∧ H a = some (.dK ws) ∧ repD K Hf ws x.p.1.kvs ∧ Dat.rep K Hf u x.p.2
  frame := fun e f ⟨t, a, ws, u, h1, h2, h3, h4, h5, h6⟩ => ⟨t, a, ws, u, h1, e.tup h2, h3, by rw [f a (by rw [h3]; exact List.mem_singleton.mpr rfl)]; exact h4, h5.mono e, Dat.mono e h6⟩
/-- one's own, without lists and dicts within -/
class OwnNM (β : Type) [Own β] : Prop where
  cut : ∀ (K : PySem.W.Frag) (Hf Hf' H : Hp) (v : V) (L : List Addr) (x : β), (∀ a xs, Rd Hf a (.tup xs) → Rd Hf' a (.tup xs)) → Own.own K Hf H v L x → Own.own K Hf' H v L x
instance {α : Type} [Dat α] [NoMut α] : OwnNM (OL α) := ⟨fun K Hf Hf' H v L x h ⟨a, vs, h1, h2, h3, h4⟩ => ⟨a, vs, h1, h2, h3, Paired.imp h4 fun _ _ q => NoMut.cut K Hf Hf' _ _ h q⟩⟩
instance {α : Type} [Dat α] [NoMut α] : OwnNM (OD α) := ⟨fun K Hf Hf' H v L x h ⟨a, vs, h1, h2, h3, h4⟩ => ⟨a, vs, h1, h2, h3, Paired.imp h4 fun _ _ q => ⟨q.1, NoMut.cut K Hf Hf' _ _ h q.2⟩⟩⟩
instance {α β : Type} [Dat α] [NoMut α] [Dat β] [NoMut β] : OwnNM (OS α β) := ⟨fun K Hf Hf' H v L x h ⟨t, a, ws, u, h1, h2, h3, h4, h5, h6⟩ => ⟨t, a, ws, u, h1, cut_tup h h2, h3, h4, Paired.imp h5 fun _ _ q => ⟨q.1, NoMut.cut K Hf Hf' _ _ h q.2⟩, NoMut.cut K Hf Hf' _ _ h h6⟩⟩
theorem own_frzS {α β : Type} [Dat α] [Dat β] {K : PySem.W.Frag} {Hf H : Hp} {v : V} {L : List Addr} {x : Dc α × β} (h : Own.own K Hf H v L (OS.mk x)) (q : ∀ a ∈ L, Hf a = H a) : Dat.rep K Hf v x := by
  obtain ⟨t, a, ws, u, h1, h2, h3, h4, h5, h6⟩ := h
  exact ⟨t, [.ref a, u], h1, h2, ⟨a, ws, rfl, .inl (by rw [q a (by rw [h3]; exact List.mem_singleton.mpr rfl)]; exact h4), h5⟩, h6, trivial⟩
section
variable {X : Cx} {W : WX} {env env' : Env'} {ρ α β γ : Type} [Res ρ] [Dat α] [Dat β] [Dat γ] {po : Po ρ} {x : α} {y : β} {z : γ} {e a b c tg iter o : Expr} {es elts : List Expr} {pos p p2 pc p3 apos cpos tpos : Pos} {rest body : List Stmt} {xs ys : List α} {st : Stmt}
theorem sx_retO {ω : Type} [Own ω] {x : ω} {i : Nat} {n : Str} {po : Po ω} (h : env[i]? = some (.own x)) (hR : po.R x env) (hN : X.N[i]? = some n := by rfl) (hv : Vis X.env.scope n := by first | exact Or.inl rfl | exact Or.inr (Or.inl rfl) | exact Or.inr (Or.inr rfl)) (hd : (n == ("__debug__" : Str)) = false := by decide) (hc : (n == ("__classdict__" : Str)) = false := by decide) :
    SX X W [.Return (some (.Name n p)) pos] env po :=
  sx_of (pss_one (ps_ret (mE X _))) fun O fp σ H S D G => by
    obtain ⟨v, h1, h2⟩ := S.sl i _ h
    exact tE_of fun pins s I => (pe_var hN hv hd hc).run pins s σ H _ I ⟨v, h1, G.rt x env fp σ v H hR Keep.refl S ⟨fp i, fun a ha => ⟨i, ha⟩, h2⟩⟩
theorem sx_retE {ω : Type} [Own ω] {x : ω} {po : Po ω} (he : EN X e env x) (hR : po.R x env) : SX X W [.Return (some e) pos] env po :=
  sx_of (pss_one (ps_ret (mE X _))) fun O fp σ H S D G => he O fp σ H S _ fun v L H1 e1 hL hd ow => by
    have S1 := S.new (i := env.length) e1 hL hd ow
    rw [List.set_eq_of_length_le (Nat.le_refl _), List.set_eq_of_length_le (by rw [S.len]; exact Nat.le_refl _)] at S1
    refine G.rt x env _ σ v H1 hR (Keep.new (i := env.length) e1 hL) S1 ⟨L, fun a ha => ⟨env.length, by unfold setF; rw [if_pos rfl]; exact ha⟩, ow _ (Ex.le ?_)⟩
    exact wo_mono fun a z => by
      rcases z with z | ⟨j, z⟩
      · exact .inl (.inl z)
      · unfold setF at z
        split at z
        · exact .inr z
        · exact .inl (.inr ⟨j, z⟩)
theorem sx_retS {d : Dc α} {i : Nat} {n : Str} {j : Nat} {po : Po (OS α β)} (h : env[i]? = some (.own (OD.mk d))) (he : EX X b env y) (hR : po.R (OS.mk (d, y)) env) (hN : X.N[i]? = some n := by rfl) (hv : Vis X.env.scope n := by first | exact Or.inl rfl | exact Or.inr (Or.inl rfl) | exact Or.inr (Or.inr rfl)) (hd : (n == ("__debug__" : Str)) = false := by decide) (hc : (n == ("__classdict__" : Str)) = false := by decide)
    (hs : starEach [.Name n p, b] X.env = (false, eval (.Name n p) X.env) :: starEach [b] X.env := by exact star_plain rfl _ _) (hs2 : starEach [b] X.env = (false, eval b X.env) :: starEach [] X.env := by exact star_plain rfl _ _) : SX X W [.Return (some (.Tuple [.Name n p, b] j tpos)) pos] env po :=
  sx_of (pss_one (ps_ret (mE X _))) fun O fp σ H S D G => by
    obtain ⟨ad, ws, h1, h2, h3, h4⟩ := S.od h
    refine tE_of fun pins s I => (pe_tup (pa_cons (pe_var hN hv hd hc) (pa_cons (mE X b) pa_nil hs2) hs)).run pins s σ H _ I ⟨.ref ad, h1, ?_⟩
    refine he O fp σ H S _ fun u H1 e1 r1 => ⟨show 2 ≤ sizeLine from by decide, fun t ht => ?_⟩
    have S1 := S.ex e1
    have nt := S1.fresh ht
    have e2 : Ex H1 (upd H1 t (.tup [.ref ad, u])) := Ex.new ht
    have le := (wo_ex (U := UU O fp) (e1.trans e2)).le
    refine G.rt _ env fp σ _ _ hR (Keep.ex (e1.trans e2)) (S1.ex e2) ⟨[ad], fun a ha => ⟨i, by rw [h2]; exact ha⟩, t, ad, ws, u, rfl, .inl (.inl (upd_out nt)), rfl, (e1.trans e2) ad _ h3, h4.mono le, Dat.mono (wo_ex e2).le r1⟩
theorem en_call {ω : Type} [Own ω] {n : Str} {k m : Nat} {ps : List Str} {dvs : List V} {dxs xs : List Sl} {Φ : Phi ω} {r : ω} (d : DefOk X.prog X.w X.K X.mg X.base n k ps dvs (spP X.K X.mg m Φ)) (hr : Room k X.A) (ha : EA X (e :: es) env xs) (hΦ : Φ (xs ++ dxs) (fun r' => r' = r) (fun _ => False)) (hd : ∀ H, ARep X.K H dvs dxs)
    (hl : (xs ++ dxs).length = m := by rfl) (hg : Gl X n := by rfl) (hdb : (n == ("__debug__" : Str)) = false := by decide) (he : starEach (e :: es) X.env = (false, eval e X.env) :: starEach es X.env := by exact star_plain rfl _ _) (hpl : (backTo pos (starEach es X.env)).any (·.1) = false := by exact star_pl rfl) : EN X (.Call (.Name n p) (e :: es) [] pos) env r := by
  obtain ⟨f, fd, ds, F, hm, hk, hb, hv⟩ := d.ex
  intro O fp σ H S Q q
  refine tE_of fun pins s I => ?_
  refine (pe_call F hr hg hm hk hb hv passL (mA X _) hdb he hpl).run pins s σ H Q I ?_
  refine ha O fp σ H S _ fun vs H1 e1 r1 => ?_
  have r2 := dvs_rep r1 (hd _)
  have S2 := ARep.sok (S.ex e1).bndU r2
  refine ⟨by rw [r2.length]; exact hl, UU O fp, xs ++ dxs, _, _, hΦ, S2, fun r' v H' hr' e2 ro => ?_, fun _ _ _ _ h => h.elim⟩
  subst hr'
  obtain ⟨L, g1, g2, g3⟩ := ro
  exact q v L H' (e1.trans e2) (fun a ha => e1.free (g1 a ha)) g2 fun Hf le => Own.frame le (fun _ _ => rfl) g3
theorem cut_slot {O : Addr → Prop} {fp : Nat → List Addr} {H' Hf : Hp} {i : Nat} {ad : Addr} {ob : HO} {L : List Addr} (hL : fp i = [ad]) (hl : H' ad = some ob) (ho : ∀ ys, ob ≠ .tup ys) (ho' : ∀ o ys, ob ≠ .frz o (.tup ys)) (le : Le (wo H' (fun a => UU O fp a ∨ a ∈ L)) Hf) (b : Addr) (ys : List V) (t : Rd (wo H' (fun a => UU O (setF fp i []) a ∨ a ∈ L)) b (.tup ys)) : Rd Hf b (.tup ys) := by
  have nb : b ≠ ad := fun z => by
    subst z
    rcases t with t | ⟨o, t⟩
    · have := (wo_some t).2; rw [hl] at this; exact ho ys (Option.some.inj this)
    · have := (wo_some t).2; rw [hl] at this; exact ho' o ys (Option.some.inj this)
  refine le b _ trivial ?_
  have nu : ¬ (UU O (setF fp i []) b ∨ b ∈ L) := by rcases t with t | ⟨o, t⟩ <;> exact (wo_some t).1
  have nu2 : ¬ (UU O fp b ∨ b ∈ L) := fun z => by
    rcases z with (z | ⟨j, z⟩) | z
    · exact nu (.inl (.inl z))
    · by_cases ej : j = i
      · subst ej
        rw [hL] at z
        exact nb (List.mem_singleton.mp z)
      · exact nu (.inl (.inr ⟨j, by unfold setF; rw [if_neg ej]; exact z⟩))
    · exact nu (.inr z)
  rcases t with t | ⟨o, t⟩
  · exact .inl (by rw [wo_out nu2]; exact (wo_some t).2)
  · exact .inr ⟨o, by rw [wo_out nu2]; exact (wo_some t).2⟩
theorem en_thawL {ω : Type} [Own ω] [OwnNM ω] {r : ω} {i : Nat} (hi : env[i]? = some (.own (OL.mk xs))) (h : EN X e (env.set i (.dat xs)) r) : EN X e env r := fun O fp σ H S Q q => h O (setF fp i []) σ H (S.frz hi fun v Hf r q => own_frzL r q) Q fun v L H' e1 hL hd ow => q v L H' e1 hL hd fun Hf le => by
  obtain ⟨ad, vs, h1, h2, h3, h4⟩ := S.ol hi
  exact OwnNM.cut X.K _ _ H' v L r (fun b ys t => cut_slot h2 (e1 ad _ h3) (fun _ z => by cases z) (fun _ _ z => by cases z) le b ys t) (ow _ (Le.refl _))
theorem en_thawD {ω : Type} [Own ω] [OwnNM ω] {r : ω} {i : Nat} {d : Dc α} (hi : env[i]? = some (.own (OD.mk d))) (h : EN X e (env.set i (.dat d)) r) : EN X e env r := fun O fp σ H S Q q => h O (setF fp i []) σ H (S.frz hi fun v Hf r q => own_frzD r q) Q fun v L H' e1 hL hd ow => q v L H' e1 hL hd fun Hf le => by
  obtain ⟨ad, vs, h1, h2, h3, h4⟩ := S.od hi
  exact OwnNM.cut X.K _ _ H' v L r (fun b ys t => cut_slot h2 (e1 ad _ h3) (fun _ z => by cases z) (fun _ _ z => by cases z) le b ys t) (ow _ (Le.refl _))
theorem ex_newS {x : Dc α × β} (h : EN X e env (OS.mk x)) : EX X e env x := ex_new h fun _ _ _ _ _ => own_frzS
theorem sx_frzS {i : Nat} {x : Dc α × β} (hi : env[i]? = some (.own (OS.mk x))) (h : SX X W rest (env.set i (.dat x)) po) : SX X W rest env po := fun O fp σ H S D G => h O (setF fp i []) σ H (S.frz hi fun v Hf r q => own_frzS r q) D (G.step Keep.frz')
/-! l.clear(), d.clear(), x = d.pop(k, e) -/
theorem sx_clearL {i : Nat} {st : Stmt} (ps : PS X st (tDrop (tBM0 X.K "list" rClear (tVar i)))) (hi : env[i]? = some (.own (OL.mk xs))) (h : SX X W rest (env.set i (.own (OL.mk ([] : List α)))) po) : SX X W (st :: rest) env po :=
  sx_step ps (fun O fp σ H S D q => by
    obtain ⟨ad, vs, h1, h2, h3, h4⟩ := S.ol hi
    refine ⟨.ref ad, h1, .inl ⟨rfl, vs, .inl (.inl h3)⟩, ad, vs, rfl, rfl, h3, ?_⟩
    exact q fp σ _ (Keep.mut ⟨i, by rw [h2]; exact List.mem_singleton.mpr rfl⟩) (S.mut hi h2 fun v' hv' => by
      rw [h1] at hv'
      cases hv'
      exact ⟨ad, [], rfl, rfl, upd_same, .nil⟩)) h
theorem sx_clearD {i : Nat} {st : Stmt} {d : Dc α} (ps : PS X st (tDrop (tBM0 X.K "dict" rDClear (tVar i)))) (hi : env[i]? = some (.own (OD.mk d))) (h : SX X W rest (env.set i (.own (OD.mk (⟨[]⟩ : Dc α)))) po) : SX X W (st :: rest) env po :=
  sx_step ps (fun O fp σ H S D q => by
    obtain ⟨ad, vs, h1, h2, h3, h4⟩ := S.od hi
    refine ⟨.ref ad, h1, .inr (.inr (.inl ⟨rfl, .inl ⟨vs, h3⟩⟩)), ad, vs, rfl, rfl, h3, ?_⟩
    exact q fp σ _ (Keep.mut ⟨i, by rw [h2]; exact List.mem_singleton.mpr rfl⟩) (S.mut hi h2 fun v' hv' => by
      rw [h1] at hv'
      cases hv'
      exact ⟨ad, [], rfl, rfl, upd_same, .nil⟩)) h
theorem repD.none {K : PySem.W.Frag} {H : Hp} {ws : List (Key × V)} {kvs : List (Str × α)} (h : repD K H ws kvs) {k : Str} (n : valV ws (.inr k) = none) : dropD kvs k = kvs := by
  unfold repD at h
  induction h with
  | nil => rfl
  | @cons q p _ _ h0 t ih =>
    obtain ⟨q1, q2⟩ := q
    have h1 : q1 = .inr p.1 := h0.1
    subst h1
    by_cases e : p.1 = k
    · subst e
      rw [valV_pos rfl] at n
      cases n
    · rw [valV_neg (p := ((.inr p.1 : Key), q2)) (fun z => e (Sum.inr.inj z))] at n
      unfold dropD at ih ⊢
      rw [List.filter_cons, decide_eq_true e, if_pos rfl, ih n]
theorem sx_popD {i j : Nat} {n : Str} {d : Dc α} {k : Str} (hN : X.N.Nodup) (m : M2 X o "pop" apos a e cpos) (hpv : PE X o (tVar i)) (hi : env[i]? = some (.own (OD.mk d))) (hk : EX X a env k) (he : EX X e env x) (hij : i ≠ j) (h : SX X W rest ((env.set i (.own (OD.mk (d.drop k)))).set j (.dat ((d.look k).getD x))) po) (hj : X.N[j]? = some n := by rfl) (hx : Loc X.env.scope n := by first | exact Or.inl rfl | exact Or.inr rfl)
    (hs : swapsWith (.Call (.Attribute o "pop" apos) [a, e] [] cpos) (some (.Name n p2)) pos.line X.env = pure false := by rfl) (hf : X.fn n = true ∨ X.env.scope.names.lookup n = some .local := by first | exact .inl rfl | exact .inr rfl | assumption) : SX X W (.Assign [.Name n p2] (.Call (.Attribute o "pop" apos) [a, e] [] cpos) pos :: rest) env po :=
  sx_step (ps_set hN hj hx (pe_dpop2 hpv (mE X a) (mE X e) m) hs hf) (fun O fp σ H S D q => by
    obtain ⟨ad, ws, h1, h2, h3, h4⟩ := S.od hi
    refine ⟨.ref ad, h1, ad, rfl, .inl ⟨ws, .inl h3⟩, hk O fp σ H S _ fun u H1 e1 r1 => he O fp σ H1 (S.ex e1) _ fun w H2 e2 r2 => ?_⟩
    have r1 : u = .str k := r1
    subst r1
    have S2 := (S.ex e1).ex e2
    have h5 := h4.mono (wo_ex (U := UU O fp) (e1.trans e2)).le
    refine ⟨ws, .inr k, (e1.trans e2) ad _ h3, rfl, fun v hv => ?_, fun hn => ?_⟩
    · have kp : Keep fp H fp (upd H2 ad (.dK (dropK ws (.inr k)))) := (Keep.ex (e1.trans e2)).trans (Keep.mut ⟨i, by rw [h2]; exact List.mem_singleton.mpr rfl⟩)
      have S3 := S2.mut (o := .dK (dropK ws (.inr k))) hi h2 (y := OD.mk (d.drop k)) (fun v' hv' => by
        rw [h1] at hv'
        cases hv'
        exact ⟨ad, _, rfl, rfl, upd_same, h5.drop k⟩)
      refine q fp _ _ kp (S3.set j ?_)
      rw [wo_upd_in (.inr ⟨i, by rw [h2]; exact List.mem_singleton.mpr rfl⟩)]
      rcases h5.look k with ⟨n1, n2⟩ | ⟨v', x', hv1, hx1, rx1⟩
      · rw [n1] at hv; cases hv
      · rw [hv1] at hv
        cases hv
        show Dat.rep _ _ _ ((lookD d.kvs k).getD x)
        rw [hx1]
        exact rx1
    · have e0 : d.drop k = d := by
        show Dc.mk (dropD d.kvs k) = d
        rw [h5.none hn]
      have e3 : env.set i (.own (OD.mk (d.drop k))) = env := by
        rw [e0]
        have hl := (List.getElem?_eq_some_iff.mp hi).1
        have := (List.getElem?_eq_some_iff.mp hi).2
        rw [← this, List.set_getElem_self]
      rw [e3] at q
      refine q fp _ _ (Keep.ex (e1.trans e2)) (S2.set j ?_)
      rcases h5.look k with ⟨n1, n2⟩ | ⟨v', x', hv1, hx1, rx1⟩
      · show Dat.rep _ _ _ ((lookD d.kvs k).getD x)
        rw [n2]
        exact r2
      · rw [hn] at hv1; cases hv1) h
end
end R
set_option maxHeartbeats 400000
set_option autoImplicit false
namespace R
open PySem PySem.Spec PyProof.Rows L2
section
variable {X : Cx} {W : WX} {env env' : Env'} {ρ α β γ : Type} [Res ρ] [Dat α] [Dat β] [Dat γ] {po : Po ρ} {x : α} {y : β} {z : γ} {e a b c tg iter o : Expr} {es elts : List Expr} {pos p p2 pc p3 apos cpos tpos : Pos} {rest body : List Stmt} {xs ys : List α} {st : Stmt}
theorem SOk.os {O : Addr → Prop} {fp : Nat → List Addr} {σ : L2.St} {H : Hp} {i : Nat} {q : Dc α × β} (S : SOk X.K O fp env σ H) (hi : env[i]? = some (.own (OS.mk q))) : ∃ t ad ws u, σ[i]? = some (some (.ref t)) ∧ fp i = [ad] ∧ SqT X.K (wo H (UU O fp)) t [.ref ad, u] ∧ H ad = some (.dK ws) ∧ repD X.K (wo H (UU O fp)) ws q.1.kvs ∧ Dat.rep X.K (wo H (UU O fp)) u q.2 := by
  obtain ⟨v, h1, t, ad, ws, u, h2, h3, h4, h5, h6, h7⟩ := S.sl i _ hi
  subst h2
  exact ⟨t, ad, ws, u, h1, h4, h3, h5, h6, h7⟩
theorem cut_slot1 {O : Addr → Prop} {fp : Nat → List Addr} {H' : Hp} {i : Nat} {ad : Addr} {ob : HO} (hL : fp i = [ad]) (hl : H' ad = some ob) (ho : ∀ ys, ob ≠ .tup ys) (ho' : ∀ o ys, ob ≠ .frz o (.tup ys)) (b : Addr) (ys : List V) (t : Rd (wo H' (UU O (setF fp i []))) b (.tup ys)) : Rd (wo H' (UU O fp)) b (.tup ys) := by
  have e : (fun a => UU O (setF fp i []) a ∨ a ∈ ([] : List Addr)) = UU O (setF fp i []) := by funext a; simp
  have e2 : (fun a => UU O fp a ∨ a ∈ ([] : List Addr)) = UU O fp := by funext a; simp
  have := cut_slot (O := O) (L := []) hL hl ho ho' (by rw [e2]; exact Le.refl (wo H' (UU O fp))) b ys (by rw [e]; exact t)
  exact this
theorem ex_thawS [NoMut γ] {i : Nat} {q : Dc α × β} (hi : env[i]? = some (.own (OS.mk q))) (h : EX X e (env.set i (.dat q)) z) : EX X e env z := fun O fp σ H S Q k => h O (setF fp i []) σ H (S.frz hi fun v Hf r q => own_frzS r q) Q fun v H' e1 r => k v H' e1 (by
  obtain ⟨t, ad, ws, u, h1, h2, h3, h4, h5, h6⟩ := S.os hi
  exact NoMut.cut X.K _ _ v z (fun b ys t => cut_slot1 h2 (e1 ad _ h4) (fun _ z => by cases z) (fun _ _ z => by cases z) b ys t) r)
theorem et_thawS {k : Bool} {i : Nat} {q : Dc α × β} (hi : env[i]? = some (.own (OS.mk q))) (h : ET X e (env.set i (.dat q)) k) : ET X e env k := fun O fp σ H S Q r => h O (setF fp i []) σ H (S.frz hi fun v Hf r q => own_frzS r q) Q r
theorem SOk.osMut {O : Addr → Prop} {fp : Nat → List Addr} {σ : L2.St} {H : Hp} {i : Nat} {q : Dc α × β} (S : SOk X.K O fp env σ H) (hi : env[i]? = some (.own (OS.mk q))) {t ad : Addr} {ws : List (Key × V)} {u : V} {d : Dc α} {ws' : List (Key × V)} (h1 : σ[i]? = some (some (.ref t))) (h2 : fp i = [ad]) (h3 : SqT X.K (wo H (UU O fp)) t [.ref ad, u]) (hr : repD X.K (wo H (UU O fp)) ws' d.kvs) (h6 : Dat.rep X.K (wo H (UU O fp)) u q.2) : SOk X.K O fp (env.set i (.own (OS.mk (d, q.2)))) σ (upd H ad (.dK ws')) :=
  S.mut hi h2 fun v' hv' => by
    rw [h1] at hv'
    cases hv'
    exact ⟨t, ad, ws', u, rfl, h3, rfl, upd_same, hr, h6⟩
/-- x[0].clear() of one's own pair -/
theorem sx_clearS {i : Nat} {n : Str} {q : Dc α × β} {j : Nat} {pos' : Pos} (hi : env[i]? = some (.own (OS.mk q))) (h : SX X W rest (env.set i (.own (OS.mk ((⟨[]⟩ : Dc α), q.2)))) po) (hN : X.N[i]? = some n := by rfl) (hv : Vis X.env.scope n := by first | exact Or.inl rfl | exact Or.inr (Or.inl rfl) | exact Or.inr (Or.inr rfl)) (hd : (n == ("__debug__" : Str)) = false := by decide) (hc : (n == ("__classdict__" : Str)) = false := by decide)
    (hbase : attributeBase (.Subscript (.Name n p) (.Constant (.int 0) j pos') p2) "clear" X.env (eval (.Subscript (.Name n p) (.Constant (.int 0) j pos') p2) X.env) = eval (.Subscript (.Name n p) (.Constant (.int 0) j pos') p2) X.env := by rfl) (hline : (apos.endLine == cpos.line) = true := by rfl) (hs : swapsWith (.Call (.Attribute (.Subscript (.Name n p) (.Constant (.int 0) j pos') p2) "clear" apos) [] [] cpos) none pos.line X.env = pure false := by rfl) :
    SX X W (.Expr (.Call (.Attribute (.Subscript (.Name n p) (.Constant (.int 0) j pos') p2) "clear" apos) [] [] cpos) pos :: rest) env po :=
  sx_step (ps_expr (pe_dclear (pe_ix ix_tup (pe_var hN hv hd hc) pe_int (fun _ _ => rfl)) hbase hline) hs) (fun O fp σ H S D k => by
    obtain ⟨t, ad, ws, u, h1, h2, h3, h4, h5, h6⟩ := S.os hi
    refine ⟨.ref t, h1, t, [.ref ad, u], 0, _, rfl, rfl, wo_le.tup h3, atI_nat (j := 0) rfl, .inr (.inr (.inl ⟨rfl, .inl ⟨ws, h4⟩⟩)), ad, ws, rfl, rfl, h4, ?_⟩
    exact k fp σ _ (Keep.mut ⟨i, by rw [h2]; exact List.mem_singleton.mpr rfl⟩) (S.osMut hi (ws := ws) h1 h2 h3 .nil h6)) h
/-- f(..)[0].clear() of something new -/
theorem sx_clearT {q : Dc α × β} {j : Nat} {pos' : Pos} (he : EN X e env (OS.mk q)) (h : SX X W rest env po)
    (hbase : attributeBase (.Subscript e (.Constant (.int 0) j pos') p2) "clear" X.env (eval (.Subscript e (.Constant (.int 0) j pos') p2) X.env) = eval (.Subscript e (.Constant (.int 0) j pos') p2) X.env := by rfl) (hline : (apos.endLine == cpos.line) = true := by rfl) (hs : swapsWith (.Call (.Attribute (.Subscript e (.Constant (.int 0) j pos') p2) "clear" apos) [] [] cpos) none pos.line X.env = pure false := by rfl) :
    SX X W (.Expr (.Call (.Attribute (.Subscript e (.Constant (.int 0) j pos') p2) "clear" apos) [] [] cpos) pos :: rest) env po :=
  sx_step (ps_expr (pe_dclear (pe_ix ix_tup (mE X e) pe_int (fun _ _ => rfl)) hbase hline) hs) (fun O fp σ H S D k => by
    refine he O fp σ H S _ fun v L H1 e1 hL hd ow => ?_
    obtain ⟨t, ad, ws, u, h1, h3, h2, h4, h5, h6⟩ := ow _ (Le.refl _)
    subst h1
    have fr : H ad = none := hL ad (by rw [h2]; exact List.mem_singleton.mpr rfl)
    have e2 : Ex H (upd H1 ad (.dK [])) := fun b ob hb => by
      rw [upd_ne (ne_of_none hb fr)]
      exact e1 b ob hb
    refine ⟨t, [.ref ad, u], 0, _, rfl, rfl, wo_le.tup h3, atI_nat (j := 0) rfl, .inr (.inr (.inl ⟨rfl, .inl ⟨ws, h4⟩⟩)), ad, ws, rfl, rfl, h4, ?_⟩
    exact k fp σ _ (Keep.ex e2) (S.ex e2)) h
end
end R
set_option maxHeartbeats 400000
set_option autoImplicit false
namespace R
open PySem PySem.Spec PyProof.Rows L2
section
variable {X : Cx} {W : WX} {env env' : Env'} {ρ α β γ : Type} [Res ρ] [Dat α] [Dat β] [Dat γ] {po : Po ρ} {x : α} {y : β} {z : γ} {e a b c tg iter o : Expr} {es elts : List Expr} {pos p p2 pc p3 apos cpos tpos : Pos} {rest body : List Stmt} {xs ys : List α} {st : Stmt}
/-- str(i) -/
def showI (i : Int) : Str := toString i
def Shown (i : Int) : Prop := i.natAbs.log2 < 1920
theorem ex_strI {i : Int} (hm : X.mg "str" = none) (h : EX X a env i) (g : Shown i) (he : starEach [a] X.env = (false, eval a X.env) :: starEach [] X.env := by exact star_plain rfl _ _) (hpl : (backTo pos (starEach [] X.env)).any (·.1) = false := by exact star_pl rfl) (hg : Gl X "str" := by rfl) : EX X (.Call (.Name "str" p) [a] [] pos) env (showI i) :=
  ex_callTy call_str_int hm (by decide +kernel) (ea1 h he) (rc1 fun U v H bn r Q q => ⟨i, by rw [show v = .int i from r], g, q _ H (Ex.refl H) rfl⟩) hg (by decide) (by decide) he hpl
/-- f(..).append(x) of something new -/
theorem sx_appT (he : EN X e env (OL.mk xs)) (hx : EX X a env x) (hz : xs.length < 100000) (h : SX X W rest env po) (ps : PS X st (tDrop (tBM X.K "list" rAppend (tE X e) (tCons (tE X a) tNil)))) : SX X W (st :: rest) env po :=
  sx_step ps (fun O fp σ H S D k => by
    refine he O fp σ H S _ fun v L H1 e1 hL hd ow => ?_
    obtain ⟨ad, vs, h1, h2, h3, h4⟩ := ow _ (Le.refl _)
    subst h1
    have fr : H ad = none := hL ad (by rw [h2]; exact List.mem_singleton.mpr rfl)
    refine ⟨.inl ⟨rfl, vs, .inl (.inl h3)⟩, hx O fp σ H1 (S.ex e1) _ fun u H2 e2 r2 => ⟨ad, vs, u, rfl, rfl, e2 ad _ h3, ?_, ?_⟩⟩
    · rw [Paired.length h4]
      exact Nat.lt_of_lt_of_le hz (by decide)
    · have e3 : Ex H (upd H2 ad (.lst (vs ++ [u]))) := fun b ob hb => by
        rw [upd_ne (ne_of_none hb fr)]
        exact e2 b ob (e1 b ob hb)
      exact k fp σ _ (Keep.ex e3) (S.ex e3)) h
end
end R
set_option maxHeartbeats 1000000
set_option autoImplicit false
/-! calls that are handed one's own lists and change them -/
namespace R
open PySem PySem.Spec PyProof.Rows L2
/-- one's own, at a value that is known -/
structure At (β : Type) where
  v : V
  x : β
instance {β : Type} [Own β] : Own (At β) := ⟨fun K Hf H v L a => v = a.v ∧ Own.own K Hf H v L a.x, fun h hc ⟨e, q⟩ => ⟨e, Own.frame h hc q⟩⟩
section
variable {K : PySem.W.Frag} {O : Addr → Prop} {fp : Nat → List Addr} {env : Env'} {σ : L2.St} {H H' : Hp}
theorem SOk.pin {β : Type} [Own β] {i : Nat} {x : β} (S : SOk K O fp env σ H) (hi : env[i]? = some (.own x)) : ∃ v, σ[i]? = some (some v) ∧ SOk K O fp (env.set i (.own (At.mk v x))) σ H := by
  obtain ⟨v, h1, h2⟩ := S.sl i _ hi
  refine ⟨v, h1, { len := by rw [List.length_set]; exact S.len, bnd := S.bnd, fpO := S.fpO, sep := S.sep, dom := S.dom, sl := fun j s q => ?_ }⟩
  by_cases e : i = j
  · subst e
    rw [List.getElem?_set_self (List.getElem?_eq_some_iff.mp hi).1] at q
    cases q
    exact ⟨v, h1, rfl, h2⟩
  · rw [List.getElem?_set_ne e] at q
    exact S.sl j s q
theorem SOk.unpin {β : Type} [Own β] {i : Nat} {v : V} {x : β} (S : SOk K O fp env σ H) (hi : env[i]? = some (.own (At.mk v x))) : SOk K O fp (env.set i (.own x)) σ H where
  len := by rw [List.length_set]; exact S.len
  bnd := S.bnd
  fpO := S.fpO
  sep := S.sep
  dom := S.dom
  sl := fun j s q => by
    by_cases e : i = j
    · subst e
      rw [List.getElem?_set_self (List.getElem?_eq_some_iff.mp hi).1] at q
      cases q
      obtain ⟨w, h1, h2, h3⟩ := S.sl i _ hi
      exact ⟨w, h1, h3⟩
    · rw [List.getElem?_set_ne e] at q
      exact S.sl j s q
end
/-- what is handed over: data, or one's own in a slot -/
inductive Arg : Type 1
  | dat (s : Sl)
  | slot (i : Nat) (keep : Bool)
def AM (K : PySem.W.Frag) (Hf : Hp) (σ : L2.St) : List V → List Arg → Prop
  | [], [] => True
  | v :: vs, .dat (.dat (i := i) x) :: as => i.rep K Hf v x ∧ AM K Hf σ vs as
  | v :: vs, .slot i _ :: as => σ[i]? = some (some v) ∧ AM K Hf σ vs as
  | _, _ => False
theorem AM.mono {K : PySem.W.Frag} {H H' : Hp} {σ : L2.St} (e : Le H H') : ∀ {vs : List V} {as : List Arg}, AM K H σ vs as → AM K H' σ vs as
  | [], [], _ => trivial
  | _ :: _, .dat (.dat (i := i) x) :: _, h => ⟨i.mono e h.1, AM.mono e h.2⟩
  | _ :: _, .slot _ _ :: _, h => ⟨h.1, AM.mono e h.2⟩
  | [], _ :: _, h => by simp [AM] at h
  | _ :: _, [], h => by simp [AM] at h
  | _ :: _, .dat .any :: _, h => by simp [AM] at h
  | _ :: _, .dat (.own (i := _) _) :: _, h => by simp [AM] at h
theorem AM.len {K : PySem.W.Frag} {H : Hp} {σ : L2.St} : ∀ {vs : List V} {as : List Arg}, AM K H σ vs as → vs.length = as.length
  | [], [], _ => rfl
  | _ :: _, .dat (.dat (i := i) x) :: _, h => congrArg (· + 1) (AM.len h.2)
  | _ :: _, .slot _ _ :: _, h => congrArg (· + 1) (AM.len h.2)
  | [], _ :: _, h => by simp [AM] at h
  | _ :: _, [], h => by simp [AM] at h
  | _ :: _, .dat .any :: _, h => by simp [AM] at h
  | _ :: _, .dat (.own (i := _) _) :: _, h => by simp [AM] at h
/-- what the called def's slots hold at its start -/
def pinS (v : V) : Option Sl → Sl
  | some (.own (i := _) x) => .own (At.mk v x)
  | _ => .any
def mkA (env : Env') : List V → List Arg → Env'
  | v :: vs, .dat s :: as => s :: mkA env vs as
  | v :: vs, .slot i b :: as => (if b = true then pinS v env[i]? else env[i]?.getD .any) :: mkA env vs as
  | _, _ => []
/-- what the caller's slots hold behind the call -/
def upA (e' : Env') : Nat → List Arg → Env' → Env'
  | _, [], env => env
  | k, .dat _ :: as, env => upA e' (k + 1) as env
  | k, .slot i b :: as, env => upA e' (k + 1) as (env.set i (if b = true then e'.getD k .any else .any))
def isPin (v : V) : Sl → Prop
  | s => ∃ (β : Type) (_ : Own β) (y : β), s = .own (At.mk v y)
theorem mkA_len (env : Env') : ∀ {vs : List V} {as : List Arg}, vs.length = as.length → (mkA env vs as).length = vs.length
  | [], [], _ => rfl
  | _ :: _, .dat _ :: _, h => congrArg (· + 1) (mkA_len env (Nat.succ.inj h))
  | _ :: _, .slot _ _ :: _, h => congrArg (· + 1) (mkA_len env (Nat.succ.inj h))
theorem AM.get {K : PySem.W.Frag} {H : Hp} {σ : L2.St} {env : Env'} : ∀ {vs : List V} {as : List Arg}, AM K H σ vs as → ∀ {k : Nat} {v : V}, vs[k]? = some v → (∃ (α : Type) (i : Dat α) (x : α), as[k]? = some (.dat (.dat x)) ∧ (mkA env vs as)[k]? = some (.dat x) ∧ i.rep K H v x) ∨ ∃ (i : Nat) (b : Bool), as[k]? = some (.slot i b) ∧ (mkA env vs as)[k]? = some (if b = true then pinS v env[i]? else env[i]?.getD .any) ∧ σ[i]? = some (some v)
  | v :: vs, .dat (.dat (i := i) x) :: as, h, 0, w, e => by cases e; exact .inl ⟨_, i, x, rfl, rfl, h.1⟩
  | v :: vs, .slot i b :: as, h, 0, w, e => by cases e; exact .inr ⟨i, b, rfl, rfl, h.1⟩
  | v :: vs, .dat (.dat (i := i) x) :: as, h, k + 1, w, e => AM.get (vs := vs) (as := as) h.2 (by simpa using e)
  | v :: vs, .slot i b :: as, h, k + 1, w, e => AM.get (vs := vs) (as := as) h.2 (by simpa using e)
  | [], _, _, k, w, e => by simp at e
  | _ :: _, [], h, _, _, _ => by simp [AM] at h
  | _ :: _, .dat .any :: _, h, _, _, _ => by simp [AM] at h
  | _ :: _, .dat (.own (i := _) _) :: _, h, _, _, _ => by simp [AM] at h
/-- which slot stands at which place -/
def posOf (as : List Arg) (i : Nat) : Option Nat := as.findIdx? fun a => match a with
  | .slot j _ => decide (j = i)
  | .dat _ => false
theorem posOf_some {as : List Arg} {i k : Nat} (h : posOf as i = some k) : ∃ b, as[k]? = some (.slot i b) := by
  unfold posOf at h
  obtain ⟨h1, h2, _⟩ := List.findIdx?_eq_some_iff_getElem.mp h
  rw [List.getElem?_eq_getElem h1]
  cases e : as[k] with
  | dat s => rw [e] at h2; simp at h2
  | slot j b =>
    rw [e] at h2
    have : j = i := by simpa using h2
    rw [this]
    exact ⟨b, rfl⟩
theorem posOf_none {as : List Arg} {i : Nat} (h : posOf as i = none) (k : Nat) (b : Bool) : as[k]? ≠ some (.slot i b) := fun e => by
  unfold posOf at h
  rw [List.findIdx?_eq_none_iff] at h
  have := h _ (List.mem_of_getElem? e)
  simp at this
/-- each slot is handed over once -/
def Once (as : List Arg) : Prop := ∀ (k l i : Nat) (b c : Bool), as[k]? = some (.slot i b) → as[l]? = some (.slot i c) → k = l
theorem posOf_is {as : List Arg} (h1 : Once as) {k i : Nat} {b : Bool} (h : as[k]? = some (.slot i b)) : posOf as i = some k := by
  cases e : posOf as i with
  | none => exact absurd h (posOf_none e k b)
  | some l =>
    obtain ⟨c, hc⟩ := posOf_some e
    rw [h1 k l i b c h hc]
theorem upA_get (e' : Env') : ∀ (as : List Arg) (k : Nat) (env : Env') (j : Nat), (∀ (l : Nat) (b : Bool), as[l]? ≠ some (.slot j b)) → (upA e' k as env)[j]? = env[j]?
  | [], _, _, _, _ => rfl
  | .dat _ :: as, k, env, j, h => upA_get e' as (k + 1) env j fun l b => by simpa using h (l + 1) b
  | .slot i b :: as, k, env, j, h => by
    show (upA e' (k + 1) as _)[j]? = _
    rw [upA_get e' as (k + 1) _ j fun l b => by simpa using h (l + 1) b, List.getElem?_set_ne fun e => h 0 b (by rw [e]; rfl)]
theorem upA_at (e' : Env') : ∀ (as : List Arg) (k : Nat) (env : Env') (l j : Nat) (b : Bool), Once as → as[l]? = some (.slot j b) → j < env.length → (upA e' k as env)[j]? = some (if b = true then e'.getD (k + l) .any else .any)
  | .dat _ :: as, k, env, 0, j, _, _, h, _ => by simp at h
  | .dat _ :: as, k, env, l + 1, j, b, o, h, hl => by
    have := upA_at e' as (k + 1) env l j b (fun a c i x y q1 q2 => by have := o (a + 1) (c + 1) i x y (by simpa using q1) (by simpa using q2); omega) (by simpa using h) hl
    rw [show k + 1 + l = k + (l + 1) by omega] at this
    exact this
  | .slot i b' :: as, k, env, 0, j, b, o, h, hl => by
    have e : i = j ∧ b' = b := by simpa using h
    obtain ⟨e, e2⟩ := e
    subst e e2
    show (upA e' (k + 1) as _)[i]? = _
    rw [upA_get e' as (k + 1) _ i fun l b z => by have := o 0 (l + 1) i b' b rfl (by simpa using z); omega, List.getElem?_set_self hl]
    rfl
  | .slot i b' :: as, k, env, l + 1, j, b, o, h, hl => by
    have := upA_at e' as (k + 1) (env.set i (if b' = true then e'.getD k .any else .any)) l j b (fun a c i x y q1 q2 => by have := o (a + 1) (c + 1) i x y (by simpa using q1) (by simpa using q2); omega) (by simpa using h) (by rw [List.length_set]; exact hl)
    rw [show k + 1 + l = k + (l + 1) by omega] at this
    exact this
  | [], _, _, _, _, _, _, h, _ => by simp at h
theorem upA_len (e' : Env') : ∀ (as : List Arg) (k : Nat) (env : Env'), (upA e' k as env).length = env.length
  | [], _, _ => rfl
  | .dat _ :: as, k, env => upA_len e' as (k + 1) env
  | .slot i b :: as, k, env => by rw [show upA e' k (.slot i b :: as) env = upA e' (k + 1) as (env.set i (if b = true then e'.getD k .any else .any)) from rfl, upA_len e' as, List.length_set]
def Pins (vs : List V) (as : List Arg) (e' : Env') : Prop := ∀ (l i : Nat) (v : V), as[l]? = some (.slot i true) → vs[l]? = some v → isPin v (e'.getD l .any)
/-- the heart of a call with one's own handed over -/
theorem callM_core {K : PySem.W.Frag} {O : Addr → Prop} {fp : Nat → List Addr} {env : Env'} {σ : L2.St} {H : Hp} {vs : List V} {as : List Arg} (S1 : SOk K O fp env σ H) (r1 : AM K (wo H (UU O fp)) σ vs as) (ho : Once as) (hown : ∀ (l i : Nat) (b : Bool), as[l]? = some (.slot i b) → ∃ (β : Type) (_ : Own β) (x : β), env[i]? = some (.own x)) :
    ∃ (Oc : Addr → Prop) (fc : Nat → List Addr), SOk K Oc fc (mkA env vs as) (vs.map some) H ∧ (∀ i a, a ∈ fc i → i < as.length ∧ ∃ (j k : Nat) (b : Bool), as[k]? = some (Arg.slot j b) ∧ a ∈ fp j) ∧ (∀ a, (O a ∨ ∃ j, posOf as j = none ∧ a ∈ fp j) → Oc a) ∧ ∀ env' fp' σ' H', Pins vs as env' → Keep fc H fp' H' → SOk K Oc fp' env' σ' H' → ∃ f2, Keep fp H f2 H' ∧ SOk K O f2 (upA env' 0 as env) σ H' ∧ (∀ a, UU O f2 a → UU Oc fp' a) := by
  have hlen : vs.length = as.length := r1.len
  let Oc : Addr → Prop := fun a => O a ∨ ∃ j, posOf as j = none ∧ a ∈ fp j
  let fc : Nat → List Addr := fun k => match as[k]? with
    | some (.slot i _) => fp i
    | _ => []
  have fc_in : ∀ k a, a ∈ fc k → ∃ i b, as[k]? = some (.slot i b) ∧ a ∈ fp i := fun k a z => by
    cases q : as[k]? with
    | none => simp only [fc, q] at z; cases z
    | some b =>
      cases b with
      | dat s => simp only [fc, q] at z; cases z
      | slot i c => simp only [fc, q] at z; exact ⟨i, c, rfl, z⟩
  have fc_at : ∀ k i b, as[k]? = some (.slot i b) → fc k = fp i := fun k i b q => by simp only [fc, q]
  have hU : UU Oc fc = UU O fp := by
    funext a
    apply propext
    constructor
    · rintro ((z | ⟨j, _, z⟩) | ⟨k, z⟩)
      · exact .inl z
      · exact .inr ⟨j, z⟩
      · obtain ⟨i, _, _, z⟩ := fc_in k a z
        exact .inr ⟨i, z⟩
    · rintro (z | ⟨j, z⟩)
      · exact .inl (.inl z)
      · cases q : posOf as j with
        | none => exact .inl (.inr ⟨j, q, z⟩)
        | some k =>
          obtain ⟨b, hb⟩ := posOf_some q
          exact .inr ⟨k, by rw [fc_at k j b hb]; exact z⟩
  refine ⟨Oc, fc, {
    len := by rw [List.length_map, mkA_len env hlen]
    bnd := fun a z => by
      rcases z with z | ⟨j, _, z⟩
      · exact S1.bnd a z
      · exact S1.dom j a z
    fpO := fun k a z => by
      obtain ⟨i, b, q, z⟩ := fc_in k a z
      rintro (y | ⟨j, q2, y⟩)
      · exact S1.fpO i a z y
      · have := S1.sep i j a z y
        subst this
        exact posOf_none q2 k b q
    sep := fun k l a z y => by
      obtain ⟨i, b, q, z⟩ := fc_in k a z
      obtain ⟨j, c, q2, y⟩ := fc_in l a y
      have := S1.sep i j a z y
      subst this
      exact ho k l i b c q q2
    dom := fun k a z => by
      obtain ⟨i, _, q, z⟩ := fc_in k a z
      exact S1.dom i a z
    sl := fun l s q => by
      rw [hU]
      have hk : l < vs.length := by rw [← mkA_len env hlen]; exact (List.getElem?_eq_some_iff.mp q).1
      have ev : vs[l]? = some vs[l] := List.getElem?_eq_getElem hk
      rcases r1.get (env := env) ev with ⟨α', i, x, q1, q2, q3⟩ | ⟨i, b, q1, q2, q3⟩
      · rw [q2] at q
        cases q
        exact ⟨vs[l], by rw [List.getElem?_map, ev]; rfl, q3⟩
      · obtain ⟨β, ib, x, hx⟩ := hown l i b q1
        rw [q2, hx] at q
        obtain ⟨v', y1, y2⟩ := S1.sl i _ hx
        rw [q3] at y1
        have y1 : vs[l] = v' := by injection y1 with y1; injection y1
        subst y1
        cases b with
        | true =>
          cases q
          exact ⟨vs[l], by rw [List.getElem?_map, ev]; rfl, rfl, by rw [fc_at l i true q1]; exact y2⟩
        | false =>
          cases q
          exact ⟨vs[l], by rw [List.getElem?_map, ev]; rfl, by rw [fc_at l i false q1]; exact y2⟩ }, fun l a z => ?_, fun a z => z, fun env' fp' σ' H' hpin kp S' => ?_⟩
  · obtain ⟨i, b, q, y⟩ := fc_in l a z
    exact ⟨(List.getElem?_eq_some_iff.mp q).1, i, l, b, q, y⟩
  · let f2 : Nat → List Addr := fun j => match posOf as j with
      | some k => (match as[k]? with
        | some (.slot _ true) => fp' k
        | _ => [])
      | none => fp j
    have f2_n : ∀ j, posOf as j = none → f2 j = fp j := fun j q => by simp only [f2, q]
    have f2_t : ∀ j k i, posOf as j = some k → as[k]? = some (.slot i true) → f2 j = fp' k := fun j k i q q2 => by simp only [f2, q, q2]
    have f2_f : ∀ j k i, posOf as j = some k → as[k]? = some (.slot i false) → f2 j = [] := fun j k i q q2 => by simp only [f2, q, q2]
    have f2_s : ∀ j k a, posOf as j = some k → a ∈ f2 j → a ∈ fp' k := fun j k a q z => by
      obtain ⟨b, hb⟩ := posOf_some q
      cases b with
      | true => rw [f2_t j k j q hb] at z; exact z
      | false => rw [f2_f j k j q hb] at z; cases z
    have KP : Keep fp H f2 H' := ⟨fun a o n q => kp.1 a o (fun ⟨k, z⟩ => by obtain ⟨i, _, _, z⟩ := fc_in k a z; exact n ⟨i, z⟩) q, fun j a z => by
      cases q : posOf as j with
      | none => rw [f2_n j q] at z; exact .inl ⟨j, z⟩
      | some k =>
        rcases kp.2 k a (f2_s j k a q z) with ⟨l, y⟩ | y
        · obtain ⟨i, _, _, y⟩ := fc_in l a y
          exact .inl ⟨i, y⟩
        · exact .inr y⟩
    have hsub : ∀ a, UU O f2 a → UU Oc fp' a := fun a z => by
      rcases z with z | ⟨j, z⟩
      · exact .inl (.inl z)
      · cases q : posOf as j with
        | none => rw [f2_n j q] at z; exact .inl (.inr ⟨j, q, z⟩)
        | some k => exact .inr ⟨k, f2_s j k a q z⟩
    have hle : Le (wo H' (UU Oc fp')) (wo H' (UU O f2)) := (wo_mono hsub).le
    refine ⟨f2, KP, {
      len := by rw [upA_len]; exact S1.len
      bnd := fun a z => S'.bnd a (.inl z)
      fpO := fun j a z y => by
        cases q : posOf as j with
        | none => rw [f2_n j q] at z; exact S1.fpO j a z y
        | some k => exact S'.fpO k a (f2_s j k a q z) (.inl y)
      sep := fun i j a z y => by
        cases q : posOf as i with
        | none =>
          rw [f2_n i q] at z
          cases q2 : posOf as j with
          | none => rw [f2_n j q2] at y; exact S1.sep i j a z y
          | some l => exact absurd (.inr ⟨i, q, z⟩) (S'.fpO l a (f2_s j l a q2 y))
        | some k =>
          have z := f2_s i k a q z
          cases q2 : posOf as j with
          | none => rw [f2_n j q2] at y; exact absurd (.inr ⟨j, q2, y⟩) (S'.fpO k a z)
          | some l =>
            have y := f2_s j l a q2 y
            have := S'.sep k l a z y
            subst this
            obtain ⟨b, hb⟩ := posOf_some q
            obtain ⟨c, hc⟩ := posOf_some q2
            have := hb.symm.trans hc
            injection this with this
            injection this
      dom := fun j a z => by
        cases q : posOf as j with
        | none => rw [f2_n j q] at z; exact S'.bnd a (.inr ⟨j, q, z⟩)
        | some k => exact S'.dom k a (f2_s j k a q z)
      sl := fun j s q => by
        cases qp : posOf as j with
        | none =>
          rw [upA_get env' as 0 env j (posOf_none qp)] at q
          have r := S1.sl j s q
          cases s with
          | any => exact trivial
          | dat x =>
            obtain ⟨v, y1, y2⟩ := r
            exact ⟨v, y1, Dat.mono KP.frz.le y2⟩
          | own x =>
            obtain ⟨v, y1, y2⟩ := r
            refine ⟨v, y1, ?_⟩
            rw [f2_n j qp]
            refine Own.frame KP.frz.le (fun a z => ?_) y2
            obtain ⟨o, w⟩ := S1.dom j a z
            rw [w]
            exact kp.1 a o (fun ⟨l, y⟩ => by
              obtain ⟨i, b, q3, y⟩ := fc_in l a y
              have := S1.sep i j a y z
              subst this
              exact posOf_none qp l b q3) w
        | some l =>
          obtain ⟨b, hs⟩ := posOf_some qp
          have hj : j < env.length := by
            obtain ⟨β, ib, x, hx⟩ := hown l j b hs
            exact (List.getElem?_eq_some_iff.mp hx).1
          rw [upA_at env' as 0 env l j b ho hs hj, Nat.zero_add] at q
          cases b with
          | false =>
            have q : Sl.any = s := by injection q
            subst q
            exact trivial
          | true =>
            have hlv : l < vs.length := by rw [hlen]; exact (List.getElem?_eq_some_iff.mp hs).1
            have ev : vs[l]? = some vs[l] := List.getElem?_eq_getElem hlv
            obtain ⟨β, ib, y, hy⟩ := hpin l j vs[l] hs ev
            have es : s = .own (At.mk vs[l] y) := by
              have q : env'.getD l .any = s := by injection q
              rw [← q]; exact hy
            subst es
            have el : env'[l]? = some (.own (At.mk vs[l] y)) := by
              rw [List.getD_eq_getElem?_getD] at hy
              cases w : env'[l]? with
              | none => rw [w] at hy; cases hy
              | some t => rw [w] at hy; rw [show t = _ from hy]
            obtain ⟨v', y1, y2, y3⟩ := S'.sl l _ el
            have y2 : v' = vs[l] := y2
            subst y2
            have hσ : σ[j]? = some (some vs[l]) := by
              rcases r1.get (env := env) ev with ⟨α', i, x, q1, _⟩ | ⟨i, b', q1, _, q3⟩
              · rw [hs] at q1; cases q1
              · rw [hs] at q1
                cases q1
                exact q3
            refine ⟨vs[l], hσ, rfl, ?_⟩
            rw [f2_t j l j qp hs]
            exact Own.frame hle (fun _ _ => rfl) y3 }, hsub⟩
/-- the promise of a def that changes what it is handed: args, what holds of its slots at its end -/
abbrev PhiM (ρ : Type) := List Sl → (ρ → Env' → Prop) → Prop
def spM {ρ : Type} [Dat ρ] (K : PySem.W.Frag) (n : Nat) (Φ : PhiM ρ) : Sp := fun vs H Q _ =>
  vs.length = n ∧ ∃ O fp args R, Φ args R ∧ (∀ i a, a ∈ fp i → i < n) ∧ SOk K O fp args (vs.map some) H ∧
    (∀ r env' fp' σ' v H', R r env' → Keep fp H fp' H' → SOk K O fp' env' σ' H' → Dat.rep K (wo H' (UU O fp')) v r → Q v H')
theorem SOk.padM {K : PySem.W.Frag} {O : Addr → Prop} {fp : Nat → List Addr} {args : Env'} {vs : List V} {H : Hp} (S : SOk K O fp args (vs.map some) H) (n : Nat) : SOk K O fp (args ++ List.replicate n .any) (vs.map some ++ List.replicate n none) H where
  len := by simp [S.len] <;> simpa using S.len
  bnd := S.bnd
  fpO := S.fpO
  sep := S.sep
  dom := S.dom
  sl := fun i s q => by
    have hl : vs.length = args.length := by simpa using S.len
    by_cases h : i < args.length
    · rw [List.getElem?_append_left h] at q
      rw [List.getElem?_append_left (by simpa [hl] using h)]
      exact S.sl i s q
    · rw [List.getElem?_append_right (by omega)] at q
      have := List.mem_of_getElem? q
      rw [List.mem_replicate] at this
      rw [this.2]
      exact trivial
section
variable {P : Program} {w : World} {K : PySem.W.Frag} {mg : Str → Option Value} {base : Heap}
theorem fn_okM {ρ : Type} [Dat ρ] {x qual : Str} {st : Stmt} {f : Addr} {fd : FuncData} {N ps : List Str} {k n : Nat} {Φ : PhiM ρ} (F : Fun K x qual st f fd) (S : FnScope N ps (defScope st)) (hn : ps.length = n)
    (hb : ∀ (args : Env') (R : ρ → Env' → Prop), Φ args R → args.length = n → ∀ (cdv : Value) (A : Around) (outer : List PySem.Env) (s : Shared) (H : Hp) (E : XK) (W : WX), Room k (A.deeper (envOfC qual (defScope st) s.heap.objs.size f cdv)) → Takes (cxX P w K mg base N qual (defScope st) f cdv A outer s H E) W →
      SX (cxX P w K mg base N qual (defScope st) f cdv A outer s H E) W (defBody st) (args ++ List.replicate (N.length - n) .any) { N := fun e => ∃ r, R r e ∧ ∀ Hf, Dat.rep K Hf .non r, R := R }) :
    FnOk P w K mg base (L2.CX P w) (k + 1) f fd ps (spM K n Φ) := by
  refine F.okX S (fun vs H Q E h => h.1.trans hn.symm) fun cdv A outer s H vs Q E hr h => ?_
  obtain ⟨hl, O, fp, args, R, ph, hfp, SS, hq⟩ := h
  have hlen : args.length = n := by
    have := SS.len
    rw [List.length_map] at this
    omega
  refine ⟨tSs _ _, mSs _ _, ?_⟩
  have tk : Takes (cxOf (L2.CX P w) P w K mg base N qual (defScope st) f cdv A outer s H E) (fun cls d _ H => E cls d H) := takes_of rfl rfl rfl rfl
  refine hb args R ph hlen cdv A outer s H E (fun cls d _ H => E cls d H) hr tk O fp _ H ?_ _ ?_
  · have := SS.padM (N.length - n)
    rw [show L2.start N vs = vs.map some ++ List.replicate (N.length - n) none from by unfold L2.start; rw [hl]]
    exact this
  · exact ⟨fun e fp' σ' H' ⟨r, h1, h2⟩ kp S' => hq r e fp' σ' .non H' h1 kp S' (h2 _), fun r e fp' σ' v H' h1 kp S' rp => hq r e fp' σ' v H' h1 kp S' rp, fun x e fp' σ' cls d H' h1 kp S' xa => h1.elim, fun _ _ _ _ h => h.elim, fun _ _ _ _ h => h.elim⟩
end
def EAM (X : Cx) (es : List Expr) (env : Env') (as : List Arg) : Prop :=
  ∀ O fp σ H, SOk X.K O fp env σ H → ∀ Q : List V → Hp → Prop, (∀ vs H', Ex H H' → AM X.K (wo H' (UU O fp)) σ vs as → Q vs H') → tA X es σ H Q
section
variable {X : Cx} {W : WX} {env env' : Env'} {ρ α β γ : Type} [Res ρ] [Dat α] [Dat β] [Dat γ] {po : Po ρ} {x : α} {y : β} {z : γ} {e a b c tg : Expr} {es : List Expr} {pos p p2 : Pos} {st : Stmt} {sts rest : List Stmt}
theorem eam_nil : EAM X [] env [] := fun O fp σ H S Q q => tA_of fun pos pins s I => (pa_nil).run pos pins s σ H Q I (q [] H (Ex.refl H) trivial)
theorem eam_dat {as : List Arg} (h : EX X e env x) (hr : EAM X es env as) (hs : starEach (e :: es) X.env = (false, eval e X.env) :: starEach es X.env := by exact star_plain rfl _ _) : EAM X (e :: es) env (.dat (.dat x) :: as) := fun O fp σ H S Q q => tA_of fun pos pins s I =>
  (pa_cons (mE X e) (mA X es) hs).run pos pins s σ H Q I (h O fp σ H S _ fun v H1 e1 r1 => hr O fp σ H1 (S.ex e1) _ fun vs H2 e2 r2 => q _ H2 (e1.trans e2) ⟨Dat.mono (wo_ex e2).le r1, r2⟩)
theorem eam_slot (keep : Bool) {i : Nat} {n : Str} {as : List Arg} {β : Type} [Own β] {x : β} (h : env[i]? = some (.own x)) (hr : EAM X es env as) (hN : X.N[i]? = some n := by rfl) (hv : Vis X.env.scope n := by first | exact Or.inl rfl | exact Or.inr (Or.inl rfl) | exact Or.inr (Or.inr rfl)) (hd : (n == ("__debug__" : Str)) = false := by decide) (hc : (n == ("__classdict__" : Str)) = false := by decide)
    (hs : starEach (.Name n p :: es) X.env = (false, eval (.Name n p) X.env) :: starEach es X.env := by exact star_plain rfl _ _) : EAM X (.Name n p :: es) env (.slot i keep :: as) := fun O fp σ H S Q q => tA_of fun pos pins s I => by
  obtain ⟨v, h1, _⟩ := S.sl i _ h
  exact (pa_cons (pe_var hN hv hd hc) (mA X es) hs).run pos pins s σ H Q I ⟨v, h1, hr O fp σ H S _ fun vs H2 e2 r2 => q _ H2 e2 ⟨h1, r2⟩⟩
/-- f(..) as a statement, some of one's own handed over -/
theorem sx_callM {n : Str} {k m : Nat} {ps : List Str} {Φ : PhiM Unit} {as : List Arg} (d : DefOk X.prog X.w X.K X.mg X.base n k ps [] (spM X.K m Φ)) (hr : Room k X.A) (ha : EAM X (e :: es) env as) (ho : Once as) (hown : ∀ (l i : Nat) (b : Bool), as[l]? = some (.slot i b) → ∃ (β : Type) (_ : Own β) (x : β), env[i]? = some (.own x)) (hl : as.length = m)
    (h : ∀ vs : List V, vs.length = as.length → ∃ R, Φ (mkA env vs as) R ∧ ∀ r e', R r e' → Pins vs as e' ∧ SX X W rest (upA e' 0 as env) po)
    (hg : Gl X n := by rfl) (hdb : (n == ("__debug__" : Str)) = false := by decide) (he : starEach (e :: es) X.env = (false, eval e X.env) :: starEach es X.env := by exact star_plain rfl _ _) (hpl : (backTo pos (starEach es X.env)).any (·.1) = false := by exact star_pl rfl) (hs : swapsWith (.Call (.Name n p) (e :: es) [] pos) none p2.line X.env = pure false := by rfl) :
    SX X W (.Expr (.Call (.Name n p) (e :: es) [] pos) p2 :: rest) env po := by
  obtain ⟨f, fd, ds, F, hm, hk, hb, hv⟩ := d.ex
  refine sx_cons (fun e2 => SX X W rest e2 po) (s1_of (ps_expr (pe_call F hr hg hm hk hb hv passL (mA X _) hdb he hpl) hs) fun O fp σ H S D G => ha O fp σ H S _ fun vs H1 e1 r1 => ?_) fun _ h => h
  obtain ⟨R, hΦ, hR⟩ := h vs r1.len
  show spM X.K m Φ (vs ++ []) H1 _ _
  rw [List.append_nil]
  obtain ⟨Oc, fc, SC, hfc, hOc, fin⟩ := callM_core (S.ex e1) r1 ho hown
  refine ⟨r1.len.trans hl, Oc, fc, mkA env vs as, R, hΦ, fun i a z => by rw [← hl]; exact (hfc i a z).1, SC, fun r env' fp' σ' v H' hr' kp S' _ => ?_⟩
  obtain ⟨hpin, hrest⟩ := hR r env' hr'
  obtain ⟨f2, k2, S2, _⟩ := fin env' fp' σ' H' hpin kp S'
  exact G.nx _ f2 σ H' hrest ((Keep.ex e1).trans k2) S2
/-- t = f(..), some of one's own handed over -/
theorem sx_asgM {n : Str} {k m : Nat} {ps : List Str} {ρ' : Type} [Dat ρ'] {Φ : PhiM ρ'} {as : List Arg} (d : DefOk X.prog X.w X.K X.mg X.base n k ps [] (spM X.K m Φ)) (hr : Room k X.A) (ha : EAM X (e :: es) env as) (ho : Once as) (hown : ∀ (l i : Nat) (b : Bool), as[l]? = some (.slot i b) → ∃ (β : Type) (_ : Own β) (x : β), env[i]? = some (.own x)) (hl : as.length = m)
    (h : ∀ vs : List V, vs.length = as.length → ∃ R, Φ (mkA env vs as) R ∧ ∀ r e', R r e' → Pins vs as e' ∧ ∃ env2, GX X tg r (upA e' 0 as env) env2 ∧ SX X W rest env2 po)
    (hg : Gl X n := by rfl) (hdb : (n == ("__debug__" : Str)) = false := by decide) (he : starEach (e :: es) X.env = (false, eval e X.env) :: starEach es X.env := by exact star_plain rfl _ _) (hpl : (backTo pos (starEach es X.env)).any (·.1) = false := by exact star_pl rfl) (hs : swapsWithSole [tg] (.Call (.Name n p) (e :: es) [] pos) p2.line X.env = pure false := by rfl) (hw : swappedStores [tg] (.Call (.Name n p) (e :: es) [] pos) X.env = pure none := by rfl) (h1 : (assignEach [tg] X.env).map (·.2) = [assign tg X.env] := by rfl) :
    SX X W (.Assign [tg] (.Call (.Name n p) (e :: es) [] pos) p2 :: rest) env po := by
  obtain ⟨f, fd, ds, F, hm, hk, hb, hv⟩ := d.ex
  refine sx_cons (fun e2 => SX X W rest e2 po) (s1_of (ps_asg (pe_call F hr hg hm hk hb hv passL (mA X _) hdb he hpl) (mG X tg) hs hw h1) fun O fp σ H S D G => ha O fp σ H S _ fun vs H1 e1 r1 => ?_) fun _ h => h
  obtain ⟨R, hΦ, hR⟩ := h vs r1.len
  show spM X.K m Φ (vs ++ []) H1 _ _
  rw [List.append_nil]
  obtain ⟨Oc, fc, SC, hfc, hOc, fin⟩ := callM_core (S.ex e1) r1 ho hown
  refine ⟨r1.len.trans hl, Oc, fc, mkA env vs as, R, hΦ, fun i a z => by rw [← hl]; exact (hfc i a z).1, SC, fun r env' fp' σ' v H' hr' kp S' rv => ?_⟩
  obtain ⟨hpin, env2, hgx, hrest⟩ := hR r env' hr'
  obtain ⟨f2, k2, S2, sub⟩ := fin env' fp' σ' H' hpin kp S'
  refine hgx O f2 σ H' v S2 (Dat.mono (wo_mono sub).le rv) _ fun σ3 S3 => ?_
  exact G.nx _ f2 σ3 H' hrest ((Keep.ex e1).trans k2) S3
/-- the promise of a def that eats what it is handed and hands back what is one's own -/
def spMO {ω : Type} [Own ω] (K : PySem.W.Frag) (n : Nat) (Φ : PhiM ω) : Sp := fun vs H Q _ =>
  vs.length = n ∧ ∃ O fp args R, Φ args R ∧ (∀ i a, a ∈ fp i → i < n) ∧ SOk K O fp args (vs.map some) H ∧
    (∀ r env' fp' σ' v H' L, R r env' → Keep fp H fp' H' → SOk K O fp' env' σ' H' → (∀ a ∈ L, ∃ i, a ∈ fp' i) → Own.own K (wo H' (UU O fp')) H' v L r → Q v H')
section
variable {P : Program} {w : World} {K : PySem.W.Frag} {mg : Str → Option Value} {base : Heap}
theorem fn_okMO {ω : Type} [Own ω] {x qual : Str} {st : Stmt} {f : Addr} {fd : FuncData} {N ps : List Str} {k n : Nat} {Φ : PhiM ω} (F : Fun K x qual st f fd) (S : FnScope N ps (defScope st)) (hn : ps.length = n)
    (hb : ∀ (args : Env') (R : ω → Env' → Prop), Φ args R → args.length = n → ∀ (cdv : Value) (A : Around) (outer : List PySem.Env) (s : Shared) (H : Hp) (E : XK) (W : WX), Room k (A.deeper (envOfC qual (defScope st) s.heap.objs.size f cdv)) → Takes (cxX P w K mg base N qual (defScope st) f cdv A outer s H E) W →
      SX (cxX P w K mg base N qual (defScope st) f cdv A outer s H E) W (defBody st) (args ++ List.replicate (N.length - n) .any) { N := fun _ => False, R := R }) :
    FnOk P w K mg base (L2.CX P w) (k + 1) f fd ps (spMO K n Φ) := by
  refine F.okX S (fun vs H Q E h => h.1.trans hn.symm) fun cdv A outer s H vs Q E hr h => ?_
  obtain ⟨hl, O, fp, args, R, ph, hfp, SS, hq⟩ := h
  have hlen : args.length = n := by
    have := SS.len
    rw [List.length_map] at this
    omega
  refine ⟨tSs _ _, mSs _ _, ?_⟩
  have tk : Takes (cxOf (L2.CX P w) P w K mg base N qual (defScope st) f cdv A outer s H E) (fun cls d _ H => E cls d H) := takes_of rfl rfl rfl rfl
  refine hb args R ph hlen cdv A outer s H E (fun cls d _ H => E cls d H) hr tk O fp _ H ?_ _ ?_
  · have := SS.padM (N.length - n)
    rw [show L2.start N vs = vs.map some ++ List.replicate (N.length - n) none from by unfold L2.start; rw [hl]]
    exact this
  · exact ⟨fun e fp' σ' H' h1 kp S' => h1.elim, fun r e fp' σ' v H' h1 kp S' ⟨L, hL, ow⟩ => hq r e fp' σ' v H' L h1 kp S' hL ow, fun x e fp' σ' cls d H' h1 kp S' xa => h1.elim, fun _ _ _ _ h => h.elim, fun _ _ _ _ h => h.elim⟩
end
/-- what one owns after a call that ate some of it and handed back x -/
theorem SOk.eaten {K : PySem.W.Frag} {O Oc : Addr → Prop} {fp fc fp' : Nat → List Addr} {env env' : Env'} {σ σ' : L2.St} {H H' : Hp} {as : List Arg} {β : Type} [Own β] (S : SOk K O fp env σ H) (ho : Once as) (hne : ∀ (l i : Nat), as[l]? ≠ some (Arg.slot i true))
    (hown : ∀ (l i : Nat) (b : Bool), as[l]? = some (.slot i b) → ∃ (β : Type) (_ : Own β) (x : β), env[i]? = some (.own x))
    (hfc : ∀ i a, a ∈ fc i → i < as.length ∧ ∃ (j k : Nat) (b : Bool), as[k]? = some (Arg.slot j b) ∧ a ∈ fp j) (hOc : ∀ a, (O a ∨ ∃ j, posOf as j = none ∧ a ∈ fp j) → Oc a) (kp : Keep fc H fp' H') (S' : SOk K Oc fp' env' σ' H')
    {i : Nat} {x : β} {v : V} {L : List Addr} (hL : ∀ a ∈ L, ∃ k, a ∈ fp' k) (ow : Own.own K (wo H' (UU Oc fp')) H' v L x) :
    ∃ f2, Keep fp H f2 H' ∧ SOk K O f2 ((upA env' 0 as env).set i (.own x)) (σ.set i (some v)) H' := by
  let f2 : Nat → List Addr := fun j => if j = i then L else if posOf as j = none then fp j else []
  have f2_i : f2 i = L := by simp only [f2, if_pos]
  have f2_n : ∀ j, j ≠ i → posOf as j = none → f2 j = fp j := fun j h q => by simp only [f2, if_neg h, if_pos q]
  have f2_s : ∀ j, j ≠ i → posOf as j ≠ none → f2 j = [] := fun j h q => by simp only [f2, if_neg h, if_neg q]
  have in2 : ∀ j a, a ∈ f2 j → (j = i ∧ a ∈ L) ∨ (j ≠ i ∧ posOf as j = none ∧ a ∈ fp j) := fun j a z => by
    by_cases h : j = i
    · subst h
      rw [f2_i] at z
      exact .inl ⟨rfl, z⟩
    · by_cases q : posOf as j = none
      · rw [f2_n j h q] at z; exact .inr ⟨h, q, z⟩
      · rw [f2_s j h q] at z; cases z
  have Lout : ∀ a ∈ L, ¬ Oc a := fun a ha => by
    obtain ⟨k, hk⟩ := hL a ha
    exact S'.fpO k a hk
  have KP : Keep fp H f2 H' := ⟨fun a o n q => kp.1 a o (fun ⟨k, z⟩ => by
    obtain ⟨_, j, _, _, _, y⟩ := hfc k a z
    exact n ⟨j, y⟩) q, fun j a z => by
    rcases in2 j a z with ⟨_, y⟩ | ⟨_, _, y⟩
    · obtain ⟨k, hk⟩ := hL a y
      rcases kp.2 k a hk with ⟨l, w⟩ | w
      · obtain ⟨_, j2, _, _, _, y2⟩ := hfc l a w
        exact .inl ⟨j2, y2⟩
      · exact .inr w
    · exact .inl ⟨j, y⟩⟩
  have sub : ∀ a, UU O f2 a → UU Oc fp' a := fun a z => by
    rcases z with z | ⟨j, z⟩
    · exact .inl (hOc a (.inl z))
    · rcases in2 j a z with ⟨_, y⟩ | ⟨_, q, y⟩
      · obtain ⟨k, hk⟩ := hL a y
        exact .inr ⟨k, hk⟩
      · exact .inl (hOc a (.inr ⟨j, q, y⟩))
  refine ⟨f2, KP, {
    len := by rw [List.length_set, List.length_set, upA_len]; exact S.len
    bnd := fun a z => S'.bnd a (hOc a (.inl z))
    fpO := fun j a z y => by
      rcases in2 j a z with ⟨_, w⟩ | ⟨_, _, w⟩
      · exact Lout a w (hOc a (.inl y))
      · exact S.fpO j a w y
    sep := fun j k a z y => by
      rcases in2 j a z with ⟨e1, w⟩ | ⟨e1, q1, w⟩ <;> rcases in2 k a y with ⟨e2, w2⟩ | ⟨e2, q2, w2⟩
      · rw [e1, e2]
      · exact absurd (hOc a (.inr ⟨k, q2, w2⟩)) (Lout a w)
      · exact absurd (hOc a (.inr ⟨j, q1, w⟩)) (Lout a w2)
      · exact S.sep j k a w w2
    dom := fun j a z => by
      rcases in2 j a z with ⟨_, w⟩ | ⟨_, q, w⟩
      · obtain ⟨k, hk⟩ := hL a w
        exact S'.dom k a hk
      · exact S'.bnd a (hOc a (.inr ⟨j, q, w⟩))
    sl := fun j s q => by
      by_cases e' : i = j
      · subst e'
        have hl : i < (upA env' 0 as env).length := by
          have := (List.getElem?_eq_some_iff.mp q).1
          simpa using this
        rw [List.getElem?_set_self hl] at q
        cases q
        refine ⟨v, by rw [List.getElem?_set_self (by rw [S.len, ← upA_len env' as 0 env]; exact hl)], ?_⟩
        rw [f2_i]
        exact Own.frame (wo_mono sub).le (fun _ _ => rfl) ow
      · rw [List.getElem?_set_ne e'] at q
        rw [List.getElem?_set_ne e']
        cases qp : posOf as j with
        | some l =>
          obtain ⟨b, hs⟩ := posOf_some qp
          cases b with
          | true => exact absurd hs (hne l j)
          | false =>
            obtain ⟨β', ib, y, hy⟩ := hown l j false hs
            rw [upA_at env' as 0 env l j false ho hs (List.getElem?_eq_some_iff.mp hy).1] at q
            have q : Sl.any = s := by injection q
            subst q
            exact trivial
        | none =>
          rw [upA_get env' as 0 env j (posOf_none qp)] at q
          have r := S.sl j s q
          rw [f2_n j (fun z => e' z.symm) qp]
          cases s with
          | any => exact trivial
          | dat x =>
            obtain ⟨u, y1, y2⟩ := r
            exact ⟨u, y1, Dat.mono KP.frz.le y2⟩
          | own x =>
            obtain ⟨u, y1, y2⟩ := r
            refine ⟨u, y1, Own.frame KP.frz.le (fun a z => ?_) y2⟩
            obtain ⟨o, w⟩ := S.dom j a z
            rw [w]
            exact kp.1 a o (fun ⟨l, y⟩ => by
              obtain ⟨_, j2, k2, b, q3, y3⟩ := hfc l a y
              have := S.sep j2 j a y3 z
              subst this
              exact posOf_none qp k2 b q3) w }⟩
theorem sx_asgMO {X : Cx} {W : WX} {env : Env'} {ρ : Type} [Res ρ] {po : Po ρ} {e : Expr} {es : List Expr} {pos p p2 p3 : Pos} {rest : List Stmt} {n nm : Str} {k m i : Nat} {ps : List Str} {ω : Type} [Own ω] {Φ : PhiM ω} {as : List Arg} (hN : X.N.Nodup) (d : DefOk X.prog X.w X.K X.mg X.base n k ps [] (spMO X.K m Φ)) (hr : Room k X.A) (ha : EAM X (e :: es) env as) (ho : Once as) (hown : ∀ (l i : Nat) (b : Bool), as[l]? = some (.slot i b) → ∃ (β : Type) (_ : Own β) (x : β), env[i]? = some (.own x)) (hl : as.length = m)
    (hne : ∀ (l i : Nat), as[l]? ≠ some (.slot i true))
    (h : ∀ vs : List V, vs.length = as.length → ∃ R, Φ (mkA env vs as) R ∧ ∀ r e', R r e' → SX X W rest ((upA e' 0 as env).set i (.own r)) po)
    (hi : X.N[i]? = some nm := by rfl) (hx : Loc X.env.scope nm := by first | exact Or.inl rfl | exact Or.inr rfl) (hf : X.fn nm = true ∨ X.env.scope.names.lookup nm = some .local := by first | exact .inl rfl | exact .inr rfl | assumption)
    (hg : Gl X n := by rfl) (hdb : (n == ("__debug__" : Str)) = false := by decide) (he : starEach (e :: es) X.env = (false, eval e X.env) :: starEach es X.env := by exact star_plain rfl _ _) (hpl : (backTo pos (starEach es X.env)).any (·.1) = false := by exact star_pl rfl) (hs : swapsWith (.Call (.Name n p) (e :: es) [] pos) (some (.Name nm p3)) p2.line X.env = pure false := by rfl) :
    SX X W (.Assign [.Name nm p3] (.Call (.Name n p) (e :: es) [] pos) p2 :: rest) env po := by
  obtain ⟨f, fd, ds, F, hm, hk, hb, hv⟩ := d.ex
  refine sx_cons (fun e2 => SX X W rest e2 po) (s1_of (ps_set hN hi hx (pe_call F hr hg hm hk hb hv passL (mA X _) hdb he hpl) hs hf) fun O fp σ H S D G => ha O fp σ H S _ fun vs H1 e1 r1 => ?_) fun _ h => h
  obtain ⟨R, hΦ, hR⟩ := h vs r1.len
  show spMO X.K m Φ (vs ++ []) H1 _ _
  rw [List.append_nil]
  obtain ⟨Oc, fc, SC, hfc, hOc, fin⟩ := callM_core (S.ex e1) r1 ho hown
  refine ⟨r1.len.trans hl, Oc, fc, mkA env vs as, R, hΦ, fun i a z => by rw [← hl]; exact (hfc i a z).1, SC, fun r env' fp' σ' v H' L hr' kp S' hL ow => ?_⟩
  obtain ⟨f2, k2, S2⟩ := (S.ex e1).eaten ho hne hown hfc hOc kp S' (i := i) hL ow
  exact G.nx _ f2 (σ.set i (some v)) H' (hR r env' hr') ((Keep.ex e1).trans k2) S2
/-! what is pinned -/
theorem sx_unpin {i : Nat} {v : V} {β : Type} [Own β] {x : β} (hi : env[i]? = some (.own (At.mk v x))) (h : SX X W sts (env.set i (.own x)) po) : SX X W sts env po := fun O fp σ H S => h O fp σ H (S.unpin hi)
theorem ex_unpin {i : Nat} {v : V} {β : Type} [Own β] {x : β} (hi : env[i]? = some (.own (At.mk v x))) (h : EX X e (env.set i (.own x)) z) : EX X e env z := fun O fp σ H S => h O fp σ H (S.unpin hi)
theorem et_unpin {i : Nat} {v : V} {β : Type} [Own β] {x : β} {k : Bool} (hi : env[i]? = some (.own (At.mk v x))) (h : ET X e (env.set i (.own x)) k) : ET X e env k := fun O fp σ H S => h O fp σ H (S.unpin hi)
theorem sx_appP {i : Nat} {v : V} {xs : List α} (ps : PS X st (tDrop (tBM X.K "list" rAppend (tVar i) (tCons (tE X e) tNil)))) (hi : env[i]? = some (.own (At.mk v (OL.mk xs)))) (he : EX X e env x) (hz : xs.length < 100000) (h : SX X W rest (env.set i (.own (At.mk v (OL.mk (xs ++ [x]))))) po) : SX X W (st :: rest) env po :=
  sx_step ps (fun O fp σ H S D k => by
    obtain ⟨w, w1, w2, ad, vs, h1, h2, h3, h4⟩ := S.sl i _ hi
    subst h1
    refine ⟨.ref ad, w1, .inl ⟨rfl, vs, .inl (.inl h3)⟩, he O fp σ H S _ fun u H1 e1 r1 => ?_⟩
    have h4' := h4.mono (wo_ex e1).le
    refine ⟨ad, vs, u, rfl, rfl, e1 ad _ h3, by rw [Paired.length h4]; exact Nat.lt_of_lt_of_le hz (by decide), k fp σ _ ((Keep.ex e1).trans (Keep.mut ⟨i, by rw [h2]; exact List.mem_singleton.mpr rfl⟩)) ?_⟩
    exact (S.ex e1).mut hi h2 fun v' hv' => by
      rw [w1] at hv'
      cases hv'
      exact ⟨w2, ad, vs ++ [u], rfl, rfl, upd_same, Paired.app h4' r1⟩) h
end
end R
set_option maxHeartbeats 1000000
set_option autoImplicit false
/-! what is an int or a text; in of lists; parts of tuples; sorted dicts; joined texts -/
namespace R
open PySem PySem.Spec PyProof.Rows L2
/-! ### an int or a text -/
instance : Dat Key := ⟨fun _ _ v k => v = kV k, fun _ h => h⟩
instance : NoMut Key := ⟨fun _ _ _ _ _ _ h => h⟩
theorem kV_eq (x y : Key) : decide (kV x = kV y) = decide (x = y) := by
  by_cases h : x = y
  · subst h; simp
  · rw [decide_eq_false h, decide_eq_false]
    intro z
    cases x <;> cases y
    · injection z with z; exact h (by rw [z])
    · cases z
    · cases z
    · injection z with z; exact h (by rw [z])
instance : Flat Key := ⟨fun K Hf Hf' v w x y h1 h2 => by
  have h1 : v = kV x := h1
  have h2 : w = kV y := h2
  subst h1 h2
  refine ⟨by cases x <;> cases y <;> rfl, kV_eq x y⟩⟩
theorem kV_flat (x : Key) : flatV (kV x) = true := by cases x <;> rfl
theorem eqV_key (x y : Key) : eqV (kV x) (kV y) = decide (x = y) := by
  cases x with
  | inl i => cases y with
    | inl j =>
      show (i == j) = _
      by_cases e : i = j
      · subst e; simp
      · rw [decide_eq_false fun z => e (Sum.inl.inj z)]; exact beq_false_of_ne e
    | inr j => rfl
  | inr i => cases y with
    | inl j => rfl
    | inr j =>
      show (i == j) = _
      by_cases e : i = j
      · subst e; simp
      · rw [decide_eq_false fun z => e (Sum.inr.inj z)]; exact beq_false_of_ne e
instance : DEq Key := ⟨0, fun x y => decide (x = y), fun {X pins σ H s v x y} I h h' => by
  have h : v = kV x := h
  have h' : v = kV y := h'
  rw [h] at h'
  rw [← kV_eq]; exact decide_eq_true h', fun {X pins σ H s A v w x y} I hu h h' => by
  cases (show v = kV x from h)
  cases (show w = kV y from h')
  have q := eqS_flat (X := X) (A := A) (s := s) (v := kV x) (w := kV y) (kV_flat x) (kV_flat y)
  rw [eqV_key] at q
  exact q⟩
def keyS : Key → Str
  | .inr s => s
  | .inl _ => Str.ofString ""
section
variable {X : Cx} {W : WX} {env env' : Env'} {ρ α β γ : Type} [Res ρ] [Dat α] [Dat β] [Dat γ] {po : Po ρ} {x : α} {y : β} {z : γ} {e a b c tg iter o : Expr} {es elts : List Expr} {pos p p2 pc p3 apos cpos : Pos} {rest body : List Stmt} {xs ys : List α} {st : Stmt}
theorem ex_keyI {i : Int} (h : EX X e env i) : EX X e env (Sum.inl i : Key) := fun O fp σ H S Q q => h O fp σ H S Q fun v H' e1 r => q v H' e1 r
theorem ex_keyS {s : Str} (h : EX X e env s) : EX X e env (Sum.inr s : Key) := fun O fp σ H S Q q => h O fp σ H S Q fun v H' e1 r => q v H' e1 r
theorem ex_ofKey {k : Key} (h : EX X e env k) (g : k.isRight = true) : EX X e env (keyS k) := fun O fp σ H S Q q => h O fp σ H S Q fun v H' e1 r => q v H' e1 (by
  have r : v = kV k := r
  cases k with
  | inl i => cases g
  | inr s => exact r)
theorem repL.keys {K : PySem.W.Frag} {H : Hp} : ∀ {vs : List V} {xs : List Str}, repL K H vs xs → repL K H vs (xs.map (Sum.inr : Str → Key))
  | _, _, .nil => .nil
  | _, _, .cons h t => .cons h (repL.keys t)
theorem ex_keysL {ss : List Str} (h : EX X e env ss) : EX X e env (ss.map (Sum.inr : Str → Key)) := fun O fp σ H S Q q => h O fp σ H S Q fun v H' e1 r => q v H' e1 (by
  obtain ⟨a, vs, h1, h2, h3⟩ := r
  exact ⟨a, vs, h1, h2, h3.keys⟩)
theorem ex_isiK {k : Key} (hi : X.mg "isinstance" = none) (hT : X.mg "str" = none) (h : EX X a env k) (hk1 : kitB "int" "str" = some false) (hk2 : kitB "str" "str" = some true) (hv : bootBuiltins "str" = some (.type "str")) (hg : Gl X "isinstance" := by rfl) (hgT : Gl X "str" := by rfl)
    (he : starEach [a, .Name "str" pc] X.env = (false, eval a X.env) :: starEach [.Name "str" pc] X.env := by exact star_plain rfl _ _) (he2 : starEach [.Name "str" pc] X.env = (false, eval (.Name "str" pc) X.env) :: starEach [] X.env := by exact star_plain rfl _ _) (hpl : (backTo pos (starEach [.Name "str" pc] X.env)).any (·.1) = false := by exact star_pl rfl) : EX X (.Call (.Name "isinstance" p) [a, .Name "str" pc] [] pos) env k.isRight :=
  ex_of (pe_callB call_isi hg hi (by decide +kernel) (pa_cons (mE X a) (pa_cons (pe_bltn (v := .ty "str") hgT hT hv rfl (by decide) (by decide)) pa_nil he2) he) (by decide) (by decide) he hpl) fun O fp σ H S Q q => h O fp σ H S _ fun v H1 e1 r1 => by
    have r1 : v = kV k := r1
    subst r1
    cases k with
    | inl i => exact ⟨_, .ty "str", .type "int", .type "str", false, rfl, .ty "str", .base (.int i), kit_ty hk1, q _ H1 e1 rfl⟩
    | inr i => exact ⟨_, .ty "str", .type "str", .type "str", true, rfl, .ty "str", .base (.str i), kit_ty hk2, q _ H1 e1 rfl⟩
/-! ### in of lists -/
theorem inV_strs (x : Str) (xs : List Str) : inV (.str x) (xs.map V.str) = xs.any fun y => decide (y = x) := by
  unfold inV
  rw [List.any_map]
  congr 1
theorem ex_inS {s : Str} {ss : List Str} (h : EX X a env s) (ho : EX X o env ss) (hm : behindInMarks .In o = false := by rfl) : EX X (.Compare a [.In] [o] pos) env (ss.any fun y => decide (y = s)) :=
  ex_cmp op_in_seq h ho (fun U v1 v2 H _ r1 r2 Q q => by
    obtain ⟨ad, vs, h1, h2, h3⟩ := r2
    have := h3.strs
    subst this
    have r1 : v1 = .str s := r1
    subst r1
    refine ⟨ad, _, h1, .inl (wo_le.lst h2), rfl, ?_, q _ H (Ex.refl H) ?_⟩
    · rw [List.all_map]
      exact List.all_eq_true.mpr fun _ _ => rfl
    · show V.bl _ = V.bl _
      rw [if_neg (by decide), inV_strs]) hm
theorem ex_notinS {s : Str} {ss : List Str} (h : EX X a env s) (ho : EX X o env ss) (hm : behindInMarks .NotIn o = false := by rfl) : EX X (.Compare a [.NotIn] [o] pos) env (!(ss.any fun y => decide (y = s))) :=
  ex_cmp op_notIn_seq h ho (fun U v1 v2 H _ r1 r2 Q q => by
    obtain ⟨ad, vs, h1, h2, h3⟩ := r2
    have := h3.strs
    subst this
    have r1 : v1 = .str s := r1
    subst r1
    refine ⟨ad, _, h1, .inl (wo_le.lst h2), rfl, ?_, q _ H (Ex.refl H) ?_⟩
    · rw [List.all_map]
      exact List.all_eq_true.mpr fun _ _ => rfl
    · show V.bl _ = V.bl _
      rw [if_pos rfl, inV_strs]) hm
/-! ### texts in order -/
def ltS (x y : Str) : Bool := decide (x.cps.toList < y.cps.toList)
theorem ex_ltS {s t : Str} (ha : EX X a env s) (hb : EX X b env t) : EX X (.Compare a [.Lt] [b] pos) env (ltS s t) := ex_cmp op_lt_str ha hb (fun U v1 v2 H _ r1 r2 Q q => ⟨s, t, r1, r2, q _ H (Ex.refl H) rfl⟩) (nomark _)
theorem ex_gtS {s t : Str} (ha : EX X a env s) (hb : EX X b env t) : EX X (.Compare a [.Gt] [b] pos) env (ltS t s) := ex_cmp op_gt_str ha hb (fun U v1 v2 H _ r1 r2 Q q => ⟨s, t, r1, r2, q _ H (Ex.refl H) rfl⟩) (nomark _)
/-! ### ''.join -/
theorem ex_join {s : Str} {ss : List Str} (ho : EX X o env s) (h : EX X e env ss) (g : (ss.map (·.length)).sum + ss.length * s.length ≤ 16777216) (hs : starEach [e] X.env = [(false, eval e X.env)] := by exact star_plain rfl _ _) (hbase : attributeBase o "join" X.env (eval o X.env) = eval o X.env := by rfl) (hline : (apos.endLine == pos.line) = true := by rfl) :
    EX X (.Call (.Attribute o "join" apos) [e] [] pos) env (Txt.join s ss) := ex_of (pe_join (mE X o) (mE X e) hs hbase hline) fun O fp σ H S Q q => ho O fp σ H S _ fun v H1 e1 r1 => ⟨⟨s, r1⟩, h O fp σ H1 (S.ex e1) _ fun u H2 e2 r2 => by
  obtain ⟨ad, vs, h1, h2, h3⟩ := r2
  have := h3.strs
  subst this
  exact ⟨s, ad, ss, r1, by rw [h1], .inl (wo_le.lst h2), g, q _ H2 (e1.trans e2) rfl⟩⟩
/-! ### sorted texts -/
def leS (x y : Str) : Bool := !ltS y x
def sortS (xs : List Str) : List Str := xs.mergeSort leS
end
end R
set_option maxHeartbeats 1000000
set_option autoImplicit false
/-! one's own read where the answer holds no lists (or no dicts); comprehensions over one's own; small dicts -/
namespace R
open PySem PySem.Spec PyProof.Rows L2
/-- data that holds no list -/
class NoL (α : Type) [Dat α] : Prop where
  cut : ∀ (K : PySem.W.Frag) (Hf Hf' : Hp) (v : V) (x : α), (∀ a ob, Pl ob → (∀ xs, ob ≠ .lst xs) → Rd Hf a ob → Rd Hf' a ob) → Dat.rep K Hf v x → Dat.rep K Hf' v x
/-- data that holds no dict -/
class NoD (α : Type) [Dat α] : Prop where
  cut : ∀ (K : PySem.W.Frag) (Hf Hf' : Hp) (v : V) (x : α), (∀ a ob, Pl ob → (∀ xs, ob ≠ .dK xs) → Rd Hf a ob → Rd Hf' a ob) → Dat.rep K Hf v x → Dat.rep K Hf' v x
theorem NoMut.noL {α : Type} [Dat α] [NoMut α] : NoL α := ⟨fun K Hf Hf' v x h r => NoMut.cut K Hf Hf' v x (fun a xs t => h a _ trivial (fun _ z => by cases z) t) r⟩
theorem NoMut.noD {α : Type} [Dat α] [NoMut α] : NoD α := ⟨fun K Hf Hf' v x h r => NoMut.cut K Hf Hf' v x (fun a xs t => h a _ trivial (fun _ z => by cases z) t) r⟩
instance : NoL Int := NoMut.noL
instance : NoL Bool := NoMut.noL
instance : NoL Str := NoMut.noL
instance : NoL Unit := NoMut.noL
instance : NoL Rat := NoMut.noL
instance : NoL Key := NoMut.noL
instance : NoD Int := NoMut.noD
instance : NoD Bool := NoMut.noD
instance : NoD Str := NoMut.noD
instance : NoD Unit := NoMut.noD
instance : NoD Rat := NoMut.noD
instance : NoD Key := NoMut.noD
/-- the parts of a tuple, cut -/
inductive NoLs : List Sl → Prop
  | nil : NoLs []
  | cons {α : Type} [Dat α] [NoL α] {x : α} {r : List Sl} : NoLs r → NoLs (.dat x :: r)
inductive NoDs : List Sl → Prop
  | nil : NoDs []
  | cons {α : Type} [Dat α] [NoD α] {x : α} {r : List Sl} : NoDs r → NoDs (.dat x :: r)
theorem ARep.cutL {K : PySem.W.Frag} {Hf Hf' : Hp} (h : ∀ a ob, Pl ob → (∀ xs, ob ≠ .lst xs) → Rd Hf a ob → Rd Hf' a ob) : ∀ {vs : List V} {cs : List Sl}, NoLs cs → ARep K Hf vs cs → ARep K Hf' vs cs := fun {vs cs} n => by
  induction n generalizing vs with
  | nil => intro r; cases vs with | nil => exact trivial | cons _ _ => simp [ARep] at r
  | cons n ih =>
    intro r
    cases vs with
    | nil => simp [ARep] at r
    | cons v vs => exact ⟨NoL.cut K Hf Hf' _ _ h r.1, ih r.2⟩
theorem ARep.cutD {K : PySem.W.Frag} {Hf Hf' : Hp} (h : ∀ a ob, Pl ob → (∀ xs, ob ≠ .dK xs) → Rd Hf a ob → Rd Hf' a ob) : ∀ {vs : List V} {cs : List Sl}, NoDs cs → ARep K Hf vs cs → ARep K Hf' vs cs := fun {vs cs} n => by
  induction n generalizing vs with
  | nil => intro r; cases vs with | nil => exact trivial | cons _ _ => simp [ARep] at r
  | cons n ih =>
    intro r
    cases vs with
    | nil => simp [ARep] at r
    | cons v vs => exact ⟨NoD.cut K Hf Hf' _ _ h r.1, ih r.2⟩
theorem repT.cutL {K : PySem.W.Frag} {Hf Hf' : Hp} {v : V} {cs : List Sl} (h : ∀ a ob, Pl ob → (∀ xs, ob ≠ .lst xs) → Rd Hf a ob → Rd Hf' a ob) (n : NoLs cs) (r : repT K Hf v cs) : repT K Hf' v cs := by
  obtain ⟨a, vs, e, t, ar⟩ := r
  exact ⟨a, vs, e, cut_tup (fun a xs t => h a _ trivial (fun _ z => by cases z) t) t, ar.cutL h n⟩
theorem repT.cutD {K : PySem.W.Frag} {Hf Hf' : Hp} {v : V} {cs : List Sl} (h : ∀ a ob, Pl ob → (∀ xs, ob ≠ .dK xs) → Rd Hf a ob → Rd Hf' a ob) (n : NoDs cs) (r : repT K Hf v cs) : repT K Hf' v cs := by
  obtain ⟨a, vs, e, t, ar⟩ := r
  exact ⟨a, vs, e, cut_tup (fun a xs t => h a _ trivial (fun _ z => by cases z) t) t, ar.cutD h n⟩
section
variable {α β γ δ ε : Type} [Dat α] [Dat β] [Dat γ] [Dat δ] [Dat ε]
instance [NoL α] [NoL β] : NoL (α × β) := ⟨fun K Hf Hf' v x h r => repT.cutL h (.cons (.cons .nil)) r⟩
instance [NoL α] [NoL β] [NoL γ] : NoL (T3 α β γ) := ⟨fun K Hf Hf' v x h r => repT.cutL h (.cons (.cons (.cons .nil))) r⟩
instance [NoL α] [NoL β] [NoL γ] [NoL δ] : NoL (T4 α β γ δ) := ⟨fun K Hf Hf' v x h r => repT.cutL h (.cons (.cons (.cons (.cons .nil)))) r⟩
instance [NoL α] [NoL β] [NoL γ] [NoL δ] [NoL ε] : NoL (T5 α β γ δ ε) := ⟨fun K Hf Hf' v x h r => repT.cutL h (.cons (.cons (.cons (.cons (.cons .nil))))) r⟩
instance [NoD α] [NoD β] : NoD (α × β) := ⟨fun K Hf Hf' v x h r => repT.cutD h (.cons (.cons .nil)) r⟩
instance [NoD α] [NoD β] [NoD γ] : NoD (T3 α β γ) := ⟨fun K Hf Hf' v x h r => repT.cutD h (.cons (.cons (.cons .nil))) r⟩
instance [NoD α] [NoD β] [NoD γ] [NoD δ] : NoD (T4 α β γ δ) := ⟨fun K Hf Hf' v x h r => repT.cutD h (.cons (.cons (.cons (.cons .nil)))) r⟩
instance [NoD α] [NoD β] [NoD γ] [NoD δ] [NoD ε] : NoD (T5 α β γ δ ε) := ⟨fun K Hf Hf' v x h r => repT.cutD h (.cons (.cons (.cons (.cons (.cons .nil))))) r⟩
instance [NoL α] : NoL (Dc α) := ⟨fun K Hf Hf' v x h r => by
  obtain ⟨a, ws, e, t, ar⟩ := r
  exact ⟨a, ws, e, h a _ trivial (fun _ z => by cases z) t, Paired.imp ar fun _ _ q => ⟨q.1, NoL.cut K Hf Hf' _ _ h q.2⟩⟩⟩
theorem SqL.cutD {K : PySem.W.Frag} {Hf Hf' : Hp} {a : Addr} {vs : List V} (h : ∀ a ob, Pl ob → (∀ xs, ob ≠ .dK xs) → Rd Hf a ob → Rd Hf' a ob) (t : SqL K Hf a vs) : SqL K Hf' a vs := by
  rcases t with t | t
  · exact .inl (h a _ trivial (fun _ z => by cases z) t)
  · exact .inr t
instance [NoD α] : NoD (List α) := ⟨fun K Hf Hf' v x h r => by
  obtain ⟨a, ws, e, t, ar⟩ := r
  exact ⟨a, ws, e, SqL.cutD h t, Paired.imp ar fun _ _ q => NoD.cut K Hf Hf' _ _ h q⟩⟩
theorem opt_none {K : PySem.W.Frag} {H H' : Hp} {v : V} (h : Dat.rep K H v (none : Option α)) : Dat.rep K H' v (none : Option α) := h
instance [NoL α] : NoL (Option α) := ⟨fun K Hf Hf' v x h r => by
  cases x with
  | none => exact opt_none r
  | some y => exact NoL.cut K Hf Hf' v y h r⟩
instance [NoD α] : NoD (Option α) := ⟨fun K Hf Hf' v x h r => by
  cases x with
  | none => exact opt_none r
  | some y => exact NoD.cut K Hf Hf' v y h r⟩
end
/-- one's own whose parts are so -/
class OwnNL (β : Type) [Own β] : Prop where
  cut : ∀ (K : PySem.W.Frag) (Hf Hf' H : Hp) (v : V) (L : List Addr) (x : β), (∀ a ob, Pl ob → (∀ xs, ob ≠ .lst xs) → Rd Hf a ob → Rd Hf' a ob) → Own.own K Hf H v L x → Own.own K Hf' H v L x
class OwnND (β : Type) [Own β] : Prop where
  cut : ∀ (K : PySem.W.Frag) (Hf Hf' H : Hp) (v : V) (L : List Addr) (x : β), (∀ a ob, Pl ob → (∀ xs, ob ≠ .dK xs) → Rd Hf a ob → Rd Hf' a ob) → Own.own K Hf H v L x → Own.own K Hf' H v L x
instance {α : Type} [Dat α] [NoL α] : OwnNL (OL α) := ⟨fun K Hf Hf' H v L x h ⟨a, vs, h1, h2, h3, h4⟩ => ⟨a, vs, h1, h2, h3, Paired.imp h4 fun _ _ q => NoL.cut K Hf Hf' _ _ h q⟩⟩
instance {α : Type} [Dat α] [NoL α] : OwnNL (OD α) := ⟨fun K Hf Hf' H v L x h ⟨a, vs, h1, h2, h3, h4⟩ => ⟨a, vs, h1, h2, h3, Paired.imp h4 fun _ _ q => ⟨q.1, NoL.cut K Hf Hf' _ _ h q.2⟩⟩⟩
instance {α : Type} [Dat α] [NoD α] : OwnND (OL α) := ⟨fun K Hf Hf' H v L x h ⟨a, vs, h1, h2, h3, h4⟩ => ⟨a, vs, h1, h2, h3, Paired.imp h4 fun _ _ q => NoD.cut K Hf Hf' _ _ h q⟩⟩
instance {α : Type} [Dat α] [NoD α] : OwnND (OD α) := ⟨fun K Hf Hf' H v L x h ⟨a, vs, h1, h2, h3, h4⟩ => ⟨a, vs, h1, h2, h3, Paired.imp h4 fun _ _ q => ⟨q.1, NoD.cut K Hf Hf' _ _ h q.2⟩⟩⟩
theorem cut_at {O : Addr → Prop} {fp : Nat → List Addr} {H' Hf : Hp} {i : Nat} {ad : Addr} {ob0 : HO} {L : List Addr} (hL : fp i = [ad]) (hl : H' ad = some ob0) (le : Le (wo H' (fun a => UU O fp a ∨ a ∈ L)) Hf) (b : Addr) (ob : HO) (pl : Pl ob) (ne : ob ≠ ob0) (ne' : ∀ o, ob0 ≠ .frz o ob) (t : Rd (wo H' (fun a => UU O (setF fp i []) a ∨ a ∈ L)) b ob) : Rd Hf b ob := by
  have nb : b ≠ ad := fun z => by
    subst z
    rcases t with t | ⟨o, t⟩
    · have := (wo_some t).2; rw [hl] at this; exact ne (Option.some.inj this).symm
    · have := (wo_some t).2; rw [hl] at this; exact ne' o (Option.some.inj this)
  refine le b _ pl ?_
  have nu : ¬ (UU O (setF fp i []) b ∨ b ∈ L) := by rcases t with t | ⟨o, t⟩ <;> exact (wo_some t).1
  have nu2 : ¬ (UU O fp b ∨ b ∈ L) := fun z => by
    rcases z with (z | ⟨j, z⟩) | z
    · exact nu (.inl (.inl z))
    · by_cases ej : j = i
      · subst ej
        rw [hL] at z
        exact nb (List.mem_singleton.mp z)
      · exact nu (.inl (.inr ⟨j, by unfold setF; rw [if_neg ej]; exact z⟩))
    · exact nu (.inr z)
  rcases t with t | ⟨o, t⟩
  · exact .inl (by rw [wo_out nu2]; exact (wo_some t).2)
  · exact .inr ⟨o, by rw [wo_out nu2]; exact (wo_some t).2⟩
theorem or_nil {U : Addr → Prop} : (fun a => U a ∨ a ∈ ([] : List Addr)) = U := by
  funext a
  apply propext
  constructor
  · rintro (z | z)
    · exact z
    · cases z
  · exact .inl
/-- the greatest reading of what makes something of one's own -/
def LE {β : Type} [Own β] (X : Cx) (t : TE) (env : Env') (x : β) : Prop :=
  ∀ O fp σ H, SOk X.K O fp env σ H → ∀ Q : VK, (∀ v L H', Ex H H' → (∀ a ∈ L, H a = none) → (∀ a ∈ L, ∃ o, H' a = some o) → (∀ Hf, Le (wo H' (fun a => UU O fp a ∨ a ∈ L)) Hf → Own.own X.K Hf H' v L x) → Q v H') → t σ H Q
section
variable {X : Cx} {W : WX} {env env' env0 : Env'} {ρ α β γ : Type} [Res ρ] [Dat α] [Dat β] [Dat γ] {po : Po ρ} {x : α} {y : β} {z : γ} {e a b c tg iter o : Expr} {es elts : List Expr} {pos p p2 pc p3 apos cpos : Pos} {rest body : List Stmt} {xs ys : List α} {st : Stmt} {t : TE}
theorem le_thawL {ω : Type} [Own ω] [OwnNL ω] {r : ω} {i : Nat} (hi : env[i]? = some (.own (OL.mk xs))) (h : LE X t (env.set i (.dat xs)) r) : LE X t env r := fun O fp σ H S Q q => h O (setF fp i []) σ H (S.frz hi fun v Hf r q => own_frzL r q) Q fun v L H' e1 hL hd ow => q v L H' e1 hL hd fun Hf le => by
  obtain ⟨ad, vs, h1, h2, h3, h4⟩ := S.ol hi
  exact OwnNL.cut X.K _ _ H' v L r (fun b ob pl ne q => cut_at h2 (e1 ad _ h3) le b ob pl (ne _) (fun _ z => by cases z) q) (ow _ (Le.refl _))
theorem le_thawD {ω : Type} [Own ω] [OwnND ω] {r : ω} {i : Nat} {d : Dc α} (hi : env[i]? = some (.own (OD.mk d))) (h : LE X t (env.set i (.dat d)) r) : LE X t env r := fun O fp σ H S Q q => h O (setF fp i []) σ H (S.frz hi fun v Hf r q => own_frzD r q) Q fun v L H' e1 hL hd ow => q v L H' e1 hL hd fun Hf le => by
  obtain ⟨ad, vs, h1, h2, h3, h4⟩ := S.od hi
  exact OwnND.cut X.K _ _ H' v L r (fun b ob pl ne q => cut_at h2 (e1 ad _ h3) le b ob pl (ne _) (fun _ z => by cases z) q) (ow _ (Le.refl _))
theorem le_unpin {ω : Type} [Own ω] {r : ω} {i : Nat} {v : V} {β' : Type} [Own β'] {x : β'} (hi : env[i]? = some (.own (At.mk v x))) (h : LE X t (env.set i (.own x)) r) : LE X t env r := fun O fp σ H S => h O fp σ H (S.unpin hi)
theorem en_thawLL {ω : Type} [Own ω] [OwnNL ω] {r : ω} {i : Nat} (hi : env[i]? = some (.own (OL.mk xs))) (h : EN X e (env.set i (.dat xs)) r) : EN X e env r := le_thawL hi h
theorem en_thawDD {ω : Type} [Own ω] [OwnND ω] {r : ω} {i : Nat} {d : Dc α} (hi : env[i]? = some (.own (OD.mk d))) (h : EN X e (env.set i (.dat d)) r) : EN X e env r := le_thawD hi h
theorem en_unpin {ω : Type} [Own ω] {r : ω} {i : Nat} {v : V} {β' : Type} [Own β'] {x : β'} (hi : env[i]? = some (.own (At.mk v x))) (h : EN X e (env.set i (.own x)) r) : EN X e env r := le_unpin hi h
theorem ex_thawLL [NoL γ] {i : Nat} (hi : env[i]? = some (.own (OL.mk xs))) (h : EX X e (env.set i (.dat xs)) z) : EX X e env z := fun O fp σ H S Q q => h O (setF fp i []) σ H (S.frz hi fun v Hf r q => own_frzL r q) Q fun v H' e1 r => q v H' e1 (by
  obtain ⟨ad, vs, h1, h2, h3, h4⟩ := S.ol hi
  refine NoL.cut X.K _ _ v z (fun b ob pl ne q => cut_at (O := O) (L := []) h2 (e1 ad _ h3) ?_ b ob pl (ne _) (fun _ z => by cases z) ?_) r
  · rw [or_nil]; exact Le.refl _
  · rw [or_nil]; exact q)
theorem ex_thawDD [NoD γ] {i : Nat} {d : Dc α} (hi : env[i]? = some (.own (OD.mk d))) (h : EX X e (env.set i (.dat d)) z) : EX X e env z := fun O fp σ H S Q q => h O (setF fp i []) σ H (S.frz hi fun v Hf r q => own_frzD r q) Q fun v H' e1 r => q v H' e1 (by
  obtain ⟨ad, vs, h1, h2, h3, h4⟩ := S.od hi
  refine NoD.cut X.K _ _ v z (fun b ob pl ne q => cut_at (O := O) (L := []) h2 (e1 ad _ h3) ?_ b ob pl (ne _) (fun _ z => by cases z) ?_) r
  · rw [or_nil]; exact Le.refl _
  · rw [or_nil]; exact q)
/-- y = [..], one's own being read -/
theorem sx_newLcT {i : Nat} {y : Str} {scope : Scope} {ifs : List Expr} {own : List (Str × Nat)} {tt : TT} {g : TG} (T : ∀ (t : TE) (zs : List β), LE X t env0 (OL.mk zs) → LE X t env (OL.mk zs)) (mk : α → Env') (f : α → β) (t : α → Bool) (hc : X.calm = true) (hN : X.N.Nodup) (ok : BlkOk X.N X.env.scope scope own) (hi : IX X tg iter env0 xs) (hz : xs.length ≤ 100000) (hg : TgOk α X g (own.map (·.2)) (wipeE env0 (own.map (·.2))) mk) (hww : ∀ σ : L2.St, L2.wipe (L2.wipe σ (own.map (·.2))) (own.map (·.2)) = L2.wipe σ (own.map (·.2)))
    (pg : ∀ (s : Shared) (H : Hp) (C : Addr) (cl : List (Str × Addr)) (fp : List Addr), PG (X.blk s H scope (compEnvC scope cl C X.env) fp) tg g) (pt : ∀ (s : Shared) (H : Hp) (C : Addr) (cl : List (Str × Addr)) (fp : List Addr), PTs (X.blk s H scope (compEnvC scope cl C X.env) fp) ifs tt)
    (ht : ∀ x ∈ xs, EvT X.K tt (mk x) (t x)) (he : ∀ x ∈ xs, t x = true → Blk X scope fun Y => EX Y e (mk x) (f x)) (hr : SX X W rest (env.set i (.own (OL.mk ((xs.filter t).map f)))) po)
    (hy : X.N[i]? = some y) (hyl : X.env.scope.names.lookup y = some .local) (hsw : swapsWith (.ListComp e [⟨tg, iter, ifs, 0⟩] scope pos) (some (.Name y p2)) p3.line X.env = pure true) (hs : ∀ x, foldedSetIterable iter X.env x = pure x := by intro _; rfl) : SX X W (.Assign [.Name y p2] (.ListComp e [⟨tg, iter, ifs, 0⟩] scope pos) p3 :: rest) env po :=
  sx_step (ps_setLc hc hN hy hyl hsw (mI X tg iter) ok pg pt (fun s H C cl fp => mEb s H C cl fp) hs) (fun O fp σ H S D q => T _ _ (lc_ev mk f t hi hz hg hww ht (fun x hx h => ev_b (he x hx h))) O fp σ H S _ fun v L H1 e1 hL hd r1 => q (setF fp i L) _ H1 (Keep.new e1 hL) (S.new e1 hL hd r1)) hr
/-- {k: v} -/
theorem en_dict1 {s : Str} (hk : EX X a env s) (hv : EX X b env x) : EN X (.Dict [some a] [b] pos) env (OD.mk ⟨[(s, x)]⟩) := fun O fp σ H S Q q => tE_of fun pins s0 I => by
  refine (pe_disp (pps_cons (mE X a) (mE X b) pps_nil) rfl rfl (fun z => by cases z) (Nat.le_of_ble_eq_true rfl)).run pins s0 σ H Q I fun u hu => ?_
  have S1 := S.hide (o := .dK []) hu
  have nu : ¬ UU O fp u := S.fresh hu
  refine hk _ fp σ _ S1 _ fun v1 H1 e1 r1 => hv _ fp σ H1 (S1.ex e1) _ fun v2 H2 e2 r2 => ?_
  have r1 : v1 = .str s := r1
  subst r1
  have e12 := e1.trans e2
  have h2 : H2 u = some (.dK []) := e12 u _ upd_same
  have e3 : Ex H (upd H2 u (.dK [(.inr s, v2)])) := fun c ob hc => by
    have nc := ne_of_none hc hu
    rw [upd_ne nc]
    exact e12 c ob (by rw [upd_ne nc]; exact hc)
  refine ⟨h2, [(.inr s, v2)], rfl, by simp, ?_⟩
  show Q (.ref u) (upd H2 u (.dK [(.inr s, v2)]))
  refine q (.ref u) [u] _ e3 (fun c hc => by rw [List.mem_singleton.mp hc]; exact hu) (fun c hc => by rw [List.mem_singleton.mp hc]; exact ⟨_, upd_same⟩) fun Hf le => ⟨u, _, rfl, rfl, upd_same, .cons ⟨rfl, ?_⟩ .nil⟩
  refine Dat.mono (Le.trans (Ex.le fun c ob hc => ?_) le) r2
  obtain ⟨n, hc⟩ := wo_some hc
  have nc : c ≠ u := fun z => n (.inl (.inr z))
  have n2 : ¬ (UU O fp c ∨ c ∈ [u]) := fun z => by
    rcases z with (z | z) | z
    · exact n (.inl (.inl z))
    · exact n (.inr z)
    · exact nc (List.mem_singleton.mp z)
  rw [wo_out n2, upd_ne nc]
  exact hc
/-! what a call with one's own asks, piece by piece -/
def slotsOf : List Arg → List Nat
  | [] => []
  | .dat _ :: as => slotsOf as
  | .slot i _ :: as => i :: slotsOf as
theorem slots_mem : ∀ {as : List Arg} {k i : Nat} {b : Bool}, as[k]? = some (.slot i b) → i ∈ slotsOf as
  | .dat _ :: as, 0, i, b, h => by simp at h
  | .dat _ :: as, k + 1, i, b, h => slots_mem (as := as) (by simpa using h)
  | .slot j c :: as, 0, i, b, h => by
    have : j = i ∧ c = b := by simpa using h
    rw [this.1]
    exact List.mem_cons_self
  | .slot j c :: as, k + 1, i, b, h => List.mem_cons_of_mem _ (slots_mem (as := as) (by simpa using h))
  | [], k, i, b, h => by simp at h
theorem once_nd : ∀ {as : List Arg}, (slotsOf as).Nodup → Once as
  | [], _, k, l, i, b, c, h, _ => by simp at h
  | .dat _ :: as, n, k, l, i, b, c, h, g => by
    cases k with
    | zero => simp at h
    | succ k => cases l with
      | zero => simp at g
      | succ l => rw [once_nd (as := as) n k l i b c (by simpa using h) (by simpa using g)]
  | .slot j d :: as, n, k, l, i, b, c, h, g => by
    have n := List.nodup_cons.mp n
    cases k with
    | zero =>
      have e : j = i ∧ d = b := by simpa using h
      cases l with
      | zero => rfl
      | succ l => exact absurd (by rw [e.1]; exact slots_mem (as := as) (k := l) (b := c) (by simpa using g)) n.1
    | succ k => cases l with
      | zero =>
        have e : j = i ∧ d = c := by simpa using g
        exact absurd (by rw [e.1]; exact slots_mem (as := as) (k := k) (b := b) (by simpa using h)) n.1
      | succ l => rw [once_nd (as := as) n.2 k l i b c (by simpa using h) (by simpa using g)]
theorem once_of {as : List Arg} {ns : List Nat} (h : slotsOf as = ns) (n : ns.Nodup) : Once as := once_nd (h ▸ n)
def OwnsR (env : Env') : List Arg → Prop
  | [] => True
  | .dat _ :: as => OwnsR env as
  | .slot i _ :: as => (∃ (β : Type) (_ : Own β) (x : β), env[i]? = some (.own x)) ∧ OwnsR env as
theorem owns_of {env : Env'} : ∀ {as : List Arg}, OwnsR env as → ∀ (l i : Nat) (b : Bool), as[l]? = some (.slot i b) → ∃ (β : Type) (_ : Own β) (x : β), env[i]? = some (.own x)
  | [], _, l, i, b, h => by simp at h
  | .dat _ :: as, o, 0, i, b, h => by simp at h
  | .dat _ :: as, o, l + 1, i, b, h => owns_of (as := as) o l i b (by simpa using h)
  | .slot j c :: as, o, 0, i, b, h => by
    have e : j = i ∧ c = b := by simpa using h
    rw [← e.1]
    exact o.1
  | .slot j c :: as, o, l + 1, i, b, h => owns_of (as := as) o.2 l i b (by simpa using h)
def PinsR (e' : Env') : Nat → List V → List Arg → Prop
  | _, _, [] => True
  | _, [], _ => True
  | k, v :: vs, .slot _ true :: as => isPin v (e'.getD k .any) ∧ PinsR e' (k + 1) vs as
  | k, _ :: vs, .slot _ false :: as => PinsR e' (k + 1) vs as
  | k, _ :: vs, .dat _ :: as => PinsR e' (k + 1) vs as
theorem pinsR_get {e' : Env'} : ∀ {vs : List V} {as : List Arg} {k : Nat}, PinsR e' k vs as → ∀ (l i : Nat) (v : V), as[l]? = some (.slot i true) → vs[l]? = some v → isPin v (e'.getD (k + l) .any)
  | _, [], _, _, l, i, v, h, _ => by simp at h
  | [], _ :: _, _, _, l, i, v, _, g => by simp at g
  | w :: vs, .slot j true :: as, k, r, 0, i, v, h, g => by
    have e : w = v := by simpa using g
    rw [← e]
    exact r.1
  | w :: vs, .slot j true :: as, k, r, l + 1, i, v, h, g => by
    have := pinsR_get (as := as) r.2 l i v (by simpa using h) (by simpa using g)
    rw [show k + 1 + l = k + (l + 1) by omega] at this
    exact this
  | w :: vs, .slot j false :: as, k, r, 0, i, v, h, g => by simp at h
  | w :: vs, .slot j false :: as, k, r, l + 1, i, v, h, g => by
    have := pinsR_get (as := as) r l i v (by simpa using h) (by simpa using g)
    rw [show k + 1 + l = k + (l + 1) by omega] at this
    exact this
  | w :: vs, .dat _ :: as, k, r, 0, i, v, h, g => by simp at h
  | w :: vs, .dat _ :: as, k, r, l + 1, i, v, h, g => by
    have := pinsR_get (as := as) r l i v (by simpa using h) (by simpa using g)
    rw [show k + 1 + l = k + (l + 1) by omega] at this
    exact this
theorem pins_of {vs : List V} {as : List Arg} {e' : Env'} (h : PinsR e' 0 vs as) : Pins vs as e' := fun l i v h1 h2 => by
  have := pinsR_get h l i v h1 h2
  rw [Nat.zero_add] at this
  exact this
end
end R
set_option maxHeartbeats 1000000
set_option autoImplicit false
/-! what the text's top holds -/
namespace R
open PySem PySem.Spec PyProof.Rows L2
/-- a name of the text that holds data -/
structure GC {α : Type} [Dat α] (K : PySem.W.Frag) (mg : Str → Option Value) (n : Str) (x : α) : Prop where
  ex : ∃ v u, mg n = some u ∧ RelV v u ∧ ∀ Hf, Dat.rep K Hf v x
instance : Inhabited Key := ⟨Sum.inl 0⟩
structure TpS where
  l : List Str
structure TpI where
  l : List Int
instance : Dat TpS := ⟨fun K H v x => ∃ a vs, v = .ref a ∧ SqT K H a vs ∧ repL K H vs x.l, fun e ⟨a, vs, h, t, r⟩ => ⟨a, vs, h, e.tup t, r.mono e⟩⟩
instance : Dat TpI := ⟨fun K H v x => ∃ a vs, v = .ref a ∧ SqT K H a vs ∧ repL K H vs x.l, fun e ⟨a, vs, h, t, r⟩ => ⟨a, vs, h, e.tup t, r.mono e⟩⟩
section
variable {K : PySem.W.Frag} {mg : Str → Option Value} {n : Str}
theorem gc_int {i : Int} {t : Tok} (h : mg n = some (.int i t)) : GC K mg n i := ⟨.int i, _, h, ⟨t, rfl⟩, fun _ => rfl⟩
theorem gc_str {i : Str} {t : Tok} (h : mg n = some (.str i t)) : GC K mg n i := ⟨.str i, _, h, ⟨t, rfl⟩, fun _ => rfl⟩
theorem gc_rat {q : Rat} {a : Addr} {i j : Int} {t u : Tok} {d : Option Addr} {z : Nat} {sl : Array (Option Value)} (h : mg n = some (.ref a)) (l : K.lookup a = some ⟨.type "tuple", d, .seq #[.int i t, .int j u] z, sl⟩) (h1 : q.num = i) (h2 : (q.den : Int) = j) : GC K mg n q :=
  ⟨.ref a, _, h, rfl, fun Hf => ⟨a, [.int i, .int j], rfl, .inr ⟨_, _, _, l, rfl, rfl, (by decide : 2 ≤ sizeLine), .cons ⟨_, rfl⟩ (.cons ⟨_, rfl⟩ .nil)⟩, by rw [h1]; rfl, by rw [h2]; rfl, trivial⟩⟩
theorem strs_vals : ∀ {xs : List Str} {us : List Value}, Paired (fun x u => ∃ t, u = Value.str x t) xs us → Vals (xs.map V.str) us
  | _, _, .nil => .nil
  | _, _, .cons h t => .cons h (strs_vals t)
theorem strs_rep {Hf : Hp} : ∀ xs : List Str, repL K Hf (xs.map V.str) xs
  | [] => .nil
  | _ :: r => .cons rfl (strs_rep r)
theorem ints_vals : ∀ {xs : List Int} {us : List Value}, Paired (fun x u => ∃ t, u = Value.int x t) xs us → Vals (xs.map V.int) us
  | _, _, .nil => .nil
  | _, _, .cons h t => .cons h (ints_vals t)
theorem gc_tps {xs : List Str} {us : List Value} {a : Addr} {d : Option Addr} {z : Nat} {sl : Array (Option Value)} (h : mg n = some (.ref a)) (l : K.lookup a = some ⟨.type "tuple", d, .seq us.toArray z, sl⟩) (p : Paired (fun x u => ∃ t, u = Value.str x t) xs us) (hz : us.length ≤ 100000) : GC K mg n (TpS.mk xs) :=
  ⟨.ref a, _, h, rfl, fun Hf => ⟨a, xs.map V.str, rfl, .inr ⟨_, _, _, l, rfl, rfl, by rw [List.size_toArray]; exact sz_of hz, strs_vals p⟩, strs_rep xs⟩⟩
theorem gc_tpi {xs : List Int} {us : List Value} {a : Addr} {d : Option Addr} {z : Nat} {sl : Array (Option Value)} (h : mg n = some (.ref a)) (l : K.lookup a = some ⟨.type "tuple", d, .seq us.toArray z, sl⟩) (p : Paired (fun x u => ∃ t, u = Value.int x t) xs us) (hz : us.length ≤ 100000) : GC K mg n (TpI.mk xs) :=
  ⟨.ref a, _, h, rfl, fun Hf => ⟨a, xs.map V.int, rfl, .inr ⟨_, _, _, l, rfl, rfl, by rw [List.size_toArray]; exact sz_of hz, ints_vals p⟩, ints_rep xs⟩⟩
end
section
variable {X : Cx} {W : WX} {env env' env0 : Env'} {ρ α β γ : Type} [Res ρ] [Dat α] [Dat β] [Dat γ] {po : Po ρ} {x : α} {y : β} {z : γ} {e a b c tg iter o : Expr} {es elts : List Expr} {pos p p2 pc p3 apos cpos : Pos} {rest body : List Stmt} {xs ys : List α} {st : Stmt} {t : TE}
theorem ex_gc {n : Str} (g : GC X.K X.mg n x) (hg : Gl X n := by rfl) (hd : (n == ("__debug__" : Str)) = false := by decide) : EX X (.Name n pos) env x := by
  obtain ⟨v, u, h, r, q⟩ := g.ex
  exact ex_of (pe_glob hg h r hd) (ev_c q)
/-- isinstance of what may be None -/
theorem ex_isiO {n : String} [TyN α n] {m : Option α} {T : Str} {c : String} (hi : X.mg "isinstance" = none) (hT : X.mg T = none) (h : EX X a env m) (hk : kitB n c = some true) (hk0 : kitB "NoneType" c = some false) (hv : bootBuiltins T = some (.type c)) (hg : Gl X "isinstance" := by rfl) (hgT : Gl X T := by rfl) (hn : T ≠ "__name__" := by decide) (hd : (T == ("__debug__" : Str)) = false := by decide)
    (he : starEach [a, .Name T pc] X.env = (false, eval a X.env) :: starEach [.Name T pc] X.env := by exact star_plain rfl _ _) (he2 : starEach [.Name T pc] X.env = (false, eval (.Name T pc) X.env) :: starEach [] X.env := by exact star_plain rfl _ _) (hpl : (backTo pos (starEach [.Name T pc] X.env)).any (·.1) = false := by exact star_pl rfl) : EX X (.Call (.Name "isinstance" p) [a, .Name T pc] [] pos) env m.isSome :=
  ex_of (pe_callB call_isi hg hi (by decide +kernel) (pa_cons (mE X a) (pa_cons (pe_bltn (v := .ty c) hgT hT hv rfl hn hd) pa_nil he2) he) (by decide) (by decide) he hpl) fun O fp σ H S Q q => h O fp σ H S _ fun v H1 e1 r1 => by
    cases m with
    | none =>
      have r1 : v = .non := r1
      subst r1
      exact ⟨_, .ty c, .type "NoneType", .type c, false, rfl, .ty c, .base .non, kit_ty hk0, q _ H1 e1 rfl⟩
    | some y =>
      have r1 : Dat.rep X.K (wo H1 (UU O fp)) v y := r1
      exact ⟨v, .ty c, .type n, .type c, true, rfl, .ty c, TyX.mono (TyN.ty _ _ _ _ r1), kit_ty hk, q _ H1 e1 rfl⟩
theorem EvT.go {Q : Bool → Hp → Prop} {H : Hp} {k j : Bool} (h : Q k H) (e : j = k) : Q j H := e ▸ h
theorem et_din {d : Dc α} {k : Str} (hu : X.A.units + 1 < cLine) (hk : EX X a env k) (ho : EX X o env d) (hm : behindInMarks .In o = false := by rfl) : ET X (.Compare a [.In] [o] pos) env (d.has k) :=
  et_of (pt_cmp (pc_din hu (mE X a) (mE X o)) hm) fun O fp σ H S Q q => hk O fp σ H S _ fun v2 H1 e1 r2 => ho O fp σ H1 (S.ex e1) _ fun v1 H2 e2 r1 => by
    obtain ⟨ad, ws, h1, h2, h3⟩ := r1
    have r2 : v2 = .str k := r2
    subst h1 r2
    refine ⟨ad, valV ws (.inr k), rfl, .inl ⟨ws, .inr k, wo_le _ _ trivial h2, rfl, rfl⟩, _, rfl, ?_⟩
    refine EvT.go (q H2 (e1.trans e2)) ?_
    unfold Dc.has
    rcases h3.look k with ⟨n1, n2⟩ | ⟨v, x', hv, hx, rx⟩
    · rw [n1, n2]; rfl
    · rw [hv, hx]; rfl
theorem et_dnotin {d : Dc α} {k : Str} (hu : X.A.units + 1 < cLine) (hk : EX X a env k) (ho : EX X o env d) (hm : behindInMarks .NotIn o = false := by rfl) : ET X (.Compare a [.NotIn] [o] pos) env (!d.has k) :=
  et_of (pt_cmp (pc_dnotin hu (mE X a) (mE X o)) hm) fun O fp σ H S Q q => hk O fp σ H S _ fun v2 H1 e1 r2 => ho O fp σ H1 (S.ex e1) _ fun v1 H2 e2 r1 => by
    obtain ⟨ad, ws, h1, h2, h3⟩ := r1
    have r2 : v2 = .str k := r2
    subst h1 r2
    refine ⟨ad, valV ws (.inr k), rfl, .inl ⟨ws, .inr k, wo_le _ _ trivial h2, rfl, rfl⟩, _, rfl, ?_⟩
    refine EvT.go (q H2 (e1.trans e2)) ?_
    unfold Dc.has
    rcases h3.look k with ⟨n1, n2⟩ | ⟨v, x', hv, hx, rx⟩
    · rw [n1, n2]; rfl
    · rw [hv, hx]; rfl
theorem ex_inT {s : Str} {ss : TpS} (h : EX X a env s) (ho : EX X o env ss) (hm : behindInMarks .In o = false := by rfl) : EX X (.Compare a [.In] [o] pos) env (ss.l.any fun y => decide (y = s)) :=
  ex_cmp op_in_seq h ho (fun U v1 v2 H _ r1 r2 Q q => by
    obtain ⟨ad, vs, h1, h2, h3⟩ := r2
    have := h3.strs
    subst this
    have r1 : v1 = .str s := r1
    subst r1
    refine ⟨ad, _, h1, .inr (wo_le.tup h2), rfl, ?_, q _ H (Ex.refl H) ?_⟩
    · rw [List.all_map]
      exact List.all_eq_true.mpr fun _ _ => rfl
    · show V.bl _ = V.bl _
      rw [if_neg (by decide), inV_strs]) hm
theorem ex_notinT {s : Str} {ss : TpS} (h : EX X a env s) (ho : EX X o env ss) (hm : behindInMarks .NotIn o = false := by rfl) : EX X (.Compare a [.NotIn] [o] pos) env (!(ss.l.any fun y => decide (y = s))) :=
  ex_cmp op_notIn_seq h ho (fun U v1 v2 H _ r1 r2 Q q => by
    obtain ⟨ad, vs, h1, h2, h3⟩ := r2
    have := h3.strs
    subst this
    have r1 : v1 = .str s := r1
    subst r1
    refine ⟨ad, _, h1, .inr (wo_le.tup h2), rfl, ?_, q _ H (Ex.refl H) ?_⟩
    · rw [List.all_map]
      exact List.all_eq_true.mpr fun _ _ => rfl
    · show V.bl _ = V.bl _
      rw [if_pos rfl, inV_strs]) hm
theorem et_inS {s : Str} {ss : List Str} (h : EX X a env s) (ho : EX X o env ss) (hm : behindInMarks .In o = false := by rfl) : ET X (.Compare a [.In] [o] pos) env (ss.any fun y => decide (y = s)) :=
  et_cmp op_in_seq h ho (fun U v1 v2 H _ r1 r2 Q q => by
    obtain ⟨ad, vs, h1, h2, h3⟩ := r2
    have := h3.strs
    subst this
    have r1 : v1 = .str s := r1
    subst r1
    refine ⟨ad, _, h1, .inl (wo_le.lst h2), rfl, ?_, q _ H (Ex.refl H) ?_⟩
    · rw [List.all_map]
      exact List.all_eq_true.mpr fun _ _ => rfl
    · show V.bl _ = V.bl _
      rw [if_neg (by decide), inV_strs]) hm
theorem et_notinS {s : Str} {ss : List Str} (h : EX X a env s) (ho : EX X o env ss) (hm : behindInMarks .NotIn o = false := by rfl) : ET X (.Compare a [.NotIn] [o] pos) env (!(ss.any fun y => decide (y = s))) :=
  et_cmp op_notIn_seq h ho (fun U v1 v2 H _ r1 r2 Q q => by
    obtain ⟨ad, vs, h1, h2, h3⟩ := r2
    have := h3.strs
    subst this
    have r1 : v1 = .str s := r1
    subst r1
    refine ⟨ad, _, h1, .inl (wo_le.lst h2), rfl, ?_, q _ H (Ex.refl H) ?_⟩
    · rw [List.all_map]
      exact List.all_eq_true.mpr fun _ _ => rfl
    · show V.bl _ = V.bl _
      rw [if_pos rfl, inV_strs]) hm
theorem et_ltS {s t : Str} (ha : EX X a env s) (hb : EX X b env t) : ET X (.Compare a [.Lt] [b] pos) env (ltS s t) := et_cmp op_lt_str ha hb (fun U v1 v2 H _ r1 r2 Q q => ⟨s, t, r1, r2, q _ H (Ex.refl H) rfl⟩) (nomark _)
theorem et_gtS {s t : Str} (ha : EX X a env s) (hb : EX X b env t) : ET X (.Compare a [.Gt] [b] pos) env (ltS t s) := et_cmp op_gt_str ha hb (fun U v1 v2 H _ r1 r2 Q q => ⟨s, t, r1, r2, q _ H (Ex.refl H) rfl⟩) (nomark _)
theorem et_inT {s : Str} {ss : TpS} (h : EX X a env s) (ho : EX X o env ss) (hm : behindInMarks .In o = false := by rfl) : ET X (.Compare a [.In] [o] pos) env (ss.l.any fun y => decide (y = s)) :=
  et_cmp op_in_seq h ho (fun U v1 v2 H _ r1 r2 Q q => by
    obtain ⟨ad, vs, h1, h2, h3⟩ := r2
    have := h3.strs
    subst this
    have r1 : v1 = .str s := r1
    subst r1
    refine ⟨ad, _, h1, .inr (wo_le.tup h2), rfl, ?_, q _ H (Ex.refl H) ?_⟩
    · rw [List.all_map]
      exact List.all_eq_true.mpr fun _ _ => rfl
    · show V.bl _ = V.bl _
      rw [if_neg (by decide), inV_strs]) hm
theorem et_notinT {s : Str} {ss : TpS} (h : EX X a env s) (ho : EX X o env ss) (hm : behindInMarks .NotIn o = false := by rfl) : ET X (.Compare a [.NotIn] [o] pos) env (!(ss.l.any fun y => decide (y = s))) :=
  et_cmp op_notIn_seq h ho (fun U v1 v2 H _ r1 r2 Q q => by
    obtain ⟨ad, vs, h1, h2, h3⟩ := r2
    have := h3.strs
    subst this
    have r1 : v1 = .str s := r1
    subst r1
    refine ⟨ad, _, h1, .inr (wo_le.tup h2), rfl, ?_, q _ H (Ex.refl H) ?_⟩
    · rw [List.all_map]
      exact List.all_eq_true.mpr fun _ _ => rfl
    · show V.bl _ = V.bl _
      rw [if_pos rfl, inV_strs]) hm
end
end R
set_option maxHeartbeats 1000000
set_option autoImplicit false
/-! try with ways out; except C as e, isinstance(e, D) -/
namespace R
open PySem PySem.Spec PyProof.Rows L2
/-- the exception that a suite holds -/
structure ExV where
  a : Addr
instance : Dat ExV := ⟨fun _ _ v x => v = .ref x.a, fun _ h => h⟩
/-- isinstance(e, c) for all that may be caught -/
structure IsC (K : PySem.W.Frag) (mg : Str → Option Value) (all some' : List Str) (c : Str) : Prop where
  ex : ∃ Cv, mg c = some (.ref Cv) ∧ ∀ n ∈ all, ∃ D, mg n = some (.ref D) ∧ ExcC K D ∧ PySem.W.kitOne K (.ref D) (.ref Cv) = some (some'.contains n)
section
variable {X : Cx} {W : WX} {env env' : Env'} {ρ α β γ : Type} [Res ρ] [Dat α] [Dat β] [Dat γ] {po : Po ρ} {x : α} {y : β} {z : γ} {e a b c : Expr} {es elts : List Expr} {pos p p2 pc p3 : Pos} {rest body : List Stmt}
theorem ex_isE {i : Nat} {v c : Str} {all some' : List Str} {e : Exn} {ad : Addr} {oe : Obj} {cls : Value} {d : Option Addr} {pn : List (Addr × Obj)} {Hf : Hp} (I : IsC X.K X.mg all some' c) (hi : X.mg "isinstance" = none) (hall : exnIn all e = true) (h1 : ∃ n, e = .one n) (hz : Zc cls d oe) (hfd : ∃ vs, oe.data = .fields vs) (xa : ExAt X.mg X.K Hf e cls d) (hv : env[i]? = some (.dat (ExV.mk ad)))
    (hN : (X.suite ad ((ad, oe) :: pn)).N[i]? = some v := by rfl) (hvis : Vis (X.suite ad ((ad, oe) :: pn)).env.scope v := by first | exact Or.inl rfl | exact Or.inr (Or.inl rfl) | exact Or.inr (Or.inr rfl)) (hd : (v == ("__debug__" : Str)) = false := by decide) (hc : (v == ("__classdict__" : Str)) = false := by decide)
    (hg : Gl (X.suite ad ((ad, oe) :: pn)) "isinstance" := by rfl) (hgc : Gl (X.suite ad ((ad, oe) :: pn)) c := by rfl) (hdc : (c == ("__debug__" : Str)) = false := by decide) (he : starEach [.Name v p, .Name c pc] (X.suite ad ((ad, oe) :: pn)).env = (false, eval (.Name v p) (X.suite ad ((ad, oe) :: pn)).env) :: starEach [.Name c pc] (X.suite ad ((ad, oe) :: pn)).env := by rfl) (he2 : starEach [.Name c pc] (X.suite ad ((ad, oe) :: pn)).env = (false, eval (.Name c pc) (X.suite ad ((ad, oe) :: pn)).env) :: starEach [] (X.suite ad ((ad, oe) :: pn)).env := by rfl) (hpl : (backTo pos (starEach [.Name c pc] (X.suite ad ((ad, oe) :: pn)).env)).any (·.1) = false := by exact star_pl rfl) :
    EX (X.suite ad ((ad, oe) :: pn)) (.Call (.Name "isinstance" p2) [.Name v p, .Name c pc] [] pos) env (exnIn some' e) := by
  obtain ⟨n, rfl⟩ := h1
  obtain ⟨Cv, hm, tb⟩ := I.ex
  have hn : n ∈ all := List.contains_iff_mem.mp hall
  obtain ⟨D, q1, q2, q3⟩ := tb n hn
  obtain ⟨x1, x2⟩ := xa
  rw [q1] at x1
  cases x1
  subst x2
  exact ex_of (pe_callB (call_isE q2 hz hfd) hg hi (by decide +kernel) (pa_cons (pe_var hN hvis hd hc) (pa_cons (pe_glob (v := .ref Cv) hgc hm rfl hdc) pa_nil he2) he) (by decide) (by decide) he hpl) fun O fp σ H S Q q => by
    obtain ⟨v1, w1, w2⟩ := S.sl i _ hv
    have w2 : v1 = .ref ad := w2
    subst w2
    exact ⟨.ref ad, w1, .ref Cv, .ref Cv, some'.contains n, rfl, fun u r => r, q3, q _ H (Ex.refl H) rfl⟩
/-- try: .. except C: .., ways out let be -/
theorem sx_tryG {S T : Type} {x : Str} {np ps' : Pos} {b0 : Stmt} {suite : List Stmt} {all some' : List Str} (uu : S → Env' → Env') (m : Except Exn (Stp S T)) (h : Exn → Stp S T) (hs : X.stack = X.env :: X.outer) (hf : X.env.frame = some X.env.locals) (cc : CatC X.K X.mg all some' x) (tk : Takes X W)
    (hv : ∀ e, m = .error e → exnIn all e = true ∧ exnIn some' e = true)
    (hb : ∀ (W' : WX) (pn : List (Addr × Obj)) (xe : Value → Shared → Prop), Takes (X.tr pn xe) W' → PassesOwn (model X.prog X.w) X.A X.env xe → SX (X.tr pn xe) W' body env { po with N := fun e => ∃ s, m = .ok (.go s) ∧ Sub e (uu s env), X := fun e env' => m = .error e ∧ env' = env })
    (hsu : ∀ e, m = .error e → ∀ (ad : Addr) (oe : Obj) (cls : Value) (d : Option Addr) (pn : List (Addr × Obj)) (Hf : Hp), Zc cls d oe → (∃ vs, oe.data = .fields vs) → ExAt X.mg X.K Hf e cls d → SX (X.suite ad ((ad, oe) :: pn)) W (b0 :: suite) env { po with N := fun e' => ∃ s, tryV m h = .go s ∧ Sub e' (uu s env) })
    (hr : ∀ s, tryV m h = .go s → SX X W rest (uu s env) po) (hg : Gl X x := by rfl) (hdb : (x == ("__debug__" : Str)) = false := by decide) : SX X W (.Try body [.ExceptHandler (some (.Name x np)) none (b0 :: suite) ps'] [] [] pos :: rest) env po := by
  obtain ⟨cv, hm, hx⟩ := cc.ex
  refine sx_cons (fun e => ∃ s, tryV m h = .go s ∧ Sub e (uu s env)) (s1_of (ps_try_only (tb := fun W' D σ H => ∀ pn xe, Takes (X.tr pn xe) W' → PassesOwn (model X.prog X.w) X.A X.env xe → tSs (X.tr pn xe) body D σ H) (ts := fun ad cls d D σ H => ∀ oe pn, Zc cls d oe → (∃ vs, oe.data = .fields vs) → tSs (X.suite ad ((ad, oe) :: pn)) (b0 :: suite) D σ H) hs hf ⟨hg, hdb, .inl hm⟩ tk
    (fun W' pn xe t q => ⟨fun pins s σ H D I h => tSs_run (h pn xe t q) pins s I⟩) (fun ad oe cls d pn hz hfd => ⟨fun pins s σ H D I h => tSs_run (h oe pn hz hfd) pins s I⟩)) fun O fp σ H S' D G => fun pn xe t q => hb _ pn xe t q O fp σ H S' D ⟨fun e f s2 h1 ⟨s, g1, g2⟩ kp S2 => G.nx e f s2 h1 ⟨s, tryV_ok g1, g2⟩ kp S2, G.rt, fun e env' fp' σ' cls d H' ⟨g1, g2⟩ kp S2 xa => by
      subst g2
      refine ⟨true, by rw [hx e _ cls d (hv e g1).1 xa, (hv e g1).2], fun _ ad ha oe pn hz hfd => ?_, fun z => by cases z⟩
      exact hsu e g1 ad oe cls d pn _ hz hfd xa O fp' σ' H' S2 D (G.step kp), G.bk, G.ct⟩) fun e ⟨s, g1, g2⟩ => sx_sub g2 (hr s g1)
/-- try: .. except C as e: .. -/
theorem sx_tryA {S T : Type} {i : Nat} {x v : Str} {np ps' : Pos} {b0 : Stmt} {suite : List Stmt} {all some' : List Str} (uu : S → Env' → Env') (m : Except Exn (Stp S T)) (h : Exn → Stp S T) (hN : X.N.Nodup) (hs : X.stack = X.env :: X.outer) (hf : X.env.frame = some X.env.locals) (cc : CatC X.K X.mg all some' x) (tk : Takes X W)
    (hv : ∀ e, m = .error e → exnIn all e = true ∧ exnIn some' e = true)
    (hb : ∀ (W' : WX) (pn : List (Addr × Obj)) (xe : Value → Shared → Prop), Takes (X.tr pn xe) W' → PassesOwn (model X.prog X.w) X.A X.env xe → SX (X.tr pn xe) W' body env { po with N := fun e => ∃ s, m = .ok (.go s) ∧ Sub e (uu s env), X := fun e env' => m = .error e ∧ env' = env })
    (hsu : ∀ e, m = .error e → ∀ (ad : Addr) (oe : Obj) (cls : Value) (d : Option Addr) (pn : List (Addr × Obj)) (Hf : Hp), Zc cls d oe → (∃ vs, oe.data = .fields vs) → ExAt X.mg X.K Hf e cls d → SX (X.suite ad ((ad, oe) :: pn)) W (b0 :: suite) (env.set i (.dat (ExV.mk ad))) { po with N := fun e' => ∃ s, tryV m h = .go s ∧ Sub (e'.set i .any) (uu s env), R := fun r e' => po.R r (e'.set i .any), B := fun e' => po.B (e'.set i .any), C := fun e' => po.C (e'.set i .any), X := fun _ _ => False })
    (hR : ∀ r e e', po.R r e → po.R r e') (hr : ∀ s, tryV m h = .go s → SX X W rest (uu s env) po) (hi : X.N[i]? = some v := by rfl) (hl : X.env.kindOf v = some .local := by rfl) (hg : Gl X x := by rfl) (hdb : (x == ("__debug__" : Str)) = false := by decide) : SX X W (.Try body [.ExceptHandler (some (.Name x np)) (some v) (b0 :: suite) ps'] [] [] pos :: rest) env po := by
  obtain ⟨cv, hm, hx⟩ := cc.ex
  refine sx_cons (fun e => ∃ s, tryV m h = .go s ∧ Sub e (uu s env)) (s1_of (ps_try_as (tb := fun W' D σ H => ∀ pn xe, Takes (X.tr pn xe) W' → PassesOwn (model X.prog X.w) X.A X.env xe → tSs (X.tr pn xe) body D σ H) (ts := fun ad cls d D σ H => ∀ oe pn, Zc cls d oe → (∃ vs, oe.data = .fields vs) → tSs (X.suite ad ((ad, oe) :: pn)) (b0 :: suite) D σ H) hs hf hN hi hl ⟨hg, hdb, .inl hm⟩ tk
    (fun W' pn xe t q => ⟨fun pins s σ H D I h => tSs_run (h pn xe t q) pins s I⟩) (fun ad oe cls d pn hz hfd => ⟨fun pins s σ H D I h => tSs_run (h oe pn hz hfd) pins s I⟩)) fun O fp σ H S' D G => fun pn xe t q => hb _ pn xe t q O fp σ H S' D ⟨fun e f s2 h1 ⟨s, g1, g2⟩ kp S2 => G.nx e f s2 h1 ⟨s, tryV_ok g1, g2⟩ kp S2, G.rt, fun e env' fp' σ' cls d H' ⟨g1, g2⟩ kp S2 xa => by
      subst g2
      refine ⟨true, by rw [hx e _ cls d (hv e g1).1 xa, (hv e g1).2], fun _ ad ha oe pn hz hfd => ?_, fun z => by cases z⟩
      refine hsu e g1 ad oe cls d pn _ hz hfd xa O fp' _ H' (S2.set i rfl) _ ?_
      have G2 := G.step kp
      exact ⟨fun e2 f2 s2 h2 ⟨s, k1, k2⟩ kp2 S3 => G2.nx (e2.set i .any) f2 _ h2 ⟨s, k1, k2⟩ kp2 (S3.forget i), fun r e2 f2 s2 v2 h2 k kp2 S3 rr => G2.rt r e2 f2 s2 v2 h2 (hR r _ _ k) kp2 S3 rr, fun e2 f2 s2 c2 d2 d3 h2 k => k.elim, fun e2 f2 s2 h2 k kp2 S3 => G2.bk (e2.set i .any) f2 _ h2 k kp2 (S3.forget i), fun e2 f2 s2 h2 k kp2 S3 => G2.ct (e2.set i .any) f2 _ h2 k kp2 (S3.forget i)⟩, G.bk, G.ct⟩) fun e ⟨s, g1, g2⟩ => sx_sub g2 (hr s g1)
end
end R
set_option maxHeartbeats 1000000
set_option autoImplicit false
/-! list(reversed(xs)) -/
namespace RQ2
open PySem PySem.Spec PyProof.Rows RT
section
variable {pg : Program} {wd : World} {Z : Around} {st : Shared} {RR : Result → Shared → Prop}
/-- a fresh list takes what a reversed list gives -/
theorem takes_rev {j m S : Addr} {vs : Array Value} (noh : Z.handled = none) (ij : st.heap.IsRevIter j m ((vs.size : Int) - 1)) (im : st.heap.IsList m vs) (ne : m ≠ j) (sz : vs.size ≤ sizeLine) (c0 : Nat) (neS : S ≠ j) (neM : S ≠ m) (iS : st.heap.get? S = some { cls := .type "list", data := .seq #[] c0 })
    (fin : ∀ t acc c1, Moved [S, j] (fun a b => b = a) st t → t.heap.get? S = some { cls := .type "list", dict := none, data := .seq acc c1, slots := #[] } → ItemsOf (fun i v => vs[vs.size - 1 - i]? = some v) acc vs.size → RR (.ok (.ret .none)) t) :
    wpAny (model pg wd) Z.in1 (Builtin.List.listExtendWith (.ref S) (.ref j) .none)
      (fun f t => match f with | .done r => RR (.ok r) t | .again k => k.quiet = true ∧ codeAny (model pg wd) Z k RR t) (fun e t => RR (.error e) t) st := by
  have WW := (Walks.listRev (prog := pg) (w := wd) (A := Z.in1) noh j m ne vs).toS
  have out : S ∉ [j, m] := by simp only [List.mem_cons, List.not_mem_nil, or_false, not_or]; exact ⟨neS, neM⟩
  have ty : st.TypeIs (.ref j) "list_reverseiterator" := Heap.IsRevIter.typeIs ij
  have same : Builtin.List.listSameRef (.ref S) (.ref j) = false := by simp [Builtin.List.listSameRef, neS]
  unfold Builtin.List.listExtendWith
  refine wpAny_bind (wpAny_typeOf ty ?_)
  rw [if_neg (by rw [same]; decide)]
  refine wpAny_bind (wpAny_pyIter_revIter ij ?_)
  refine wpAny_bind (wpAny_holding ?_)
  unfold Builtin.List.listLengthHint
  refine wpAny_bind (wpAny_specialOf ty nolen_lri ?_)
  show wpAny _ Z.in1 (specialOf (Value.ref j) (Str.ofString "__length_hint__") >>= _) _ _ _
  refine wpAny_bind (wpAny_specialOf ty hint_lri ?_)
  generalize hk : ("list_reverseiterator.__length_hint__" : String) = k0
  wp_delta
  rw [show splitId k0 = some ("list_reverseiterator", "__length_hint__") from by subst hk; decide +kernel]
  subst hk
  refine wpAny_bind (wpAny_isInstance (b := true) ty (by rw [isSubtype_type]; kernel_rfl) ?_)
  refine wpAny_pure ?_
  rw [if_neg (by decide)]
  have z0 : ((vs.size : Nat) : Int) - 1 - ((0 : Nat) : Int) = (vs.size : Int) - 1 := by omega
  refine wpAny_pure ⟨plainId_quiet F.plain_extend_loop _, codeAny_extend_loopS WW sz _ out _ vs.size 0 _ _ _ rfl (Nat.zero_le _) ⟨Nat.zero_le _, by rw [z0]; exact ij, im⟩ iS (ItemsOf.nil _) fun t acc c1 mv hS hi => ?_⟩
  exact fin t acc c1 mv hS hi
/-- list(a reversed list) -/
theorem list_rev {EE : Value → Shared → Prop} {j m : Addr} {vs : Array Value} {QQ : Value → Shared → Prop} (noh : Z.handled = none) (ij : st.heap.IsRevIter j m ((vs.size : Int) - 1)) (im : st.heap.IsList m vs) (ne : m ≠ j) (sz : vs.size ≤ sizeLine)
    (fin : ∀ (hp : Heap) (tk : Nat) acc c1, (∀ b o, b ≠ j → st.heap.get? b = some o → hp.get? b = some o) → hp.get? st.heap.objs.size = some { cls := .type "list", dict := none, data := .seq acc c1, slots := #[] } → ItemsOf (fun i v => vs[vs.size - 1 - i]? = some v) acc vs.size → QQ (.ref st.heap.objs.size) { st with heap := hp, toks := tk }) :
    wpAny (model pg wd) Z (call (.type "list") [.ref j]) QQ EE st := by
  obtain ⟨oj, hj, _⟩ := id ij
  obtain ⟨om, hm, _⟩ := id im
  have neS : st.heap.objs.size ≠ j := Nat.ne_of_gt (Heap.lt_size hj)
  have neM : st.heap.objs.size ≠ m := Nat.ne_of_gt (Heap.lt_size hm)
  refine callType_codes (Q₁ := fun ob t => ob = .ref st.heap.objs.size ∧ t = { st with heap := st.heap.push { cls := .type "list", data := .seq #[] } }) F.called_list (F.typeCall_list_1 _) F.entry_list_init (code_list_new _ ⟨rfl, rfl⟩) fun ob t ht => ?_
  obtain ⟨rfl, rfl⟩ := ht
  have at0 : (st.heap.push { cls := .type "list", data := .seq #[] }).get? st.heap.objs.size = some { cls := .type "list", data := .seq #[] } := Heap.get?_push_size _ rfl
  refine ⟨⟨_, at0, rfl⟩, F.args_list_init_2 _ _, ?_⟩
  show wpAny _ Z.in1.in1 (do let was ← Builtin.List.listItems (.ref st.heap.objs.size); Builtin.List.listUpdate (.ref st.heap.objs.size) (fun _ => #[]); letGo was.toList.reverse; Builtin.List.listExtendWith (.ref st.heap.objs.size) (.ref j) .none) _ _ _
  refine wpAny_bind ?_
  unfold Builtin.List.listItems
  refine wpAny_bind (wpAny_seqItems at0 rfl (wpAny_pure ?_))
  show wpAny _ Z.in1.in1 (updateSeq st.heap.objs.size (fun _ => #[]) >>= fun _ => letGo (#[] : Array Value).toList.reverse >>= fun _ => Builtin.List.listExtendWith (.ref st.heap.objs.size) (.ref j) .none) _ _ _
  refine wpAny_bind (wpAny_updateSeq at0 rfl ?_)
  have at1 := Heap.get?_update_self (Obj.mapSeq (fun _ => (#[] : Array Value))) at0 rfl
  have keep : ∀ b o, st.heap.get? b = some o → ((st.heap.push { cls := .type "list", data := .seq #[] }).update st.heap.objs.size (Obj.mapSeq (fun _ => (#[] : Array Value)))).get? b = some o := fun b o e => by
    have hb : b ≠ st.heap.objs.size := fun z => Nat.lt_irrefl _ (z ▸ Heap.lt_size e)
    exact (Heap.get?_update_other _ _ (Ne.symm hb)).trans (Heap.get?_push_of_some _ e)
  refine wpAny_bind (wpAny_letGo ?_)
  refine takes_rev (Z := Z.in1) noh (ij.at fun o e => keep _ _ e) (im.at fun o e => keep _ _ e) ne sz _ neS neM at1 fun t acc c1 mv hS hi => ⟨rfl, ?_⟩
  have et0 := Moved.eq_with mv
  have et : t = { st with heap := t.heap, toks := t.toks } := et0
  rw [et]
  refine fin t.heap t.toks acc c1 (fun b o hb e => mv.heap b o (fun hmem => ?_) (keep b o e)) hS hi
  rcases List.mem_cons.mp hmem with z | z
  · exact Nat.lt_irrefl _ (z ▸ Heap.lt_size e)
  · exact hb (List.mem_singleton.mp z)
end
end RQ2
namespace R
open PySem PySem.Spec PyProof.Rows L2
def tLstRev (K : PySem.W.Frag) (te : TE) : TE := fun σ H Q => te σ H fun v H1 => ∃ (a : Addr) (ws : List V), v = .ref a ∧ SqL K H1 a ws ∧ ∀ q, H1 q = none → Q (.ref q) (upd H1 q (.lst ws.reverse))
theorem rev_vals {ws : List V} {us : List Value} {acc : Array Value} (r : Vals ws us) (h : ItemsOf (fun i v => us.toArray[us.toArray.size - 1 - i]? = some v) acc us.toArray.size) : Vals ws.reverse acc.toList := by
  have e0 : us.toArray.size = us.length := List.size_toArray
  have e : acc.toList = us.reverse := by
    apply List.ext_getElem?
    intro j
    by_cases hj : j < us.length
    · have hja : j < acc.toList.length := by rw [Array.length_toList, h.1, e0]; exact hj
      have q1 : acc.toList[j]? = some acc.toList[j] := List.getElem?_eq_getElem hja
      have q2 : us.toArray[us.toArray.size - 1 - j]? = some acc.toList[j] := h.2 j _ (by rw [← Array.getElem?_toList]; exact q1)
      rw [q1, List.getElem?_reverse hj, ← q2, e0]
      simp
    · rw [List.getElem?_eq_none (by rw [Array.length_toList, h.1, e0]; omega), List.getElem?_eq_none (by rw [List.length_reverse]; omega)]
  rw [e]
  exact r.reverse
theorem pe_lstRev {X : Cx} {e : Expr} {te : TE} {p p2 pos pos2 : Pos} (hc : X.calm = true) (hg : Gl X "list") (hm : X.mg "list" = none) (hg2 : Gl X "reversed") (hm2 : X.mg "reversed" = none) (he : PE X e te) (hs : starEach [e] X.env = (false, eval e X.env) :: starEach [] X.env)
    (hs2 : starEach [.Call (.Name "reversed" p2) [e] [] pos2] X.env = (false, eval (.Call (.Name "reversed" p2) [e] [] pos2) X.env) :: starEach [] X.env) :
    PE X (.Call (.Name "list" p) [.Call (.Name "reversed" p2) [e] [] pos2] [] pos) (tLstRev X.K te) := by
  refine ⟨fun pins s σ H Q I h => ?_⟩
  refine Call_ (ld_blt I hg hm (by decide +kernel : bootBuiltins "list" = some (.type "list")) (PyProof.Rows.callWith_type1 (args_cons (Call_ (ld_blt I hg2 hm2 PyProof.Rows.boot_reversed (PyProof.Rows.callWith_type1 (args_cons (thn (he.run pins s σ H _ I h) fun u s1 ⟨v, H1, I1, r1, q1⟩ => args_nil ?_) hs) hs rfl))) hs2) hs2 rfl))
  obtain ⟨a, ws, ev, hq, q⟩ := q1
  subst ev
  obtain rfl : u = Value.ref a := r1
  obtain ⟨us, rv, pl, hz⟩ := I1.list hq
  refine call_reversed_list pl.isList ?_
  have J2 : Inv X pins σ H1 { s1 with heap := s1.heap.push (revObj a ((us.toArray.size : Int) - 1)) } := I1.kept (t' := s1.toks) fun b o z => Heap.get?_push_of_some _ z
  obtain ⟨ol, hol, _⟩ := id pl.isList
  have na : a ≠ s1.heap.objs.size := Nat.ne_of_lt (Heap.lt_size hol)
  have nz : us.toArray.size ≤ sizeLine := by rw [List.size_toArray, ← rv.length]; exact hz
  have fp : FpOk X pins H1 s1.heap.objs.size := I1.fpOk (H' := H1) (Nat.le_refl _) (I1.hok.fresh (Nat.le_refl _))
  refine args_nil ?_
  refine RQ2.list_rev (Z := X.A) (st := { s1 with heap := s1.heap.push (revObj a ((us.toArray.size : Int) - 1)) }) (I1.ok.hd hc) ⟨_, Heap.get?_push_size _ rfl, rfl, rfl⟩ (pl.isList.push _) na nz fun hp tk acc c1 hk hS hi => ?_
  have hn : H1 (s1.heap.push (revObj a ((us.toArray.size : Int) - 1))).objs.size = none := J2.hok.fresh (Nat.le_refl _)
  have hr : Vals ws.reverse acc.toList := rev_vals rv hi
  have J3 : Inv X pins σ (upd H1 (s1.heap.push (revObj a ((us.toArray.size : Int) - 1))).objs.size (.lst ws.reverse)) { s1 with heap := hp, toks := tk } :=
    J2.turnedNew (t' := tk) (ch := [s1.heap.objs.size]) (T := (s1.heap.push (revObj a ((us.toArray.size : Int) - 1))).objs.size) (fun b o hb z => hk b o (by simpa using hb) z) (fun b hb => by rw [List.mem_singleton.mp hb]; exact fp) (Nat.le_refl _) ⟨by rw [List.length_reverse]; exact hz, acc.toList, c1, hr, hS⟩
  exact ⟨V.ref (s1.heap.push (revObj a ((us.toArray.size : Int) - 1))).objs.size, _, J3, rfl, q _ hn⟩
section
variable {X : Cx} {env : Env'} {α : Type} [Dat α] {a : Expr} {p p2 pos pos2 : Pos} {xs : List α}
theorem Paired.rep_rev {K : PySem.W.Frag} {H : Hp} {vs : List V} {ys : List α} (h : repL K H vs ys) : repL K H vs.reverse ys.reverse := by
  induction h with
  | nil => exact .nil
  | cons r t ih => rw [List.reverse_cons, List.reverse_cons]; exact repL.app ih (.cons r .nil)
/-- list(reversed(xs)) -/
theorem en_listRev (hc : X.calm = true) (hm : X.mg "list" = none) (hm2 : X.mg "reversed" = none) (h : EX X a env xs) (hs : starEach [a] X.env = (false, eval a X.env) :: starEach [] X.env := by exact star_plain rfl _ _)
    (hs2 : starEach [.Call (.Name "reversed" p2) [a] [] pos2] X.env = (false, eval (.Call (.Name "reversed" p2) [a] [] pos2) X.env) :: starEach [] X.env := by exact star_plain rfl _ _) (hg : Gl X "list" := by rfl) (hg2 : Gl X "reversed" := by rfl) :
    EN X (.Call (.Name "list" p) [.Call (.Name "reversed" p2) [a] [] pos2] [] pos) env (OL.mk xs.reverse) := by
  intro O fp σ H S Q q
  refine tE_of fun pins s I => ?_
  refine (pe_lstRev hc hg hm hg2 hm2 (mE X a) hs hs2).run pins s σ H Q I ?_
  refine h O fp σ H S _ fun v H1 e1 r1 => ?_
  obtain ⟨ad, vs, rfl, t1, l1⟩ := r1
  refine ⟨ad, vs, rfl, wo_le.lst t1, fun u hu => ?_⟩
  refine q (.ref u) [u] _ (e1.trans (Ex.new hu)) (fun b hb => by rw [List.mem_singleton.mp hb]; exact e1.free hu) (fun b hb => by rw [List.mem_singleton.mp hb]; exact ⟨_, upd_same⟩) fun Hf le => ⟨u, vs.reverse, rfl, rfl, upd_same, ?_⟩
  exact (Paired.rep_rev l1).mono (Le.trans (le_new hu) le)
end
end R
set_option maxHeartbeats 1000000
set_option autoImplicit false
/-! sorted(set(ns)), ns a list of ints -/
namespace RQ3
open PySem PySem.Spec PyProof.Rows L2
section
variable {pg : Program} {wd : World} {Z : Around} {st : Shared} {EE : Value → Shared → Prop}
abbrev newSet (wd : World) : Obj := { cls := .type "set", dict := none, data := .set #[] 0 (.fresh 0 0 (!wd.params.followText "set-order")) }
theorem set_ints {j : Addr} {vs : Array Value} (ns : List Int) {QQ : Value → Shared → Prop} (noh : Z.handled = none) (ij : st.heap.IsList j vs) (iv : IntsAre vs.toList ns) (room : ns.length + 1 < scanBound)
    (fin : ∀ (hp : Heap) (tk c : Nat), SetR wd hp st.heap.objs.size (fun k => decide (k ∈ ns)) c → c ≤ ns.length → (∀ b o, st.heap.get? b = some o → hp.get? b = some o) → QQ (.ref st.heap.objs.size) { st with heap := hp, toks := tk }) :
    wpAny (model pg wd) Z (call (.type "set") [.ref j]) QQ EE st := by
  have sz : vs.size = ns.length := (Array.length_toList (xs := vs)).symm.trans (IntsAre.length iv)
  obtain ⟨c0, tl, om⟩ := F.called_set.mro
  have made0 := F.called_set.made
  have sub0 := F.called_set.sub
  refine wpAny_call (codeAny_of_tree ?_)
  show wpAny _ _ (callAny (.type "set") _) _ _ _
  refine wpAny_pure ⟨Code.quiet_builtin _ (by decide +kernel), codeAny_builtin F.entry_type_call ?_⟩; rw [Around.under_plain (weight_type_call_type "set" [.ref j] []) rfl]
  have h1 := F.called_set.notType
  have h2 := F.called_set.canCreate
  have ck0 := F.typeCall_set_1 (.ref j)
  repeat (any_goals (first | assumption | wp_step))
  refine codeAny_mono (code_set_led1 (.ref j) (E := EE) (Q₁ := fun obj s₁ => obj = .ref st.heap.objs.size ∧ s₁ = { st with heap := st.heap.push { cls := .type "set", dict := none, data := .set #[] 0 (.fresh 0 0 (!wd.params.followText "set-order")) } }) ⟨rfl, rfl⟩) fun r s₁ hr => ?_
  cases r with
  | error e => exact hr
  | ok fl =>
    cases fl with
    | ret obj =>
      obtain ⟨rfl, rfl⟩ := hr
      have at0 : (st.heap.push { cls := .type "set", dict := none, data := .set #[] 0 (.fresh 0 0 (!wd.params.followText "set-order")) }).get? st.heap.objs.size = some { cls := .type "set", dict := none, data := .set #[] 0 (.fresh 0 0 (!wd.params.followText "set-order")) } := Heap.get?_push_size _ rfl
      have ty0 : Shared.TypeIs { st with heap := st.heap.push { cls := .type "set", dict := none, data := .set #[] 0 (.fresh 0 0 (!wd.params.followText "set-order")) } } (.ref st.heap.objs.size) "set" := ⟨_, at0, rfl⟩
      have lk0 := F.called_set.init.lookup
      have bd0 := F.called_set.init.bind (.ref st.heap.objs.size)
      repeat (any_goals (first | assumption | wp_step))
      refine codeAny_mono (codeAny_call_builtin (R := wants (fun r s₂ => r = .none ∧ ∃ h' tk c, s₂ = { st with heap := h', toks := tk } ∧ SetR wd h' st.heap.objs.size (fun j => decide (j ∈ ns)) c ∧ c ≤ ns.length ∧ (∀ b o, st.heap.get? b = some o → h'.get? b = some o)) EE) F.called_set.init.plain F.entry_set_init (check_set_init_1 ty0 ?_)) fun r₂ s₂ hr₂ => ?_
      · obtain ⟨ol, om1, hcl, nl, hdl⟩ := ij
        obtain ⟨ocls, odict, odata, oslots⟩ := ol
        simp only at hcl hdl
        subst hcl; subst hdl
        have ol1 : (st.heap.push { cls := .type "set", dict := none, data := .set #[] 0 (.fresh 0 0 (!wd.params.followText "set-order")) }).get? j = some { cls := .type "list", dict := odict, data := .seq vs nl, slots := oslots } := Heap.get?_push_of_some _ om1
        have ss0 := F.sub_list_set
        have sf0 := F.sub_list_frozenset
        have hne : (Value.type "list" == Value.type "dict") = false := by decide
        have ij1 : (st.heap.push { cls := .type "set", dict := none, data := .set #[] 0 (.fresh 0 0 (!wd.params.followText "set-order")) }).IsList j vs := ⟨_, ol1, rfl, nl, rfl⟩
        unfold Builtin.«set.__init__» noKeywords Builtin.Frozenset.updateFrom
        generalize hPI : pyIter = PI
        wp_walk
        subst hPI
        refine wpAny_pyIter_list ij1 ?_
        refine wpAny_bind (wpAny_runValue ?_)
        have lt0 : j < st.heap.objs.size := Heap.lt_size om1
        have noh3 : Z.in1.in1.in1.handled = none := by simp [noh]
        have szh : (st.heap.push { cls := .type "set", dict := none, data := .set #[] 0 (.fresh 0 0 (!wd.params.followText "set-order")) }).objs.size = st.heap.objs.size + 1 := Heap.size_push ..
        have neI : j ≠ (st.heap.push { cls := .type "set", dict := none, data := .set #[] 0 (.fresh 0 0 (!wd.params.followText "set-order")) }).objs.size := by
          rw [Heap.size_push]; exact Nat.ne_of_lt (Nat.lt_succ_of_lt lt0)
        have out0 : st.heap.objs.size ∉ [(st.heap.push { cls := .type "set", dict := none, data := .set #[] 0 (.fresh 0 0 (!wd.params.followText "set-order")) }).objs.size, j] := by
          rw [Heap.size_push]; simp only [List.mem_cons, List.mem_singleton, List.not_mem_nil, or_false, not_or]
          exact ⟨Nat.ne_of_lt (Nat.lt_succ_self _), Nat.ne_of_gt lt0⟩
        have val0 : ∀ (i : Nat) (v : Value), vs[i]? = some v → ∃ k t, ns[i]? = some k ∧ v = .int k t := fun i v hv => by
          have hi : i < ns.length := by rw [← sz]; exact (Array.getElem?_eq_some_iff.mp hv).1
          obtain ⟨t, e⟩ := IntsAre.int_at iv i v (by rw [Array.getElem?_toList]; exact hv)
          refine ⟨ns[i], t, List.getElem?_eq_getElem hi, ?_⟩
          rw [e, List.getD_eq_getElem?_getD, List.getElem?_eq_getElem hi] <;> rfl
        refine set_update_ints ((Walks.list noh3 _ j neI vs).toS) st.heap.objs.size
          out0 ns sz room val0 (vs.size - 0) 0 _ (by omega) (Nat.zero_le _)
          ⟨⟨_, Heap.get?_push_size _ rfl, rfl, rfl⟩, (ij1.push _)⟩ ?hS0 ?hR
        case hS0 =>
          have gt0 : ((st.heap.push { cls := .type "set", dict := none, data := .set #[] 0 (.fresh 0 0 (!wd.params.followText "set-order")) }).push { cls := .type "list_iterator", data := .fields #[.ref j, .int 0 0] }).get? st.heap.objs.size
              = some { cls := .type "set", dict := none, data := .set #[] 0 (.fresh 0 0 (!wd.params.followText "set-order")) } := Heap.get?_push_of_some _ at0
          exact ⟨0, Nat.le_refl 0, setR_new_at gt0⟩
        case hR =>
          intro s' c' mv zS0 zS
          have zc := zS0
          obtain ⟨h', g2, d', tk', os'⟩ := s'
          have eg : g2 = st.gens := mv.gens
          have ed : d' = st.drawn := mv.drawn
          have eo : os' = st.os := mv.os
          subst eg; subst ed; subst eo
          show wpAny _ _ _ _ _ _
          refine wpAny_pure ?_
          show wpAny _ _ (ret Value.none) _ _ _
          rw [sz] at zc
          refine wpAny_pure ⟨rfl, h', tk', c', rfl, zS, zc, fun b o e => ?_⟩
          have hb0 : b < st.heap.objs.size := Heap.lt_size e
          have hb1 : b ≠ st.heap.objs.size := Nat.ne_of_lt hb0
          have hb2 : b ≠ (st.heap.push { cls := .type "set", dict := none, data := .set #[] 0 (.fresh 0 0 (!wd.params.followText "set-order")) }).objs.size := by
            rw [Heap.size_push]; exact Nat.ne_of_lt (Nat.lt_succ_of_lt hb0)
          exact mv.heap b o (by simp only [List.mem_cons, List.mem_singleton, List.not_mem_nil, or_false, not_or]; exact ⟨hb1, hb2⟩) (Heap.get?_push_of_some _ (Heap.get?_push_of_some _ e))
      · cases r₂ with
        | error e => exact hr₂
        | ok fl₂ =>
          cases fl₂ with
          | ret r =>
            obtain ⟨rfl, h', tk, c', rfl, zS, zc, zk⟩ := hr₂
            repeat (any_goals (first | assumption | wp_step))
            exact fin _ _ _ zS zc zk
          | _ => exact hr₂.elim
    | _ => exact hr.elim
end
end RQ3
namespace R
open PySem PySem.Spec PyProof.Rows L2
/-- into a rising list, once -/
def insU (n : Int) : List Int → List Int
  | [] => [n]
  | m :: l => if n < m then n :: m :: l else if n = m then m :: l else m :: insU n l
/-- the numbers of a list, rising, each once -/
def sortU (xs : List Int) : List Int := xs.foldr insU []
theorem mem_insU {n k : Int} : ∀ {l : List Int}, k ∈ insU n l ↔ k = n ∨ k ∈ l
  | [] => by simp [insU]
  | m :: l => by
    unfold insU
    split
    · simp
    · split
      · rename_i h; subst h; simp
      · rw [List.mem_cons, mem_insU, List.mem_cons]
        constructor
        · rintro (h | h | h)
          · exact .inr (.inl h)
          · exact .inl h
          · exact .inr (.inr h)
        · rintro (h | h | h)
          · exact .inr (.inl h)
          · exact .inl h
          · exact .inr (.inr h)
theorem rise_insU {n : Int} : ∀ {l : List Int}, l.Pairwise (· < ·) → (insU n l).Pairwise (· < ·)
  | [], _ => by simp [insU]
  | m :: l, h => by
    have h1 := List.pairwise_cons.mp h
    unfold insU
    split
    · rename_i hn
      exact List.pairwise_cons.mpr ⟨fun a ha => by
        rcases List.mem_cons.mp ha with z | z
        · rw [z]; exact hn
        · exact Int.lt_trans hn (h1.1 a z), h⟩
    · split
      · exact h
      · exact List.pairwise_cons.mpr ⟨fun a ha => by
          rcases mem_insU.mp ha with z | z
          · rw [z]; omega
          · exact h1.1 a z, rise_insU h1.2⟩
theorem mem_sortU {k : Int} : ∀ {xs : List Int}, k ∈ sortU xs ↔ k ∈ xs
  | [] => by simp [sortU]
  | x :: xs => by
    show k ∈ insU x (sortU xs) ↔ _
    rw [mem_insU, mem_sortU, List.mem_cons]
theorem rise_sortU : ∀ {xs : List Int}, (sortU xs).Pairwise (· < ·)
  | [] => by simp [sortU]
  | x :: xs => rise_insU rise_sortU
/-- a rising list is told by its members -/
theorem rise_eq : ∀ {xs ys : List Int}, xs.Pairwise (· < ·) → ys.Pairwise (· < ·) → (∀ k, k ∈ xs ↔ k ∈ ys) → xs = ys
  | [], [], _, _, _ => rfl
  | [], y :: ys, _, _, h => absurd ((h y).mpr (by simp)) (by simp)
  | x :: xs, [], _, _, h => absurd ((h x).mp (by simp)) (by simp)
  | x :: xs, y :: ys, h1, h2, h => by
    have a1 := List.pairwise_cons.mp h1
    have a2 := List.pairwise_cons.mp h2
    have e : x = y := by
      rcases List.mem_cons.mp ((h x).mp (by simp)) with z | z
      · exact z
      · rcases List.mem_cons.mp ((h y).mpr (by simp)) with w | w
        · exact w.symm
        · have := a2.1 x z
          have := a1.1 y w
          omega
    subst e
    rw [rise_eq a1.2 a2.2 fun k => ⟨fun hk => by
      rcases List.mem_cons.mp ((h k).mp (by simp [hk])) with z | z
      · have := a1.1 k hk
        omega
      · exact z, fun hk => by
      rcases List.mem_cons.mp ((h k).mpr (by simp [hk])) with z | z
      · have := a2.1 k hk
        omega
      · exact z⟩]
theorem sortU_self {xs : List Int} (h : xs.Pairwise (· < ·)) : sortU xs = xs := rise_eq rise_sortU h fun k => mem_sortU
theorem sortU_eq_iff {xs : List Int} : xs = sortU xs ↔ xs.Pairwise (· < ·) := ⟨fun h => by rw [h]; exact rise_sortU, fun h => (sortU_self h).symm⟩
theorem sortU_len : ∀ {xs : List Int}, (sortU xs).length ≤ xs.length
  | [] => Nat.le_refl _
  | x :: xs => by
    have h : ∀ (l : List Int), (insU x l).length ≤ l.length + 1 := fun l => by
      induction l with
      | nil => exact Nat.le_refl _
      | cons m l ih =>
        unfold insU
        split
        · exact Nat.le_refl _
        · split
          · exact Nat.le_succ _
          · exact Nat.succ_le_succ ih
    exact Nat.le_trans (h _) (Nat.succ_le_succ sortU_len)
def tSortU (K : PySem.W.Frag) (te : TE) : TE := fun σ H Q => te σ H fun v H1 => ∃ (a : Addr) (ns : List Int), v = .ref a ∧ SqL K H1 a (ns.map V.int) ∧ ns.length < 64 ∧ ∀ q, H1 q = none → Q (.ref q) (upd H1 q (.lst ((sortU ns).map V.int)))
theorem pe_sortU {X : Cx} {e : Expr} {te : TE} {p p2 pos pos2 : Pos} (hc : X.calm = true) (hg : Gl X "sorted") (hm : X.mg "sorted" = none) (hg2 : Gl X "set") (hm2 : X.mg "set" = none) (he : PE X e te) (hs : starEach [e] X.env = (false, eval e X.env) :: starEach [] X.env)
    (hs2 : starEach [.Call (.Name "set" p2) [e] [] pos2] X.env = (false, eval (.Call (.Name "set" p2) [e] [] pos2) X.env) :: starEach [] X.env) :
    PE X (.Call (.Name "sorted" p) [.Call (.Name "set" p2) [e] [] pos2] [] pos) (tSortU X.K te) := by
  refine ⟨fun pins s0 σ H Q I h => ?_⟩
  refine Call_ (ld_blt I hg hm PyProof.Rows.boot_sorted (PyProof.Rows.callWith_builtin1 (args_cons (Call_ (ld_blt I hg2 hm2 PyProof.Rows.boot_set (PyProof.Rows.callWith_type1 (args_cons (thn (he.run pins s0 σ H _ I h) fun u s1 ⟨v, H1, I1, r1, q1⟩ => args_nil ?_) hs) hs rfl))) hs2) hs2 rfl))
  obtain ⟨a, ns, ev, hq, hl, q⟩ := q1
  subst ev
  obtain rfl : u = Value.ref a := r1
  obtain ⟨us, rv, pl, hz⟩ := I1.list hq
  have iv : IntsAre us.toArray.toList ns := by simpa using RZ.intsAre_vals rv
  refine RQ3.set_ints ns (I1.ok.hd hc) pl.isList iv (by unfold scanBound; omega) fun hp tk c hS hcl hk => ?_
  have hn1 : H1 s1.heap.objs.size = none := I1.hok.fresh (Nat.le_refl _)
  have J : Inv X pins σ H1 { s1 with heap := hp, toks := tk } := I1.kept (t' := tk) fun b o z => hk b o z
  refine args_nil ?_
  refine sorted_set (s := { s1 with heap := hp, toks := tk }) hS (I1.ok.hd hc) (by omega) fun s' p0 out c2 ms k g o hp0 hp1 hi hs0 hm0 hl0 => ?_
  have em : ms = sortU ns := rise_eq hs0 rise_sortU fun k => by rw [hm0, mem_sortU]; exact decide_eq_true_iff
  subst em
  have hlen : ((sortU ns).map V.int).length ≤ sizeLine := by rw [List.length_map, hl0, sizeLine_eq]; omega
  have hn : H1 p0 = none := J.hok.fresh hp0
  have J2 : Inv X pins σ (upd H1 p0 (.lst ((sortU ns).map V.int))) { ({ s1 with heap := hp, toks := tk } : Shared) with heap := s'.heap, gens := s'.gens, drawn := s'.drawn, toks := s'.toks } :=
    Inv.call (s := ({ s1 with heap := hp, toks := tk } : Shared)) J (ch := []) (Un.laid k hp0 hn) (J.hok.laid k hp0 ⟨hlen, out.toList, c2, vals_of_ints hi, hp1⟩) (by rw [g]; exact J.bare) (fun _ z => nomatch z)
  have e : s' = { s1 with heap := s'.heap, gens := s'.gens, drawn := s'.drawn, toks := s'.toks } := by
    cases s'; cases s1; cases o; rfl
  rw [e]
  exact ⟨.ref p0, _, J2, rfl, q p0 hn⟩
section
variable {X : Cx} {env : Env'} {a : Expr} {p p2 pos pos2 : Pos} {xs : List Int}
/-- sorted(set(xs)), xs a list of ints -/
theorem en_sortU (hc : X.calm = true) (hm : X.mg "sorted" = none) (hm2 : X.mg "set" = none) (h : EX X a env xs) (hl : xs.length < 64) (hs : starEach [a] X.env = (false, eval a X.env) :: starEach [] X.env := by exact star_plain rfl _ _)
    (hs2 : starEach [.Call (.Name "set" p2) [a] [] pos2] X.env = (false, eval (.Call (.Name "set" p2) [a] [] pos2) X.env) :: starEach [] X.env := by exact star_plain rfl _ _) (hg : Gl X "sorted" := by rfl) (hg2 : Gl X "set" := by rfl) :
    EN X (.Call (.Name "sorted" p) [.Call (.Name "set" p2) [a] [] pos2] [] pos) env (OL.mk (sortU xs)) := by
  intro O fp σ H S Q q
  refine tE_of fun pins s I => ?_
  refine (pe_sortU hc hg hm hg2 hm2 (mE X a) hs hs2).run pins s σ H Q I ?_
  refine h O fp σ H S _ fun v H1 e1 r1 => ?_
  obtain ⟨ad, vs, rfl, t1, l1⟩ := r1
  obtain rfl := repL.ints l1
  refine ⟨ad, xs, rfl, wo_le.lst t1, hl, fun u hu => ?_⟩
  refine q (.ref u) [u] _ (e1.trans (Ex.new hu)) (fun b hb => by rw [List.mem_singleton.mp hb]; exact e1.free hu) (fun b hb => by rw [List.mem_singleton.mp hb]; exact ⟨_, upd_same⟩) fun Hf le => ⟨u, (sortU xs).map V.int, rfl, rfl, upd_same, ?_⟩
  exact ints_rep _
end
end R
set_option maxHeartbeats 400000
set_option autoImplicit false
namespace R
open PySem PySem.Spec PyProof.Rows L2
/-- nothing handed over is pinned -/
def noPinB : List Arg → Bool
  | [] => true
  | .dat _ :: r => noPinB r
  | .slot _ b :: r => !b && noPinB r
theorem no_pin : ∀ {as : List Arg}, noPinB as = true → ∀ (l i : Nat), as[l]? ≠ some (Arg.slot i true)
  | [], _, _, _, e => by simp at e
  | .dat _ :: r, h, 0, _, e => by simp at e
  | .dat _ :: r, h, l + 1, i, e => no_pin (as := r) h l i (by simpa using e)
  | .slot j b :: r, h, 0, i, e => by
    have e2 : j = i ∧ b = true := by simpa using e
    rw [e2.2] at h
    simp [noPinB] at h
  | .slot j b :: r, h, l + 1, i, e => no_pin (as := r) (by simp [noPinB] at h; exact h.2) l i (by simpa using e)
theorem repL.put {α : Type} [Dat α] {K : PySem.W.Frag} {H : Hp} {v : V} {x : α} (r : Dat.rep K H v x) : ∀ {vs : List V} {xs : List α} (n : Nat), repL K H vs xs → repL K H (vs.set n v) (xs.set n x)
  | _, _, _, .nil => .nil
  | _, _, 0, .cons _ t => .cons r t
  | _, _, n + 1, .cons h t => .cons h (repL.put r n t)
section
variable {X : Cx} {env : Env'} {a b : Expr} {pos : Pos} {x y : Bool}
/-- is, is not of bools -/
theorem ex_isB (ha : EX X a env x) (hb : EX X b env y) (hm : behindInMarks .Is b = false := by rfl) : EX X (.Compare a [.Is] [b] pos) env (decide (x = y)) := ex_cmp op_isBl ha hb (fun U v1 v2 H _ r1 r2 Q q => ⟨x, y, r1, r2, q _ H (Ex.refl H) rfl⟩) hm
theorem et_isB (ha : EX X a env x) (hb : EX X b env y) (hm : behindInMarks .Is b = false := by rfl) : ET X (.Compare a [.Is] [b] pos) env (decide (x = y)) := et_cmp op_isBl ha hb (fun U v1 v2 H _ r1 r2 Q q => ⟨x, y, r1, r2, q _ H (Ex.refl H) rfl⟩) hm
theorem ex_isNotB (ha : EX X a env x) (hb : EX X b env y) (hm : behindInMarks .IsNot b = false := by rfl) : EX X (.Compare a [.IsNot] [b] pos) env (!decide (x = y)) := ex_cmp op_notBl ha hb (fun U v1 v2 H _ r1 r2 Q q => ⟨x, y, r1, r2, q _ H (Ex.refl H) rfl⟩) hm
theorem et_isNotB (ha : EX X a env x) (hb : EX X b env y) (hm : behindInMarks .IsNot b = false := by rfl) : ET X (.Compare a [.IsNot] [b] pos) env (!decide (x = y)) := et_cmp op_notBl ha hb (fun U v1 v2 H _ r1 r2 Q q => ⟨x, y, r1, r2, q _ H (Ex.refl H) rfl⟩) hm
end
/-- xs[i] = e, xs one's own -/
theorem sx_lput {X : Cx} {W : WX} {env : Env'} {ρ α : Type} [Res ρ] [Dat α] {po : Po ρ} {x : α} {e b : Expr} {rest : List Stmt} {xs : List α} {k : Int} {i : Nat} {st : Stmt} (ps : PS X st (tAsg (tE X e) (gSub (tVar i) (tE X b) rSetL))) (hi : env[i]? = some (.own (OL.mk xs))) (he : EX X e env x) (hk : EX X b env k) (g : 0 ≤ k ∧ k < (xs.length : Int)) (h : SX X W rest (env.set i (.own (OL.mk (List.set xs (Int.toNat k) x)))) po) : SX X W (st :: rest) env po :=
  sx_step ps (fun O fp σ H S D q => he O fp σ H S _ fun v H1 e1 r1 => by
    have S1 := S.ex e1
    obtain ⟨ad, ws, h1, h2, h3, h4⟩ := S1.ol hi
    refine ⟨.ref ad, h1, hk O fp σ H1 S1 _ fun u H2 e2 r2 => ?_⟩
    have S2 := S1.ex e2
    have r2 : u = .int k := r2
    subst r2
    have hl := Paired.length h4
    refine ⟨ad, ws, k, k.toNat, rfl, rfl, e2 ad _ h3, ?_, ?_⟩
    · unfold ixN
      rw [if_pos g.1, if_pos (by omega)]
    · refine q fp σ _ ((Keep.ex (e1.trans e2)).trans (Keep.mut ⟨i, by rw [h2]; exact List.mem_singleton.mpr rfl⟩)) (S2.mut hi h2 fun v' hv' => ?_)
      rw [h1] at hv'
      cases hv'
      exact ⟨ad, _, rfl, rfl, upd_same, repL.put (Dat.mono (wo_ex e2).le r1) _ (h4.mono (wo_ex e2).le)⟩) h
end R
set_option maxHeartbeats 2000000
set_option autoImplicit false
/-! a loop over a list of one's own, which stays one's own -/
namespace R
open PySem PySem.Spec PyProof.Rows L2
/-- at turn i the item xs[i], as long as the list at v tells ys -/
def YieldsO {α γ : Type} [Dat α] [Dat γ] (K : PySem.W.Frag) (J : It) (v : V) (ys : List α) (xs : List γ) : Prop :=
  ∀ (H' : Hp) (U' : Addr → Prop) (L : List Addr), (∀ a, U' a → ∃ o, H' a = some o) → Own.own K (wo H' U') H' v L (OL.mk ys) → ∀ i, (∀ x, xs[i]? = some x → J.go i H' ∧ ∀ w H'', J.yld i H' w H'' → Ex H' H'' ∧ Dat.rep K (wo H'' U') w x) ∧ (xs.length ≤ i → J.stop i H')
def IXP {α γ : Type} [Dat α] [Dat γ] (X : Cx) (tg iter : Expr) (env : Env') (k : Nat) (v : V) (ys : List α) (xs : List γ) : Prop :=
  ∀ O fp σ H, SOk X.K O fp env σ H → ∀ R : It → Hp → Prop, (∀ J H1, Ex H H1 → YieldsO X.K J v ys xs → R J H1) → tI X tg iter σ H R
section
variable {X : Cx} {W : WX} {env env' : Env'} {ρ α β γ : Type} [Res ρ] [Dat α] [Dat β] [Dat γ] {po : Po ρ} {x : α} {y : β} {z : γ} {e a b c tg iter : Expr} {es elts : List Expr} {pos p p2 tpos : Pos} {rest body sts : List Stmt} {ys : List α} {xs : List γ} {k kk : Nat} {v : V} {n : Str}
/-- from here on it is told where it lies -/
theorem sx_pin {β' : Type} [Own β'] {x : β'} {i : Nat} (hi : env[i]? = some (.own x)) (h : ∀ v, SX X W sts (env.set i (.own (At.mk v x))) po) : SX X W sts env po := fun O fp σ H S => by
  obtain ⟨v, _, S'⟩ := S.pin hi
  exact h v O fp σ H S'
theorem ixp_list {ys : List α} (hk : env[k]? = some (.own (At.mk v (OL.mk ys)))) (hN : X.N[k]? = some n := by rfl) (hv : Vis X.env.scope n := by first | exact Or.inl rfl | exact Or.inr (Or.inl rfl) | exact Or.inr (Or.inr rfl)) (hd : (n == ("__debug__" : Str)) = false := by decide) (hc : (n == ("__classdict__" : Str)) = false := by decide) : IXP X tg (.Name n p) env k v ys ys := fun O fp σ H S R r => tI_of fun pins s I => by
  obtain ⟨u, h1, h2, ad, vs, h3, h4, h5, h6⟩ := S.sl k _ hk
  have h2 : u = v := h2
  subst h2
  refine (pi_list (pe_var hN hv hd hc)).run pins s σ H R I ⟨u, h1, ad, h3, ⟨vs, .inl (.inl h5)⟩, r _ H (Ex.refl H) fun H' U' L bn ow i => ?_⟩
  obtain ⟨ad', ws, e1, e2, e3, rl⟩ := ow
  rw [h3] at e1
  injection e1 with e1
  subst e1
  have l' : SqL X.K H' ad ws := .inl (.inl e3)
  refine ⟨fun x hx => ?_, fun hi => ⟨ws, l', by rw [Paired.length rl]; exact hi⟩⟩
  obtain ⟨w, hw, rw'⟩ := rl.get hx
  refine ⟨⟨ws, w, l', hw⟩, fun u2 H'' ⟨q1, q2⟩ => ?_⟩
  subst q1
  have := q2 ws l'
  rw [hw] at this
  cases this
  exact ⟨Ex.refl _, rw'⟩
theorem ixp_enum {ys : List α} (hk : env[k]? = some (.own (At.mk v (OL.mk ys)))) (hm : X.mg "enumerate" = none) (hg : Gl X "enumerate" := by rfl) (hs : starEach [.Name n p2] X.env = [(false, eval (.Name n p2) X.env)] := by rfl) (hN : X.N[k]? = some n := by rfl) (hv : Vis X.env.scope n := by first | exact Or.inl rfl | exact Or.inr (Or.inl rfl) | exact Or.inr (Or.inr rfl)) (hd : (n == ("__debug__" : Str)) = false := by decide) (hc : (n == ("__classdict__" : Str)) = false := by decide) :
    IXP X (.Tuple elts kk tpos) (.Call (.Name "enumerate" p) [.Name n p2] [] pos) env k v ys (enumI ys) := fun O fp σ H S R r => tI_of fun pins s I => by
  obtain ⟨u, h1, h2, ad, vs, h3, h4, h5, h6⟩ := S.sl k _ hk
  have h2 : u = v := h2
  subst h2
  refine (pi_enum hg hm (pa_cons (pe_var hN hv hd hc) pa_nil hs) hs).run pins s σ H R I ⟨u, h1, ad, vs, by rw [h3], .inl (.inl h5), r _ H (Ex.refl H) fun H' U' L bn ow i => ?_⟩
  obtain ⟨ad', ws, e1, e2, e3, rl⟩ := ow
  rw [h3] at e1
  injection e1 with e1
  subst e1
  have l' : SqL X.K H' ad ws := .inl (.inl e3)
  refine ⟨fun x hx => ?_, fun hi => ⟨ws, l', by rw [Paired.length rl]; unfold enumI at hi; simpa using hi⟩⟩
  unfold enumI at hx
  rw [List.getElem?_mapIdx] at hx
  cases hy : ys[i]? with
  | none => rw [hy] at hx; cases hx
  | some y =>
    rw [hy] at hx
    have hx : ((i : Int), y) = x := Option.some.inj hx
    subst hx
    obtain ⟨w, hw, rw'⟩ := rl.get hy
    refine ⟨⟨ws, w, l', hw⟩, fun u2 H'' ⟨T, x', q1, q2, q3, q4⟩ => ?_⟩
    subst q1 q3
    have := q4 ws l'
    rw [hw] at this
    cases this
    exact ⟨Ex.new q2, new_rep bn q2 rfl rw'⟩
theorem for_coreP {S : Type} (u : S → Env') (I : List γ → S → Prop) (M : Env' → Prop) (s0 : S) (hu : ∀ s, (u s)[k]? = some (.own (At.mk v (OL.mk ys)))) {O : Addr → Prop} {fp : Nat → List Addr} {σ : L2.St} {H : Hp} {D : Ends} (S' : SOk X.K O fp env σ H) (hi : ∀ R : It → Hp → Prop, (∀ J H1, Ex H H1 → YieldsO X.K J v ys xs → R J H1) → tI X tg iter σ H R) (h0 : Sub env (u s0)) (hI : I xs s0)
    (hb : ∀ x r s, I (x :: r) s → ∃ e1, GX X tg x (u s) e1 ∧ SX X W body e1 { po with N := fun e => ∃ s', Sub e (u s') ∧ I r s', C := fun e => ∃ s', Sub e (u s') ∧ I r s', B := M })
    (G : Goes X.K X.mg W { po with N := fun e => M e ∨ ∃ s, Sub e (u s) ∧ I [] s } O fp H D) : tFor (tI X tg iter) (tG X tg) (tSs X body) D σ H := by
  refine hi _ fun J H1 e1 yl => ?_
  refine ⟨fun i m σ' H' => ∃ s fp', m = xs.length - i ∧ i ≤ xs.length ∧ I (xs.drop i) s ∧ Keep fp H1 fp' H' ∧ SOk X.K O fp' (u s) σ' H', ⟨xs.length, s0, fp, by simp, Nat.zero_le _, hI, Keep.refl, (S'.ex e1).sub h0⟩, ?_⟩
  rintro i m σ1 H2 ⟨s, fp1, rfl, hle, Is, k1, S1⟩
  obtain ⟨v', _, hv, ow⟩ := S1.sl k _ (hu s)
  have hv : v' = v := hv
  subst hv
  obtain ⟨y1, y2⟩ := yl H2 (UU O fp1) _ S1.bndU ow i
  cases hr : xs.drop i with
  | nil =>
    have : xs.length ≤ i := by
      have := congrArg List.length hr
      simp at this
      omega
    rw [hr] at Is
    exact .inl ⟨y2 this, G.nx (u s) fp1 σ1 H2 (.inr ⟨s, Sub.refl _, Is⟩) ((Keep.ex e1).trans k1) S1⟩
  | cons x r =>
    obtain ⟨gx, gr, gl⟩ := drop_cons hr
    obtain ⟨go, yy⟩ := y1 x gx
    rw [hr] at Is
    obtain ⟨en, hg, hbd⟩ := hb x r s Is
    refine .inr ⟨go, fun σ' H' => ∃ s' fp', I r s' ∧ Keep fp H1 fp' H' ∧ SOk X.K O fp' (u s') σ' H', fun σ' H' ⟨s', fp', a, b, c⟩ => ⟨xs.length - (i + 1), by omega, s', fp', rfl, gl, by rw [gr]; exact a, b, c⟩, fun w H3 yv => ?_⟩
    obtain ⟨e3, rv⟩ := yy w H3 yv
    refine hg O fp1 σ1 H3 w (S1.ex e3) rv _ fun σ4 S4 => ?_
    have kk : Keep fp H1 fp1 H3 := k1.trans (Keep.ex e3)
    have kh : Keep fp H fp1 H3 := (Keep.ex e1).trans kk
    exact hbd O fp1 σ4 H3 S4 _ ⟨fun e f s2 h ⟨s', sb, a⟩ q S' => ⟨s', f, a, kk.trans q, S'.sub sb⟩, fun r e f s2 v h p q => G.rt r e f s2 v h p (kh.trans q), fun x e f s2 c d h p q => G.ex x e f s2 c d h p (kh.trans q), fun e f s2 h p q S' => G.nx e f s2 h (.inl p) (kh.trans q) S', fun e f s2 h ⟨s', sb, a⟩ q S' => ⟨s', f, a, kk.trans q, S'.sub sb⟩⟩
theorem sx_forP {S : Type} (u : S → Env') (I : List γ → S → Prop) (M : Env' → Prop) (s0 : S) (hu : ∀ s, (u s)[k]? = some (.own (At.mk v (OL.mk ys)))) (hc : X.calm = true) (hp : PassesOwn (model X.prog X.w) X.A X.env X.xe) (hi : IXP X tg iter env k v ys xs) (h0 : Sub env (u s0)) (hI : I xs s0)
    (hb : ∀ x r s, I (x :: r) s → ∃ e1, GX X tg x (u s) e1 ∧ SX X W body e1 { po with N := fun e => ∃ s', Sub e (u s') ∧ I r s', C := fun e => ∃ s', Sub e (u s') ∧ I r s', B := M })
    (hd : ∀ s, I [] s → SX X W rest (u s) po) (hM : ∀ e, M e → SX X W rest e po) (hs : ∀ x, foldedSetIterable iter X.env x = pure x := by intro _; rfl) : SX X W (.For tg iter body [] pos :: rest) env po :=
  sx_cons (fun e => M e ∨ ∃ s, Sub e (u s) ∧ I [] s) (s1_of (ps_for hp hc (mI X tg iter) (mG X tg) (mSs X body) hs) fun O fp σ H S' D G => for_coreP u I M s0 hu S' (hi O fp σ H S') h0 hI hb G) fun e h => by
  rcases h with h | ⟨s, h, q⟩
  · exact hM e h
  · exact sx_sub h (hd s q)
theorem sx_forPF' {S : Type} (uu : S → Env' → Env') (step : S → γ → S) (okb : S → γ → Prop) (s0 : S) (hu : ∀ s, (uu s env)[k]? = some (.own (At.mk v (OL.mk ys)))) (hc : X.calm = true) (hp : PassesOwn (model X.prog X.w) X.A X.env X.xe) (hi : IXP X tg iter env k v ys xs) (h0 : Sub env (uu s0 env)) (hk : okFold okb step s0 xs)
    (hb : ∀ x s, okb s x → ∃ e1, GX X tg x (uu s env) e1 ∧ SX X W body e1 { po with N := fun e => Sub e (uu (step s x) env), C := fun e => Sub e (uu (step s x) env), B := fun _ => False })
    (hd : SX X W rest (uu (xs.foldl step s0) env) po) (hs : ∀ x, foldedSetIterable iter X.env x = pure x := by intro _; rfl) : SX X W (.For tg iter body [] pos :: rest) env po :=
  sx_forP (fun s => uu s env) (fun r s => okFold okb step s r ∧ r.foldl step s = xs.foldl step s0) (fun _ => False) s0 hu hc hp hi h0 ⟨hk, rfl⟩ (fun x r s ⟨⟨h1, h2⟩, h3⟩ => by
    obtain ⟨e1, g, b⟩ := hb x s h1
    exact ⟨e1, g, b.imp (fun e h => ⟨step s x, h, h2, h3⟩) (fun _ _ h => h) (fun _ _ h => h) (fun _ h => h) (fun e h => ⟨step s x, h, h2, h3⟩)⟩) (fun s ⟨_, h⟩ => by
    have h : s = xs.foldl step s0 := h
    subst h
    exact hd) (fun _ h => h.elim) hs
theorem sx_forPR' {S T : Type} (uu : S → Env' → Env') (step : S → γ → Stp S T) (okb : S → γ → Prop) (s0 : S) (hu : ∀ s, (uu s env)[k]? = some (.own (At.mk v (OL.mk ys)))) (hc : X.calm = true) (hp : PassesOwn (model X.prog X.w) X.A X.env X.xe) (hi : IXP X tg iter env k v ys xs) (h0 : Sub env (uu s0 env)) (hk : okRun okb step s0 xs)
    (hb : ∀ x r s, okb s x → (runL step s (x :: r) = runL step s0 xs) → ∃ e1, GX X tg x (uu s env) e1 ∧ SX X W body e1 { po with N := fun e => ∃ s', step s x = .go s' ∧ Sub e (uu s' env), C := fun e => ∃ s', step s x = .go s' ∧ Sub e (uu s' env), B := fun e => ∃ s', step s x = .brk s' ∧ Sub e (uu s' env) })
    (hd : ∀ s, (runL step s0 xs = .go s ∨ runL step s0 xs = .brk s) → SX X W rest (uu s env) po) (hs : ∀ x, foldedSetIterable iter X.env x = pure x := by intro _; rfl) : SX X W (.For tg iter body [] pos :: rest) env po :=
  sx_forP (fun s => uu s env) (fun r s => okRun okb step s r ∧ runL step s r = runL step s0 xs) (fun e => ∃ s, Sub e (uu s env) ∧ runL step s0 xs = .brk s) s0 hu hc hp hi h0 ⟨hk, rfl⟩ (fun x r s ⟨⟨h1, h2⟩, h3⟩ => by
    obtain ⟨e1, g, b⟩ := hb x r s h1 h3
    have go : ∀ e, (∃ s', step s x = .go s' ∧ Sub e (uu s' env)) → ∃ s', Sub e (uu s' env) ∧ okRun okb step s' r ∧ runL step s' r = runL step s0 xs := fun e ⟨s', q, sb⟩ => by
      rw [q] at h2
      have h4 : runL step s (x :: r) = runL step s' r := by
        show (match step s x with | .go s' => runL step s' r | .brk s' => .brk s' | .ret r => .ret r) = _
        rw [q]
      exact ⟨s', sb, h2, h4.symm.trans h3⟩
    refine ⟨e1, g, b.imp go (fun _ _ h => h) (fun _ _ h => h) (fun e ⟨s', q, sb⟩ => ⟨s', sb, ?_⟩) go⟩
    rw [← h3]
    show (match step s x with | .go s' => runL step s' r | .brk s' => .brk s' | .ret r => .ret r) = _
    rw [q]) (fun s ⟨_, h⟩ => hd s (.inl h.symm)) (fun e ⟨s, sb, q⟩ => sx_sub sb (hd s (.inr q))) hs
end
end R
set_option maxHeartbeats 1000000
set_option autoImplicit false
/-! isinstance(e, (A, B)) of the exception that a suite holds; int of a bool -/
namespace R
open PySem PySem.Spec PyProof.Rows L2
def rIsE2 (K : PySem.W.Frag) (D a : Addr) : List V → Hp → VK → Prop := fun xs H Q => ∃ (tp c1 c2 : Addr) (b : Bool), xs = [V.ref a, V.ref tp] ∧ H tp = some (.tup [.ref c1, .ref c2]) ∧ PySem.W.kitAny K (.ref D) [.ref c1, .ref c2] = some b ∧ Q (.bl b) H
theorem call_isE2 {X : Cx} {a D : Addr} {oe : Obj} {pn : List (Addr × Obj)} (C : ExcC X.K D) (hz : Zc (.ref D) none oe) (hf : ∃ vs, oe.data = .fields vs) : CallR (X.suite a ((a, oe) :: pn)) (.builtin "isinstance") (rIsE2 X.K D a) := by
  intro pins s σ H xs us Q I r h
  obtain ⟨tp, c1, c2, b, rfl, hT, e, q⟩ := h
  obtain ⟨u1, u2, rfl, r1, r2⟩ := vals2 r
  cases (show u1 = Value.ref a from r1)
  cases (show u2 = Value.ref tp from r2)
  obtain ⟨hget, _⟩ := I.pin (a, oe) (List.mem_append.mpr (.inl List.mem_cons_self))
  obtain ⟨ws, hv⟩ := hf
  have J : PySem.W.InstAt s.heap a oe D none := by
    obtain ⟨oc, od, oda, osl⟩ := oe
    obtain ⟨h1, h2⟩ := hz
    dsimp only at h1 h2 hv
    subst h1 h2 hv
    exact ⟨hget, rfl, rfl, trivial⟩
  obtain ⟨_, its, rv, o, h1, h2, n, h3⟩ := (show ObjOk X.prog X.w H s.heap tp (.tup [.ref c1, .ref c2]) from I.hok tp _ hT)
  cases rv with
  | cons ra rr =>
    cases rr with
    | cons rb rr =>
      cases rr
      cases (show _ = Value.ref c1 from ra)
      cases (show _ = Value.ref c2 from rb)
      obtain ⟨oc, od, dt, sl⟩ := o
      simp only at h2 h3
      subst h2 h3
      exact PySem.W.kia_tup (PySem.W.handS_kitx_exc C.hg C.hk C.hs C.hd C.ha C.hn C.ht C.hm) I.kIn J h1 e (fun z => nomatch z) fun tk => ⟨.bl b, H, I.kept (t' := tk) fun _ _ z => z, rfl, q⟩
section
variable {X : Cx} {W : WX} {env env' : Env'} {ρ α β γ : Type} [Res ρ] [Dat α] [Dat β] [Dat γ] {po : Po ρ} {x : α} {y : β} {z : γ} {e a b c : Expr} {es elts : List Expr} {pos p p2 pc pc2 pt p3 : Pos} {rest body : List Stmt}
theorem ex_isE2 {i j : Nat} {v c c2 : Str} {all s1 s2 : List Str} {e : Exn} {ad : Addr} {oe : Obj} {cls : Value} {d : Option Addr} {pn : List (Addr × Obj)} {Hf : Hp} (I : IsC X.K X.mg all s1 c) (I2 : IsC X.K X.mg all s2 c2) (hi : X.mg "isinstance" = none) (hall : exnIn all e = true) (h1 : ∃ n, e = .one n) (hz : Zc cls d oe) (hfd : ∃ vs, oe.data = .fields vs) (xa : ExAt X.mg X.K Hf e cls d) (hv : env[i]? = some (.dat (ExV.mk ad)))
    (hN : (X.suite ad ((ad, oe) :: pn)).N[i]? = some v := by rfl) (hvis : Vis (X.suite ad ((ad, oe) :: pn)).env.scope v := by first | exact Or.inl rfl | exact Or.inr (Or.inl rfl) | exact Or.inr (Or.inr rfl)) (hd : (v == ("__debug__" : Str)) = false := by decide) (hc : (v == ("__classdict__" : Str)) = false := by decide)
    (hg : Gl (X.suite ad ((ad, oe) :: pn)) "isinstance" := by rfl) (hgc : Gl (X.suite ad ((ad, oe) :: pn)) c := by rfl) (hgc2 : Gl (X.suite ad ((ad, oe) :: pn)) c2 := by rfl) (hdc : (c == ("__debug__" : Str)) = false := by decide) (hdc2 : (c2 == ("__debug__" : Str)) = false := by decide)
    (he : starEach [.Name v p, .Tuple [.Name c pc, .Name c2 pc2] j pt] (X.suite ad ((ad, oe) :: pn)).env = (false, eval (.Name v p) (X.suite ad ((ad, oe) :: pn)).env) :: starEach [.Tuple [.Name c pc, .Name c2 pc2] j pt] (X.suite ad ((ad, oe) :: pn)).env := by rfl) (he2 : starEach [.Tuple [.Name c pc, .Name c2 pc2] j pt] (X.suite ad ((ad, oe) :: pn)).env = (false, eval (.Tuple [.Name c pc, .Name c2 pc2] j pt) (X.suite ad ((ad, oe) :: pn)).env) :: starEach [] (X.suite ad ((ad, oe) :: pn)).env := by rfl)
    (he3 : starEach [.Name c pc, .Name c2 pc2] (X.suite ad ((ad, oe) :: pn)).env = (false, eval (.Name c pc) (X.suite ad ((ad, oe) :: pn)).env) :: starEach [.Name c2 pc2] (X.suite ad ((ad, oe) :: pn)).env := by rfl) (he4 : starEach [.Name c2 pc2] (X.suite ad ((ad, oe) :: pn)).env = (false, eval (.Name c2 pc2) (X.suite ad ((ad, oe) :: pn)).env) :: starEach [] (X.suite ad ((ad, oe) :: pn)).env := by rfl)
    (hpl : (backTo pos (starEach [.Tuple [.Name c pc, .Name c2 pc2] j pt] (X.suite ad ((ad, oe) :: pn)).env)).any (·.1) = false := by exact star_pl rfl) :
    EX (X.suite ad ((ad, oe) :: pn)) (.Call (.Name "isinstance" p2) [.Name v p, .Tuple [.Name c pc, .Name c2 pc2] j pt] [] pos) env (exnIn s1 e || exnIn s2 e) := by
  obtain ⟨n, rfl⟩ := h1
  obtain ⟨Cv, hm, tb⟩ := I.ex
  obtain ⟨Cv2, hm2, tb2⟩ := I2.ex
  have hn : n ∈ all := List.contains_iff_mem.mp hall
  obtain ⟨D, q1, q2, q3⟩ := tb n hn
  obtain ⟨D2, q4, q5, q6⟩ := tb2 n hn
  rw [q1] at q4
  cases q4
  obtain ⟨x1, x2⟩ := xa
  rw [q1] at x1
  cases x1
  subst x2
  have kt : PySem.W.kitAny X.K (.ref D) [.ref Cv, .ref Cv2] = some (s1.contains n || s2.contains n) := kitAny_cons q3 (fun hb => by
    rw [hb]
    exact kitAny_cons q6 (fun hb2 => by rw [hb2]; exact kitAny_nil) (fun hb2 => by rw [hb2]; rfl)) (fun hb => by rw [hb]; rfl)
  exact ex_of (pe_callB (call_isE2 q2 hz hfd) hg hi (by decide +kernel) (pa_cons (pe_var hN hvis hd hc) (pa_cons (pe_tup (pa_cons (pe_glob (v := .ref Cv) hgc hm rfl hdc) (pa_cons (pe_glob (v := .ref Cv2) hgc2 hm2 rfl hdc2) pa_nil he4) he3)) pa_nil he2) he) (by decide) (by decide) he hpl) fun O fp σ H S Q q => by
    obtain ⟨v1, w1, w2⟩ := S.sl i _ hv
    have w2 : v1 = .ref ad := w2
    subst w2
    exact ⟨.ref ad, w1, show 2 ≤ sizeLine from by decide, fun u hu => ⟨u, Cv, Cv2, s1.contains n || s2.contains n, rfl, upd_same, kt, q _ _ (Ex.new hu) rfl⟩⟩
/-- int of a bool -/
def intB (k : Bool) : Int := cond k 1 0
theorem ex_intB {k : Bool} (hm : X.mg "int" = none) (h : EX X a env k) (he : starEach [a] X.env = (false, eval a X.env) :: starEach [] X.env := by exact star_plain rfl _ _) (hpl : (backTo pos (starEach [] X.env)).any (·.1) = false := by exact star_pl rfl) (hg : Gl X "int" := by rfl) : EX X (.Call (.Name "int" p) [a] [] pos) env (intB k) :=
  ex_of (pe_callTy call_int1 hg hm (by decide +kernel : bootBuiltins "int" = some (.type "int")) (pa_cons (mE X a) pa_nil he) (by decide) (by decide) he hpl) fun O fp σ H S Q q => h O fp σ H S _ fun v H1 e1 r1 => .inr ⟨k, by rw [show v = .bl k from r1], q _ H1 e1 (by cases k <;> rfl)⟩
end
end R
set_option maxHeartbeats 1000000
set_option autoImplicit false
/-! except C as e, without a way out -/
namespace R
open PySem PySem.Spec PyProof.Rows L2
section
variable {X : Cx} {W : WX} {env env' : Env'} {ρ : Type} [Res ρ] {po : Po ρ} {pos : Pos} {rest body : List Stmt}
theorem tryV_map {S T : Type} {m : Except Exn S} {h : Exn → S} : tryV (m.map (Stp.go (ρ := T))) (fun e => Stp.go (h e)) = Stp.go (tryV m h) := by cases m <;> rfl
theorem map_err {S S' : Type} {m : Except Exn S} {f : S → S'} {e : Exn} : m.map f = .error e ↔ m = .error e := by
  cases m with
  | error e' => exact ⟨(fun h => by cases h; rfl), (fun h => by cases h; rfl)⟩
  | ok s => exact ⟨(fun h => by cases h), (fun h => by cases h)⟩
theorem sx_tryA' {S : Type} {i : Nat} {x v : Str} {np ps' : Pos} {b0 : Stmt} {suite : List Stmt} {all some' : List Str} (uu : S → Env' → Env') (m : Except Exn S) (h : Exn → S) (hN : X.N.Nodup) (hs : X.stack = X.env :: X.outer) (hf : X.env.frame = some X.env.locals) (cc : CatC X.K X.mg all some' x) (tk : Takes X W)
    (hv : ∀ e, m = .error e → exnIn all e = true ∧ exnIn some' e = true)
    (hb : ∀ (W' : WX) (pn : List (Addr × Obj)) (xe : Value → Shared → Prop), Takes (X.tr pn xe) W' → PassesOwn (model X.prog X.w) X.A X.env xe → SX (X.tr pn xe) W' body env { po with N := fun e => ∃ s, m = .ok s ∧ Sub e (uu s env), X := fun e env' => m = .error e ∧ env' = env })
    (hsu : ∀ e, m = .error e → ∀ (ad : Addr) (oe : Obj) (cls : Value) (d : Option Addr) (pn : List (Addr × Obj)) (Hf : Hp), Zc cls d oe → (∃ vs, oe.data = .fields vs) → ExAt X.mg X.K Hf e cls d → SX (X.suite ad ((ad, oe) :: pn)) W (b0 :: suite) (env.set i (.dat (ExV.mk ad))) { po with N := fun e' => Sub (e'.set i .any) (uu (h e) env), R := fun r e' => po.R r (e'.set i .any), B := fun e' => po.B (e'.set i .any), C := fun e' => po.C (e'.set i .any), X := fun _ _ => False })
    (hR : ∀ r e e', po.R r e → po.R r e') (hr : SX X W rest (uu (tryV m h) env) po) (hi : X.N[i]? = some v := by rfl) (hl : X.env.kindOf v = some .local := by rfl) (hg : Gl X x := by rfl) (hdb : (x == ("__debug__" : Str)) = false := by decide) : SX X W (.Try body [.ExceptHandler (some (.Name x np)) (some v) (b0 :: suite) ps'] [] [] pos :: rest) env po := by
  refine sx_tryA (T := Unit) (i := i) (all := all) (some' := some') uu (m.map Stp.go) (fun e => Stp.go (h e)) hN hs hf cc tk (fun e he => hv e (map_err.mp he)) (fun W' pn xe t q => (hb W' pn xe t q).imp (fun e ⟨s, h1, h2⟩ => ⟨s, by rw [h1]; rfl, h2⟩) (fun _ _ h => h) (fun e env' ⟨h1, h2⟩ => ⟨map_err.mpr h1, h2⟩) (fun _ h => h) (fun _ h => h))
    (fun e he ad oe cls d pn Hf hz hfd xa => ?_) hR (fun s hgo => ?_) hi hl hg hdb
  · have he := map_err.mp he
    refine (hsu e he ad oe cls d pn Hf hz hfd xa).imp (fun e' h' => ⟨h e, ?_, h'⟩) (fun _ _ h => h) (fun _ _ h => h) (fun _ h => h) (fun _ h => h)
    rw [tryV_map, tryV_err he]
  · rw [tryV_map] at hgo
    cases hgo
    exact hr
end
end R
set_option maxHeartbeats 1000000
set_option autoImplicit false
/-! enumerate(d), d a dict -/
namespace PySem
section
variable {pg : Program} {wd : World} {K : Type} [DecidableEq K] {knd : KeyKind pg wd K} {Z : Around} {E : Value → Shared → Prop} {st : Shared}
theorem rq_nextOf_keys {it0 dd : Addr} {i ep : Nat} {kvs : List (K × Value)} {k : K} {v : Value} {Q : Value → Shared → Prop} (ij : st.heap.IsKeyIter it0 dd i kvs.length ep)
    (dm : st.heap.DictAt knd dd kvs ep) (gx : kvs[i]? = some (k, v)) (fin : ∀ key h', knd.is k key = true → h'.IsKeyIter it0 dd (i + 1) kvs.length ep → Heap.SameBut it0 st.heap h' → Q key { st with heap := h' }) :
    wpAny (model pg wd) Z (Builtin.SmallTypes.nextOf (.ref it0)) Q E st := by
  obtain ⟨o, oo, oc, od1⟩ := id ij
  obtain ⟨od, es, at1, cd1, dd1, kk, pp, nn⟩ := id dm
  unfold Builtin.SmallTypes.nextOf
  refine wpAny_bind (wpAny_callSpecial?_slot (name := Str.ofString "__next__") ij.typeIs F.slot_dict_keyiterator_next (wpAny_call_entry F.slot_dict_keyiterator_next ij.typeIs F.entry_dict_keyiterator_next ?_ (F.args_dict_keyiterator_next_1 _)))
  refine wpAny_bind (wpAny_pure ?_)
  refine wpAny_bind ?_
  refine wpAny_bind ?_
  first | refine wpAny_bind (wpAny_typeNameOfWhole_keyiter ij.typeIs (wpAny_pure ?_)) | refine wpAny_bind (wpAny_typeNameOf_keyiter ij.typeIs (wpAny_pure ?_))
  refine wpAny_bind (wpAny_fieldsOf oo od1 ?_)
  have own0 : Builtin.Dict_items.ownsTuple "dict_keyiterator" = false := by decide
  simp only [own0, Bool.false_eq_true, if_false]
  show wpAny _ _ (if (Value.ref dd == Value.none) = true then _ else _) _ _ st
  rw [if_neg (show ¬ ((Value.ref dd == Value.none) = true) from Bool.false_ne_true)]
  refine wpAny_bind (wpAny_pure ?_)
  refine wpAny_bind (wpAny_dictEntries at1 dd1 ?_)
  have sz1 : es.size = kvs.length := by rw [← pp.length]; simp
  rw [if_neg (by rw [sz1]; simp)]
  refine wpAny_bind (wpAny_pure ?_)
  refine wpAny_bind (wpAny_dictEpoch at1 dd1 ?_)
  rw [if_neg (by simp)]
  refine wpAny_pure ?_
  have lt1 : i < kvs.length := by
    rcases Nat.lt_or_ge i kvs.length with h | h
    · exact h
    · simp [List.getElem?_eq_none h] at gx
  have lt2 : i < es.size := by rw [sz1]; exact lt1
  have key1 : knd.is k es[i].key = true := (pp.get? (e := es[i]) (by simp [lt2]) gx).1
  simp only [show ¬ ((i : Int) < 0) from by omega, if_false, Int.toNat_natCast, Array.getElem?_eq_getElem lt2]
  refine wpAny_bind ?_
  first | refine wpAny_bind (wpAny_typeNameOfWhole_keyiter ij.typeIs (wpAny_pure ?_)) | refine wpAny_bind (wpAny_typeNameOf_keyiter ij.typeIs (wpAny_pure ?_))
  refine wpAny_bind (wpAny_isOneOf_keyiter ij.typeIs ?_)
  show wpAny _ _ (setField (.ref it0) 1 (rawInt ((i : Int) + 1)) >>= _) _ _ st
  refine wpAny_bind (wpAny_setField oo od1 (by simp) ?_)
  have ij2 : (st.heap.update it0 (Obj.mapFields (·.setIfInBounds 1 (rawInt ((i : Int) + 1))))).IsKeyIter it0 dd (i + 1) kvs.length ep :=
    ⟨_, Heap.get?_update_self _ oo (Obj.isFreed_of_fields (Obj.data_mapFields od1 _)), (Obj.cls_mapFields ..).trans oc, by rw [Obj.data_mapFields od1]; simp [rawInt]⟩
  refine wpAny_bind (wpAny_holding ?_)
  refine wpAny_bind (wpAny_isOneOf_keyiter (s := { st with heap := st.heap.update it0 (Obj.mapFields (·.setIfInBounds 1 (rawInt ((i : Int) + 1)))) }) ij2.typeIs ?_)
  show wpAny _ _ (pure es[i].key) _ _ _
  exact wpAny_pure (wpAny_pure ⟨_, rfl, wpAny_pure (fin _ _ key1 ij2 (Heap.SameBut.update ..))⟩)
theorem rq_nextOf_keysEnd {it0 dd : Addr} {i ep : Nat} {kvs : List (K × Value)} {Q : Value → Shared → Prop} (noh : Z.handled = none) (ij : st.heap.IsKeyIter it0 dd i kvs.length ep)
    (dm : st.heap.DictAt knd dd kvs ep) (gx : kvs[i]? = none) (fin : ∀ h' e, Heap.ExtBut it0 st.heap h' → (∃ o, h'.get? e = some o ∧ o.cls = .type "StopIteration") → E (.ref e) { st with heap := h' }) :
    wpAny (model pg wd) Z (Builtin.SmallTypes.nextOf (.ref it0)) Q E st := by
  obtain ⟨o, oo, oc, od1⟩ := id ij
  obtain ⟨od, es, at1, cd1, dd1, kk, pp, nn⟩ := id dm
  unfold Builtin.SmallTypes.nextOf
  refine wpAny_bind (wpAny_callSpecial?_slot (name := Str.ofString "__next__") ij.typeIs F.slot_dict_keyiterator_next (wpAny_call_entry F.slot_dict_keyiterator_next ij.typeIs F.entry_dict_keyiterator_next ?_ (F.args_dict_keyiterator_next_1 _)))
  refine wpAny_bind (wpAny_pure ?_)
  refine wpAny_bind ?_
  refine wpAny_bind ?_
  first | refine wpAny_bind (wpAny_typeNameOfWhole_keyiter ij.typeIs (wpAny_pure ?_)) | refine wpAny_bind (wpAny_typeNameOf_keyiter ij.typeIs (wpAny_pure ?_))
  refine wpAny_bind (wpAny_fieldsOf oo od1 ?_)
  have own0 : Builtin.Dict_items.ownsTuple "dict_keyiterator" = false := by decide
  simp only [own0, Bool.false_eq_true, if_false]
  show wpAny _ _ (if (Value.ref dd == Value.none) = true then _ else _) _ _ st
  rw [if_neg (show ¬ ((Value.ref dd == Value.none) = true) from Bool.false_ne_true)]
  refine wpAny_bind (wpAny_pure ?_)
  refine wpAny_bind (wpAny_dictEntries at1 dd1 ?_)
  have sz1 : es.size = kvs.length := by rw [← pp.length]; simp
  rw [if_neg (by rw [sz1]; simp)]
  refine wpAny_bind (wpAny_pure ?_)
  refine wpAny_bind (wpAny_dictEpoch at1 dd1 ?_)
  rw [if_neg (by simp)]
  refine wpAny_pure ?_
  have ge1 : es.size ≤ i := by rw [sz1]; simpa using gx
  simp only [show ¬ ((i : Int) < 0) from by omega, if_false, Int.toNat_natCast, Array.getElem?_eq_none ge1]
  refine wpAny_bind ?_
  first | refine wpAny_bind (wpAny_typeNameOfWhole_keyiter ij.typeIs (wpAny_pure ?_)) | refine wpAny_bind (wpAny_typeNameOf_keyiter ij.typeIs (wpAny_pure ?_))
  show wpAny _ _ (setField (.ref it0) 0 .none >>= _) _ _ st
  refine wpAny_bind (wpAny_setField oo od1 (by simp) ?_)
  show wpAny _ _ (newExc (.type "StopIteration") [] >>= _) _ _ _
  refine wpAny_bind ?_
  simp only [newExc, newTuple]
  refine wpAny_bind (wpAny_newObj_type ?_ (by size_fits))
  refine wpAny_bind (m := firstArgMember _ _) (wpAny_of_eq (a := Value.none) (by first | rfl | (simp only [firstArgMember]; rfl)) ?_)
  refine wpAny_newObj_type ?_ (by size_fits)
  simp only [raiseNew]
  refine wpAny_bind (wpAny_handled ?_)
  first | rw [show Z.in1.handled = none from noh] | rw [noh]
  refine wpAny_bind (wpAny_pure (wpAny_throw ?_))
  exact fin _ _ (((Heap.SameBut.update ..).extBut.push _).push _) ⟨_, Heap.get?_push_size _ rfl, rfl⟩
/-- the keys of a dict, drawn -/
theorem rq_drawsK (noh : Z.handled = none) {it0 dd : Addr} {ep : Nat} {kvs : List (K × Value)} (ne : dd ≠ it0) :
    Draws pg wd Z it0 [it0, dd] kvs.length (fun i x => ∃ k v, kvs[i]? = some (k, v) ∧ knd.is k x = true) (fun i h => h.IsKeyIter it0 dd i kvs.length ep ∧ h.DictAt knd dd kvs ep) where
  live := fun i h ⟨⟨o, a, _⟩, _⟩ => ⟨o, a⟩
  frame := fun i h h' ⟨⟨o, a, b⟩, ⟨o2, es, a2, b2⟩⟩ k => ⟨⟨o, k _ (by simp) _ a, b⟩, ⟨o2, es, k _ (by simp) _ a2, b2⟩⟩
  item := fun i s Q E hi ⟨h1, h2⟩ hQ => by
    obtain ⟨⟨k, v⟩, gx⟩ : ∃ p, kvs[i]? = some p := ⟨kvs[i], List.getElem?_eq_getElem hi⟩
    exact rq_nextOf_keys h1 h2 gx fun key h' q1 q2 sb => hQ key h' s.toks ⟨k, v, gx, q1⟩ ⟨q2, h2.extBut sb.extBut ne⟩ sb
  done := fun s Q E ⟨h1, h2⟩ hE => rq_nextOf_keysEnd noh h1 h2 (List.getElem?_eq_none (Nat.le_refl _)) fun h' e a b => hE h' e a b
end
set_option maxHeartbeats 1000000 in
theorem rq_meets_enum1 {v : Value} {o : Obj} {H : Heap → Prop} (B : Begins v o H) :
    Meets (Builtin.«enumerate.__new__» ⟨[.type "enumerate", v], []⟩) (fun _ R st => H st.heap ∧
      R (.ok (.ret (.ref (st.heap.push o).objs.size))) { st with heap := (st.heap.push o).push { cls := .type "enumerate", data := .fields #[.none, .bool false, .ref st.heap.objs.size, rawInt 0, .none, .none] } }) :=
  .of_wp fun pg wd Z R st h => by
    obtain ⟨hp, gn, dr, tk, os⟩ := st; obtain ⟨h1, h⟩ := h
    have sub0 := sub_enumerate
    have it1 : ∀ {A' : Around} {E : Value → Shared → Prop} {Q : Value → Shared → Prop}, Q (.ref hp.objs.size) ⟨hp.push o, gn, dr, tk, os⟩ → wpAny (model pg wd) A' (pyIter v) Q E ⟨hp, gn, dr, tk, os⟩ :=
      fun q => B.iter pg wd _ _ ⟨hp, gn, dr, tk, os⟩ _ h1 q
    wp_walk using it1
    refine wpAny_stack_any fun st => wpAny_pure ?_
    split
    · rename_i c _ _ _ _ _
      cases (c == Value.type "enumerate")
      · wp_walk using it1
        exact ⟨_, rfl, h⟩
      · wp_walk using it1
        exact ⟨_, rfl, h⟩
    · wp_walk using it1
      exact ⟨_, rfl, h⟩
section
variable {pg : Program} {wd : World} {Z : Around} {E : Value → Shared → Prop} {st : Shared}
theorem rq_enum1 {v : Value} {o : Obj} {H : Heap → Prop} {Q : Value → Shared → Prop} (B : Begins v o H) (h1 : H st.heap)
    (fin : ∀ h', IsEnum h' (st.heap.objs.size + 1) st.heap.objs.size 0 .none → h'.get? st.heap.objs.size = some o → (∀ b o, st.heap.get? b = some o → h'.get? b = some o) → Q (.ref (st.heap.objs.size + 1)) { st with heap := h' }) :
    wpAny (model pg wd) Z (call (.type "enumerate") [v]) Q E st := by
  refine callType_new F.called_enumerate (by decide) (F.typeCall_enumerate_1 _) (F.newCall_enumerate_1 _) (fun obj => F.args_object_init_2 obj _) F.entry_enumerate_new (rq_meets_enum1 B) ⟨h1, ?_⟩
  have sz : (st.heap.push o).objs.size = st.heap.objs.size + 1 := Heap.size_push ..
  show _ ∧ _
  rw [sz]
  have e0 : IsEnum ((st.heap.push o).push { cls := .type "enumerate", data := .fields #[.none, .bool false, .ref st.heap.objs.size, rawInt 0, .none, .none] }) (st.heap.objs.size + 1) st.heap.objs.size 0 .none := by
    have := Heap.get?_push_size (st.heap.push o) (o := { cls := .type "enumerate", data := .fields #[.none, .bool false, .ref st.heap.objs.size, rawInt 0, .none, .none] }) rfl
    rw [sz] at this; exact this
  exact ⟨⟨_, e0, rfl⟩, fin _ e0 (Heap.get?_push_of_some _ (Heap.get?_push_size _ B.free)) fun b ob x => Heap.get?_push_of_some _ (Heap.get?_push_of_some _ x)⟩
theorem rq_enum_end {K : Type} [DecidableEq K] {knd : KeyKind pg wd K} {e it0 dd : Addr} {i ep : Nat} {c : Int} {old : Value} {kvs : List (K × Value)} {Q : Option Value → Shared → Prop} (noh : Z.handled = none) (en : IsEnum st.heap e it0 c old) (ij : st.heap.IsKeyIter it0 dd i kvs.length ep)
    (dm : st.heap.DictAt knd dd kvs ep) (gx : kvs[i]? = none) (fin : ∀ h', Heap.ExtBut it0 st.heap h' → Q none { st with heap := h' }) : wpAny (model pg wd) Z (pyNext (.ref e)) Q E st := by
  have ty : st.TypeIs (.ref e) "enumerate" := ⟨_, en, rfl⟩
  unfold pyNext
  refine wpAny_bind (wpAny_attempt (wpAny_callSpecial?_slot (name := Str.ofString "__next__") ty F.slot_enumerate_next (wpAny_call_entry F.slot_enumerate_next ty F.entry_enumerate_next ?_ (F.args_enumerate_next_1 _))))
  show wpAny _ _ (field (.ref e) 2 >>= _) _ _ _
  refine wpAny_bind (wpAny_field en rfl (x := .ref it0) rfl ?_)
  refine wpAny_bind (rq_nextOf_keysEnd (by simpa using noh) ij dm gx fun h' x e2 ⟨o, o1, o2⟩ => ?_)
  exact wpAny_bind (wpAny_isInstance (T := "StopIteration") (b := true) ⟨o, o1, o2⟩ isSubtype_stop (wpAny_pure (fin _ e2)))
end
end PySem
namespace R
open PySem PySem.Spec PyProof.Rows L2
theorem begins_dict {d : Addr} {o : Obj} {es : Array DictEntry} {ep : Nat} (hs : (d == sysModules) = false) (hx : o.ExactDict) (hd : o.data = .dict es ep) : Begins (.ref d) { cls := .type "dict_keyiterator", data := .fields #[.ref d, .int 0 0, .int es.size 0, .int ep 0] } fun h => h.get? d = some o where
  iter := fun pg wd Z E st Q ho q => iter_keys hs ho hx hd q
  keeps := fun h h' x k => k _ _ x
  free := rfl
/-- the keys of a locked dict, each in a new pair with its number -/
def Itke (d : Addr) (o : Obj) (kvs : List (Key × V)) : It :=
  ⟨fun i H => H d = some (.frz o (.dK kvs)) ∧ i < kvs.length, fun i H x H' => ∃ (T : Addr) (k : Key) (v : V), x = .ref T ∧ H T = none ∧ H' = upd H T (.tup [.int (i : Nat), kV k]) ∧ kvs[i]? = some (k, v), fun i H => H d = some (.frz o (.dK kvs)) ∧ kvs.length ≤ i⟩
theorem turn_enumK {P : Program} {w : World} {K : PySem.W.Frag} {elts : List Expr} {kk : Nat} {tpos : Pos} {d e it : Addr} {o : Obj} {kvs : List (Key × V)} {es : Array DictEntry} {ep : Nat} (od : o.data = .dict es ep) (ne2 : d ≠ it) :
    Turn P w K (.Tuple elts kk tpos) (Itke d o kvs) [e, it] e (fun i h => (∃ old, IsEnum h e it ((i : Nat) : Int) old) ∧ h.IsKeyIter it d i kvs.length ep ∧ e ≠ it) where
  mem := by simp
  obj := fun i h st b hb => by
    obtain ⟨⟨old, he⟩, ⟨oi, ho, _, hd⟩, _⟩ := st
    rcases (by simpa using hb : b = e ∨ b = it) with z | z
    · rw [z]; exact ⟨_, he, fun v q => nomatch q⟩
    · rw [z]; exact ⟨oi, ho, fun v q => by rw [hd] at q; cases q⟩
  keep := fun i h h' st k => ⟨st.1.imp fun old he => k e (by simp) _ he, st.2.1.at fun oi q => k it (by simp) oi q, st.2.2⟩
  item := by
    intro X hP hw hK hc i pins s σ H E I hf st hg
    subst hP hw hK
    obtain ⟨⟨old, he⟩, hit, hne⟩ := st
    obtain ⟨hd, hi⟩ := hg
    obtain ⟨hs, hgd, hx, es', ep', vs, hdt, hsz, kv, hm⟩ := I.frzK hd
    obtain ⟨rfl, rfl⟩ := dict_ep od hdt
    obtain ⟨⟨k, v⟩, hkv⟩ : ∃ p, kvs[i]? = some p := ⟨kvs[i], List.getElem?_eq_getElem hi⟩
    have hl : kvs.length = vs.length := Paired.length kv
    have hed : e ≠ d := fun z => by have q := (hf e (by simp)).1; rw [z, hd] at q; cases q
    have e_lt : e < s.heap.objs.size := Heap.lt_size he
    have i_lt : it < s.heap.objs.size := by obtain ⟨_, q, _⟩ := hit; exact Heap.lt_size q
    rw [hl] at hit
    refine wpAny_pyNext_enum_itemD (n := vs.length) (rq_drawsK (knd := mixKind X.prog X.w) (Z := X.A.in1) (I.ok.hd hc) ne2) he ⟨hit, hm⟩ (by omega) hne (by simp [hne, hed]) fun x h' tk ⟨k2, u2, g2, x2⟩ ho ⟨hit', hm'⟩ hT hsz2 hk => ?_
    refine ⟨_, rfl, wpAny_letOwnedTupleGo_enum (s := { s with heap := h', toks := tk + 1 }) ho fun h'' he' sb => ?_⟩
    have ek : k2 = k := by
      obtain ⟨u, hu, ru⟩ := kv_get kv hkv
      rw [hu] at g2
      cases g2; rfl
    subst ek
    have hT2 : h''.get? s.heap.objs.size = some { cls := .type "tuple", data := .seq #[.int i tk, x] } := (sb.2 _ (Nat.ne_of_gt e_lt)).trans hT
    have new : ObjOk X.prog X.w (upd H s.heap.objs.size (.tup [.int (i : Nat), kV k2])) h'' s.heap.objs.size (.tup [.int (i : Nat), kV k2]) :=
      ⟨by show 2 ≤ sizeLine; decide, [.int i tk, x], .cons ⟨_, rfl⟩ (.cons (relV_key (show keyIs k2 x = true from x2)) .nil), ⟨_, hT2, rfl, _, rfl⟩⟩
    have I1 : Inv X pins σ (upd H s.heap.objs.size (.tup [.int (i : Nat), kV k2])) { s with heap := h'', toks := tk + 1 } :=
      I.turnedNew (ch := [e, it]) (fun b ob hb q => (sb.2 b (fun z => hb (by simp [z]))).trans (hk b ob (fun z => hb (by simp [z])) (fun z => hb (by simp [z])) q)) hf (Nat.le_refl _) new
    refine ⟨.ref s.heap.objs.size, _, I1, rfl, ⟨_, k2, v, rfl, I.hok.fresh (Nat.le_refl _), rfl, hkv⟩, ⟨⟨x, ?_⟩, ?_, hne⟩, fun b hb => ?_⟩
    · rw [show ((i + 1 : Nat) : Int) = (i : Int) + 1 by omega]; exact he'
    · rw [hl]
      exact hit'.at fun oi q => (sb.2 it (Ne.symm hne)).trans q
    · have hb' : b < s.heap.objs.size := by
        rcases (by simpa using hb : b = e ∨ b = it) with z | z
        · rw [z]; exact e_lt
        · rw [z]; exact i_lt
      rw [upd_ne (Nat.ne_of_lt hb')]
      exact (hf b hb).1
  done := by
    intro X hP hw hK hc i pins s σ H E I hf st hg
    subst hP hw hK
    obtain ⟨⟨old, he⟩, hit, hne⟩ := st
    obtain ⟨hd, hi⟩ := hg
    obtain ⟨hs, hgd, hx, es', ep', vs, hdt, hsz, kv, hm⟩ := I.frzK hd
    obtain ⟨rfl, rfl⟩ := dict_ep od hdt
    obtain ⟨f0, f1, f2, f3, f4, f5⟩ := hf it (by simp)
    have hl : kvs.length = vs.length := Paired.length kv
    rw [hl] at hit hi
    exact rq_enum_end (I.ok.hd hc) he hit hm (List.getElem?_eq_none hi) fun h' eb => ⟨rfl, I.turned (t' := s.toks) (fun b ob hb q => eb b ob (by simpa using hb) q) f0 f1 f3 f4 f5⟩
  self := fun A i s Q E st h => wpAny_pyIter_enum st.1.choose_spec h
def iEnumK (ta : TA) : TI := fun σ H R => ta σ H fun vs H1 => ∃ (d : Addr) (o : Obj) (kvs : List (Key × V)), vs = [.ref d] ∧ H1 d = some (.frz o (.dK kvs)) ∧ R (Itke d o kvs) H1
theorem pi_enumK {X : Cx} {e : Expr} {ta : TA} {p pos tpos : Pos} {elts : List Expr} {kk : Nat} (hg : Gl X "enumerate") (hm : X.mg "enumerate" = none) (ha : PA X [e] ta) (hs : starEach [e] X.env = [(false, eval e X.env)] := by exact star_plain rfl _ _) :
    PI X (.Tuple elts kk tpos) (.Call (.Name "enumerate" p) [e] [] pos) (iEnumK ta) := by
  refine ⟨fun pins s σ H R I h => Call_ (ld_blt I hg hm boot_enumerate (PyProof.Rows.callWith_type1 (thn (ha.run pos pins s σ H _ I h) fun us s1 ⟨vs, H1, I1, r1, q1⟩ => ?_) hs rfl))⟩
  obtain ⟨d, o, kvs, ex, hd, q⟩ := q1
  subst ex
  cases r1 with
  | cons r rr =>
    cases rr
    cases r
    obtain ⟨hs0, hgd, hx, es, ep, vs, hdt, hsz, kv, hm2⟩ := I1.frzK hd
    refine rq_enum1 (begins_dict hs0 hx hdt) hgd fun h' en it1 hk => wpAny_pyIter_enum en ?_
    have I2 : Inv X pins σ H1 { s1 with heap := h' } := I1.kept (t' := s1.toks) hk
    have d_lt : d < s1.heap.objs.size := Heap.lt_size hgd
    refine ⟨s1.heap.objs.size + 1, [s1.heap.objs.size + 1, s1.heap.objs.size], _, _, H1, rfl, I2, turn_enumK (e := s1.heap.objs.size + 1) (it := s1.heap.objs.size) hdt (Nat.ne_of_lt d_lt), ⟨⟨.none, en⟩, ⟨_, it1, rfl, ?_⟩, Nat.succ_ne_self _⟩, fun b hb => ?_, q⟩
    · rw [hsz] <;> rfl
    · have hle : s1.heap.objs.size ≤ b := by
        rcases (by simpa using hb : b = s1.heap.objs.size + 1 ∨ b = s1.heap.objs.size) with z | z
        · rw [z]; exact Nat.le_add_right _ _
        · rw [z]; exact Nat.le_refl _
      exact I1.fpOk hle (I1.hok.fresh hle)
section
variable {X : Cx} {e : Expr} {α : Type} [Dat α]
theorem hw_enumK : ∀ σ H1 ad od ws (R : It → Hp → Prop), H1 ad = some (.frz od (.dK ws)) → (∀ Q : VK, Q (.ref ad) H1 → tE X e σ H1 Q) → R (Itke ad od ws) H1 → iEnumK (tCons (tE X e) tNil) σ H1 R := fun σ H1 ad od ws R hl hp r => hp _ ⟨ad, od, ws, rfl, hl, r⟩
theorem yields_enumK {δ : Type} [Dat δ] {d : Dc δ} (K : PySem.W.Frag) : ∀ U H1 ad od ws, wo H1 U ad = some (.frz od (.dK ws)) → repD K (wo H1 U) ws d.kvs → Yields K (Itke ad od ws) U H1 (enumI (d.kvs.map (·.1))) := fun U H1 ad od ws hv hr H' U' bn ex i => by
  have hl : H' ad = some (.frz od (.dK ws)) := (wo_some (ex ad _ hv)).2
  refine ⟨fun x hx => ?_, fun hi => ⟨hl, by rw [Paired.length hr]; unfold enumI at hi; simpa using hi⟩⟩
  unfold enumI at hx
  rw [List.getElem?_mapIdx, List.getElem?_map] at hx
  cases hk : d.kvs[i]? with
  | none => rw [hk] at hx; cases hx
  | some kx =>
    obtain ⟨k, x'⟩ := kx
    rw [hk] at hx
    have hx : ((i : Int), k) = x := Option.some.inj hx
    subst hx
    obtain ⟨v, hv2, rv⟩ := hr.get hk
    refine ⟨⟨hl, (List.getElem?_eq_some_iff.mp hv2).1⟩, fun u H'' ⟨T, k', v', q1, q2, q3, g⟩ => ?_⟩
    rw [hv2] at g
    cases g
    subst q1 q3
    exact ⟨Ex.new q2, new_rep bn q2 rfl rfl⟩
end
end R
set_option maxHeartbeats 1000000
set_option autoImplicit false
/-! a fraction told as a pair -/
namespace R
open PySem PySem.Spec PyProof.Rows L2
section
variable {X : Cx} {env : Env'} {e : Expr}
theorem ex_pairQ {x : Rat} (h : EX X e env x) : EX X e env ((x.num, ((x.den : Nat) : Int)) : Int × Int) := fun O fp σ H S Q q => h O fp σ H S Q fun v H' e1 r => q v H' e1 r
end
end R
set_option maxHeartbeats 1000000
set_option autoImplicit false
/-! a comprehension over a dict -/
namespace R
open PySem PySem.Spec PyProof.Rows L2
section
variable {X : Cx} {W : WX} {env env' : Env'} {ρ α β γ : Type} [Res ρ] [Dat α] [Dat β] [Dat γ] {po : Po ρ} {x : α} {y : β} {z : γ} {e a b c tg iter o : Expr} {es : List Expr} {pos p p2 pc p3 apos cpos : Pos} {rest body : List Stmt} {xs : List α}
theorem lc_ev0 {scope : Scope} {tt : TT} {g : TG} {vs : List Nat} (mk : α → Env') (f : α → β) (t : α → Bool) {O : Addr → Prop} {fp : Nat → List Addr} {σ : L2.St} {H : Hp} (S : SOk X.K O fp env σ H) (hi : ∀ R : It → Hp → Prop, (∀ J H1, Ex H H1 → Yields X.K J (UU O fp) H1 xs → R J H1) → tI X tg iter σ H R) (hz : xs.length ≤ 100000) (hg : TgOk α X g vs (wipeE env vs) mk) (hww : ∀ σ : L2.St, L2.wipe (L2.wipe σ vs) vs = L2.wipe σ vs)
    (ht : ∀ x ∈ xs, EvT X.K tt (mk x) (t x)) (he : ∀ x ∈ xs, t x = true → Ev X.K (tEb X scope e) (mk x) (f x)) :
    ∀ Q : VK, (∀ v L H', Ex H H' → (∀ a ∈ L, H a = none) → (∀ a ∈ L, ∃ o, H' a = some o) → (∀ Hf, Le (wo H' (fun a => UU O fp a ∨ a ∈ L)) Hf → Own.own X.K Hf H' v L (OL.mk ((xs.filter t).map f))) → Q v H') → tLc (tI X tg iter) g tt (tEb X scope e) vs σ H Q := by
  intro Q q
  refine hi _ fun J H1 e1 yl D hD => ?_
  have S1 := S.ex e1
  have S2 := S1.hide (o := .lst []) hD
  have hU : ∀ a, UU (fun a => O a ∨ a = D) fp a ↔ (UU O fp a ∨ a = D) := fun a => by
    constructor
    · rintro ((z | z) | z)
      · exact .inl (.inl z)
      · exact .inr z
      · exact .inl (.inr z)
    · rintro ((z | z) | z)
      · exact .inl (.inl z)
      · exact .inr z
      · exact .inl (.inr z)
  -- where one stands at turn i
  let Pv : Nat → Hp → Prop := fun i H' => ∃ ws, H' D = some (.lst ws) ∧ (∀ a o, a ≠ D → H1 a = some o → H' a = some o) ∧ repL X.K (wo H' (UU (fun a => O a ∨ a = D) fp)) ws (((xs.take i).filter t).map f)
  have SP : ∀ i H', Pv i H' → SOk X.K (fun a => O a ∨ a = D) fp env σ H' := fun i H' ⟨ws, h1, h2, _⟩ => by
    refine S2.conv (Ex.le fun a o hq => ?_) (fun j a ha => ?_) fun a o hq => ?_
    · obtain ⟨n, hq⟩ := wo_some hq
      have na : a ≠ D := fun z => n ((hU a).mpr (.inr z))
      rw [upd_ne na] at hq
      rw [wo_out n]
      exact h2 a o na hq
    · obtain ⟨o, hq⟩ := S1.dom j a ha
      have na : a ≠ D := ne_of_none hq hD
      rw [h2 a o na hq, upd_ne na, hq]
    · by_cases na : a = D
      · subst na; exact ⟨_, h1⟩
      · rw [upd_ne na] at hq; exact ⟨o, h2 a o na hq⟩
  have YL : ∀ i H', Pv i H' → (∀ x, xs[i]? = some x → J.go i H' ∧ ∀ v H'', J.yld i H' v H'' → Ex H' H'' ∧ Dat.rep X.K (wo H'' (UU (fun a => O a ∨ a = D) fp)) v x) ∧ (xs.length ≤ i → J.stop i H') := fun i H' pv => by
    refine yl H' _ (SP i H' pv).bndU (fun a o hq => ?_) i
    obtain ⟨ws, h1, h2, _⟩ := pv
    obtain ⟨n, hq⟩ := wo_some hq
    have na : a ≠ D := ne_of_none hq hD
    rw [wo_out fun z => ((hU a).mp z).elim n na]
    exact h2 a o na hq
  refine ⟨fun i m H' => m = xs.length - i ∧ i ≤ xs.length ∧ Pv i H', ⟨xs.length, by simp, Nat.zero_le _, [], upd_same, fun a o na h => by rw [upd_ne na]; exact h, .nil⟩, ?_⟩
  rintro i m H2 ⟨rfl, hle, pv⟩
  obtain ⟨y1, y2⟩ := YL i H2 pv
  by_cases hlt : i < xs.length
  · obtain ⟨x, hx⟩ : ∃ x, xs[i]? = some x := ⟨_, List.getElem?_eq_getElem hlt⟩
    have hm : x ∈ xs := List.mem_of_getElem? hx
    obtain ⟨go, yy⟩ := y1 x hx
    refine .inr ⟨go, Pv (i + 1), fun H' p' => ⟨_, by omega, rfl, hlt, p'⟩, fun v H3 yv => ?_⟩
    obtain ⟨e3, rv⟩ := yy v H3 yv
    have S3 := (SP i H2 pv).ex e3
    obtain ⟨ws, h1, h2, h3⟩ := pv
    have tk : xs.take (i + 1) = xs.take i ++ [x] := by rw [List.take_add_one, hx]; rfl
    refine hg.run x _ fp _ H3 v (S3.wipe vs) rv (hww σ) _ fun σ4 S4 w4 => ⟨w4.trans rfl, ?_⟩
    refine ht x hm _ fp σ4 H3 S4 _ fun H5 e5 => ?_
    cases htx : t x with
    | true =>
      show tEb X scope e σ4 H5 _
      refine he x hm htx _ fp σ4 H5 (S4.ex e5) _ fun y H6 e6 ry => ?_
      have e36 : Ex H2 H6 := (e3.trans e5).trans e6
      refine ⟨ws, e36 D _ h1, ?_, ws ++ [y], upd_same, fun a o na h => by rw [upd_ne na]; exact e36 a o (h2 a o na h), ?_⟩
      · have := Paired.length h3
        rw [List.length_map] at this
        have l2 := List.length_filter_le t (xs.take i)
        have l3 : (xs.take i).length ≤ xs.length := by rw [List.length_take]; omega
        exact Nat.lt_of_lt_of_le (show ws.length < 100001 by omega) (by decide)
      · rw [tk, List.filter_append, List.map_append]
        have : (List.filter t [x]).map f = [f x] := by simp [htx]
        rw [this, wo_upd_in (show UU (fun a => O a ∨ a = D) fp D from (hU D).mpr (.inr rfl))]
        exact Paired.app (h3.mono (wo_ex e36).le) ry
    | false =>
      show Pv (i + 1) H5
      have e35 : Ex H2 H5 := e3.trans e5
      refine ⟨ws, e35 D _ h1, fun a o na h => e35 a o (h2 a o na h), ?_⟩
      rw [tk, List.filter_append, List.map_append]
      have : (List.filter t [x]).map f = [] := by simp [htx]
      rw [this, List.append_nil]
      exact h3.mono (wo_ex e35).le
  · have ei : i = xs.length := by omega
    subst ei
    obtain ⟨ws, h1, h2, h3⟩ := pv
    have ek : ∀ a o, H1 a = some o → H2 a = some o := fun a o h => h2 a o (ne_of_none h hD) h
    refine .inl ⟨y2 (Nat.le_refl _), q (.ref D) [D] H2 (e1.trans ek) (fun a ha => by rw [List.mem_singleton.mp ha]; exact e1.free hD) (fun a ha => by rw [List.mem_singleton.mp ha]; exact ⟨_, h1⟩) fun Hf le => ⟨D, ws, rfl, rfl, h1, ?_⟩⟩
    rw [List.take_length] at h3
    refine h3.mono (Le.trans (wo_mono fun a z => ?_).le le)
    rcases z with z | z
    · exact (hU a).mpr (.inl z)
    · exact (hU a).mpr (.inr (List.mem_singleton.mp z))
theorem en_lcD {scope : Scope} {ifs : List Expr} {own : List (Str × Nat)} {tt : TT} {g : TG} {δ : Type} [Dat δ] {d : Dc δ} {de : Expr} {J : Addr → Obj → List (Key × V) → It} {wi : TI} (mk : α → Env') (f : α → β) (t : α → Bool) (hc : X.calm = true) (hN : X.N.Nodup) (ok : BlkOk X.N X.env.scope scope own) (hPI : PI X tg iter wi)
    (hw : ∀ σ H1 ad od ws (R : It → Hp → Prop), H1 ad = some (.frz od (.dK ws)) → (∀ Q : VK, Q (.ref ad) H1 → tE X de σ H1 Q) → R (J ad od ws) H1 → wi σ H1 R)
    (hy : ∀ U H1 ad od ws, wo H1 U ad = some (.frz od (.dK ws)) → repD X.K (wo H1 U) ws d.kvs → Yields X.K (J ad od ws) U H1 xs)
    (hd : EPth X de env d) (hz : xs.length ≤ 100000) (hg : TgOk α X g (own.map (·.2)) (wipeE env (own.map (·.2))) mk) (hww : ∀ σ : L2.St, L2.wipe (L2.wipe σ (own.map (·.2))) (own.map (·.2)) = L2.wipe σ (own.map (·.2)))
    (pg : ∀ (s : Shared) (H : Hp) (C : Addr) (cl : List (Str × Addr)) (fp : List Addr), PG (X.blk s H scope (compEnvC scope cl C X.env) fp) tg g) (pt : ∀ (s : Shared) (H : Hp) (C : Addr) (cl : List (Str × Addr)) (fp : List Addr), PTs (X.blk s H scope (compEnvC scope cl C X.env) fp) ifs tt)
    (ht : ∀ x ∈ xs, EvT X.K tt (mk x) (t x)) (he : ∀ x ∈ xs, t x = true → Blk X scope fun Y => EX Y e (mk x) (f x)) (hs : ∀ x, foldedSetIterable iter X.env x = pure x := by intro _; rfl) : EN X (.ListComp e [⟨tg, iter, ifs, 0⟩] scope pos) env (OL.mk ((xs.filter t).map f)) := fun O fp σ H S Q q => tE_of fun pins s I => by
  obtain ⟨v, ⟨ad, ws, rfl, rd, rl⟩, hpth⟩ := hd O fp σ H S
  have core : ∀ (H1 : Hp) (od : Obj), Le H H1 → H1 ad = some (.frz od (.dK ws)) → SOk X.K O fp env σ H1 → wo H1 (UU O fp) ad = some (.frz od (.dK ws)) → repD X.K (wo H1 (UU O fp)) ws d.kvs → ∀ Q' : VK, (∀ v L H', Ex H1 H' → (∀ a ∈ L, H1 a = none) → (∀ a ∈ L, ∃ o, H' a = some o) → (∀ Hf, Le (wo H' (fun a => UU O fp a ∨ a ∈ L)) Hf → Own.own X.K Hf H' v L (OL.mk ((xs.filter t).map f))) → Q' v H') → tLc (tI X tg iter) g tt (tEb X scope e) (own.map (·.2)) σ H1 Q' := fun H1 od le hl S1 hv hr Q' q' =>
    lc_ev0 mk f t S1 (fun R r => tI_of fun pins s In => hPI.run pins s σ H1 R In (hw σ H1 ad od ws R hl (fun Q q => hpth H1 le Q q) (r _ H1 (Ex.refl _) (hy _ H1 ad od ws hv hr)))) hz hg hww ht (fun x hx h => ev_b (he x hx h)) Q' q'
  have pl := pe_lc (pos := pos) hc hN (mI X tg iter) ok pg pt (fun s H C cl fp => mEb (e := e) s H C cl fp) hs
  rcases rd with rd | ⟨od, rd⟩
  · obtain ⟨n, rd'⟩ := wo_some rd
    refine (pe_lock pl).run pins s σ H Q I ⟨ad, .dK ws, rd', trivial, fun od => ?_⟩
    refine core _ od (lock_le rd') upd_same (S.lock rd) (by rw [wo_out n, upd_same]) (rl.mono (by rw [wo_upd_out n]; exact lock_le rd)) _ fun v L H' e1 hL hd1 ow => ?_
    have h1 : H' ad = some (.frz od (.dK ws)) := e1 ad _ upd_same
    have nL : ad ∉ L := fun z => by
      have := hL ad z
      rw [upd_same] at this
      cases this
    refine ⟨h1, q v L _ (fun b o hb => ?_) (fun b hb => ?_) (fun b hb => ?_) fun Hf le => ?_⟩
    · by_cases eb : b = ad
      · subst eb; rw [rd'] at hb; cases hb; exact upd_same
      · rw [upd_ne eb]
        exact e1 b o (by rw [upd_ne eb]; exact hb)
    · have nb : b ≠ ad := fun z => nL (z ▸ hb)
      have := hL b hb
      rw [upd_ne nb] at this
      exact this
    · have nb : b ≠ ad := fun z => nL (z ▸ hb)
      rw [upd_ne nb]
      exact hd1 b hb
    · have nU : ¬ (UU O fp ad ∨ ad ∈ L) := fun z => z.elim n nL
      refine Own.frame (Le.refl Hf) (fun b hb => upd_ne fun z => nL (z ▸ hb)) (ow Hf (Le.trans ?_ le))
      rw [wo_upd_out nU]
      exact unlock_le (by rw [wo_out nU]; exact h1)
  · obtain ⟨n, rd'⟩ := wo_some rd
    exact pl.run pins s σ H Q I (core H od (Le.refl H) rd' S rd rl Q q)
end
end R
set_option maxHeartbeats 1000000
set_option autoImplicit false
/-! R31: sorted texts as one value: sorted(xs), sorted(d), sorted(d.keys()), sorted(.., reverse=True); list(d.values()) -/
namespace R
open PySem PySem.Spec PyProof.Rows L2
/-! ### the order of texts -/
theorem ltS_cps (x y : Str) : ltS x y = decide (x.cps.toList < y.cps.toList) := rfl
theorem str_cps {x y : Str} (h : x.cps.toList = y.cps.toList) : x = y := by
  cases x with | mk a => cases y with | mk b =>
    have : a = b := Array.toList_inj.mp h
    subst this; rfl
theorem leS_iff {x y : Str} : leS x y = true ↔ x.cps.toList ≤ y.cps.toList := by
  unfold leS
  rw [ltS_cps]
  constructor
  · intro h
    have : ¬ (y.cps.toList < x.cps.toList) := by simpa using h
    exact List.not_lt.mp this
  · intro h
    have : ¬ (y.cps.toList < x.cps.toList) := List.not_lt.mpr h
    simpa using this
theorem leS_trans {x y z : Str} (a : leS x y = true) (b : leS y z = true) : leS x z = true := leS_iff.mpr (List.le_trans (leS_iff.mp a) (leS_iff.mp b))
theorem leS_total (x y : Str) : (leS x y || leS y x) = true := by
  rcases List.le_total x.cps.toList y.cps.toList with h | h
  · rw [leS_iff.mpr h]; rfl
  · rw [leS_iff.mpr h]; simp
theorem leS_anti {x y : Str} (a : leS x y = true) (b : leS y x = true) : x = y := str_cps (List.le_antisymm (leS_iff.mp a) (leS_iff.mp b))
theorem leS_refl (x : Str) : leS x x = true := by have := leS_total x x; simpa using this
/-- two rows in order with the same members, each as often, are one -/
theorem srt_eq {xs ys : List Str} (p : xs.Perm ys) (h1 : xs.Pairwise (fun a b => leS a b = true)) (h2 : ys.Pairwise (fun a b => leS a b = true)) : xs = ys :=
  List.Perm.eq_of_pairwise (fun a b _ _ x y => leS_anti x y) h1 h2 p
theorem sortS_pw (xs : List Str) : (sortS xs).Pairwise (fun a b => leS a b = true) := List.pairwise_mergeSort (le := leS) (fun a b c h1 h2 => leS_trans h1 h2) (fun a b => leS_total a b) xs
theorem sortS_perm (xs : List Str) : (sortS xs).Perm xs := List.mergeSort_perm xs leS
theorem risingS_pw : ∀ {p : Str} {l : List Str}, risingS p l = true → (p :: l).Pairwise (fun a b => leS a b = true)
  | p, [], _ => List.pairwise_singleton _ _
  | p, x :: r, h => by
    have h : (!ltCps x.cps.toList p.cps.toList && risingS x r) = true := h
    rw [Bool.and_eq_true] at h
    have ih := risingS_pw h.2
    have h0 : leS p x = true := by
      unfold leS
      rw [ltS_cps, ← ltCps_eq]
      exact h.1
    refine List.pairwise_cons.mpr ⟨fun y hy => ?_, ih⟩
    rcases List.mem_cons.mp hy with e | e
    · rw [e]; exact h0
    · exact leS_trans h0 (List.rel_of_pairwise_cons ih e)
theorem sortedS_pw : ∀ {l : List Str}, sortedS l = true → l.Pairwise (fun a b => leS a b = true)
  | [], _ => List.Pairwise.nil
  | _ :: _, h => risingS_pw h
theorem sortS_is {xs ys : List Str} (p : ys.Perm xs) (h : sortedS ys = true) : ys = sortS xs := srt_eq (p.trans (sortS_perm xs).symm) (sortedS_pw h) (sortS_pw xs)
theorem sortS_congr {xs ys : List Str} (p : xs.Perm ys) : sortS xs = sortS ys := srt_eq ((sortS_perm xs).trans (p.trans (sortS_perm ys).symm)) (sortS_pw _) (sortS_pw _)
theorem sortS_len (xs : List Str) : (sortS xs).length = xs.length := (sortS_perm xs).length_eq
theorem mem_sortS {x : Str} {xs : List Str} : x ∈ sortS xs ↔ x ∈ xs := (sortS_perm xs).mem_iff
theorem sortS_self {xs : List Str} (h : xs.Pairwise (fun a b => leS a b = true)) : sortS xs = xs := srt_eq (sortS_perm xs) (sortS_pw _) h
/-! ### calls of a built-in that makes something new -/
section
variable {X : Cx} {env : Env'} {α β : Type} [Dat α] [Dat β] {x : α} {e a o : Expr} {es : List Expr} {pos p p2 apos cpos : Pos} {xs : List α}
theorem en_callB1 {β : Type} [Own β] {y : β} {id : String} {n : Str} {r : List V → Hp → VK → Prop} (hc : CallR X (.builtin id) r) (hm : X.mg n = none) (hv : bootBuiltins n = some (.builtin id)) (ha : EX X e env x)
    (hr : ∀ (U : Addr → Prop) (v : V) (H : Hp), Dat.rep X.K (wo H U) v x → ∀ Q : VK, (∀ v L H', Ex H H' → (∀ a ∈ L, H a = none) → (∀ a ∈ L, ∃ o, H' a = some o) → (∀ Hf, Le (wo H' (fun a => U a ∨ a ∈ L)) Hf → Own.own X.K Hf H' v L y) → Q v H') → r [v] H Q)
    (hg : Gl X n) (hn : n ≠ "__name__") (hdb : (n == ("__debug__" : Str)) = false) (he : starEach [e] X.env = (false, eval e X.env) :: starEach [] X.env) (hpl : (backTo pos (starEach [] X.env)).any (·.1) = false) : EN X (.Call (.Name n p) [e] [] pos) env y := by
  intro O fp σ H S Q q
  refine tE_of fun pins s I => ?_
  refine (pe_callB hc hg hm hv (mA X _) hn hdb he hpl).run pins s σ H Q I ?_
  refine ea1 ha he O fp σ H S _ fun vs H1 e1 ar => ?_
  match vs, ar with
  | [v], ⟨r1, _⟩ => exact hr (UU O fp) v H1 r1 Q fun v L H' e2 hL hd ow => q v L H' (e1.trans e2) (fun b hb => e1.free (hL b hb)) hd ow
theorem boot_sorted' : bootBuiltins "sorted" = some (.builtin "sorted") := by decide +kernel
/-- sorted(xs) of texts -/
theorem en_sortedS {ss : List Str} (hm : X.mg "sorted" = none) (h : EX X a env ss) (hl : ss.length < 64) (he : starEach [a] X.env = (false, eval a X.env) :: starEach [] X.env := by exact star_plain rfl _ _) (hpl : (backTo pos (starEach [] X.env)).any (·.1) = false := by exact star_pl rfl) (hg : Gl X "sorted" := by rfl) : EN X (.Call (.Name "sorted" p) [a] [] pos) env (OL.mk (sortS ss)) :=
  en_callB1 cr_sortedS hm boot_sorted' h (fun U v H r1 Q q => by
    obtain ⟨ad, vs, h1, h2, h3⟩ := r1
    have := h3.strs
    subst this
    refine ⟨ad, ss, by rw [h1], wo_le.lst h2, hl, fun ys u py sy hu => ?_⟩
    have := sortS_is py sy
    subst this
    exact q (.ref u) [u] _ (Ex.new hu) (fun b hb => by rw [List.mem_singleton.mp hb]; exact hu) (fun b hb => by rw [List.mem_singleton.mp hb]; exact ⟨_, upd_same⟩) fun Hf le => ⟨u, _, rfl, rfl, upd_same, strs_rep _⟩) hg (by decide) (by decide) he hpl
theorem repD.names {K : PySem.W.Frag} {H : Hp} {ws : List (Key × V)} {kvs : List (Str × α)} (h : repD K H ws kvs) : ws.map (·.1) = (kvs.map Prod.fst).map Sum.inr := by
  unfold repD at h
  induction h with
  | nil => rfl
  | cons h0 _ ih => rw [List.map_cons, List.map_cons, List.map_cons, ih, h0.1]
/-- sorted(d) -/
theorem en_sortedD {d : Dc α} (hc : X.calm = true) (hm : X.mg "sorted" = none) (h : EX X a env d) (hl : d.kvs.length < 64) (he : starEach [a] X.env = (false, eval a X.env) :: starEach [] X.env := by exact star_plain rfl _ _) (hpl : (backTo pos (starEach [] X.env)).any (·.1) = false := by exact star_pl rfl) (hg : Gl X "sorted" := by rfl) : EN X (.Call (.Name "sorted" p) [a] [] pos) env (OL.mk (sortS (d.kvs.map Prod.fst))) :=
  en_callB1 (call_sortedD hc) hm boot_sorted' h (fun U v H r1 Q q => by
    obtain ⟨ad, ws, h1, h2, h3⟩ := r1
    refine ⟨ad, ws, d.kvs.map Prod.fst, by rw [h1], wo_le _ _ trivial h2, h3.names, by rw [List.length_map]; exact hl, fun ys u py sy hu => ?_⟩
    have := sortS_is py sy
    subst this
    exact q (.ref u) [u] _ (Ex.new hu) (fun b hb => by rw [List.mem_singleton.mp hb]; exact hu) (fun b hb => by rw [List.mem_singleton.mp hb]; exact ⟨_, upd_same⟩) fun Hf le => ⟨u, _, rfl, rfl, upd_same, strs_rep _⟩) hg (by decide) (by decide) he hpl
end
end R
set_option maxHeartbeats 1000000
set_option autoImplicit false
/-! R32: list(d.values()), sorted(d.keys()) -/
namespace R
open PySem PySem.Spec PyProof.Rows L2
section
variable {X : Cx} {o : Expr} {td : TE} {p pos apos cpos : Pos}
def tListVals (td : TE) : TE := fun σ H Q => td σ H fun v H1 => ∃ (a : Addr) (kvs : List (L2.Key × V)), v = .ref a ∧ Rd H1 a (.dK kvs) ∧ ∀ q, H1 q = none → Q (.ref q) (upd H1 q (.lst (kvs.map (·.2))))
theorem KV.vals {κ : Type} {kvs : List (κ × V)} {vs : List (κ × Value)} (h : KV kvs vs) : Vals (kvs.map (·.2)) (vs.map (·.2)) := by
  unfold KV at h
  induction h with
  | nil => exact .nil
  | cons h0 _ ih => exact .cons h0.2 ih
theorem pe_listVals (hc : X.calm = true) (hg : Gl X "list") (hm : X.mg "list" = none) (he : PE X o td) (hbase : attributeBase o "values" X.env (eval o X.env) = eval o X.env) (hline : (apos.endLine == cpos.line) = true)
    (hs : starEach [.Call (.Attribute o "values" apos) [] [] cpos] X.env = (false, eval (.Call (.Attribute o "values" apos) [] [] cpos) X.env) :: starEach [] X.env) :
    PE X (.Call (.Name "list" p) [.Call (.Attribute o "values" apos) [] [] cpos] [] pos) (tListVals td) := by
  refine ⟨fun pins s σ H Q I h => ?_⟩
  refine Call_ (ld_blt I hg hm (by decide +kernel : bootBuiltins "list" = some (.type "list")) (PyProof.Rows.callWith_type1 (args_cons ?_ hs) hs rfl))
  refine wpAny_Call_method (T := "dict") (id := "dict.values") hbase rfl hline F.plainAttrs_dict F.slot_dict_values F.type_dict_values (thn (he.run pins s σ H _ I h) fun u s1 ⟨x, H1, I1, rx, d, kvs, ex, hd, q⟩ => ?_)
  subst ex
  obtain rfl : u = Value.ref d := rx
  obtain ⟨hz, lo, vs, kv, dd⟩ := dk_rd I1.hok hd
  obtain ⟨ep, hat⟩ := dd.dictAt
  refine ⟨dd.typeIs, dd.mapOf.noDict, ?_⟩
  have I2 : Inv X pins σ H1 { s1 with heap := s1.heap.push { cls := .type "dict_values", data := .fields #[.ref d] } } := I1.kept (t' := s1.toks) fun b ob q => Heap.get?_push_of_some _ q
  refine method_meetsIn F.slot_dict_values F.entry_dict_values rfl (PySem.evalArgs_none ⟨rfl, dd.typeIs, F.args_dict_values_1 _, _, meets_dict_values (mixKind X.prog X.w) d lo, ⟨vs, dd⟩, ?_⟩)
  refine args_nil ?_
  refine PySem.W.kdl_call (s := { s1 with heap := s1.heap.push { cls := .type "dict_values", data := .fields #[.ref d] } }) (PySem.W.kdl_values (knd := mixKind X.prog X.w) (kvs := vs) (ep := ep) (r := s1.heap.objs.size) (d := d)) (I1.ok.hd hc) ⟨⟨_, Heap.get?_push_size _ rfl, rfl, rfl⟩, hat.push _⟩ (by rw [← Paired.length kv]; exact hz) fun h' tk acc c' hk hD hacc => ?_
  have hv : acc.toList = vs.map (·.2) := PySem.W.kdl_vals_eq acc.toList (by rw [Array.length_toList]; exact hacc.1) fun j v e => hacc.2 j v (by rw [← Array.getElem?_toList]; exact e)
  exact ⟨.ref (s1.heap.push { cls := .type "dict_values", data := .fields #[.ref d] }).objs.size, upd H1 (s1.heap.push { cls := .type "dict_values", data := .fields #[.ref d] }).objs.size (.lst (kvs.map (·.2))), I2.laid (t' := tk) hk (Nat.le_refl _)
    (show ObjOk X.prog X.w _ _ _ (.lst (kvs.map (·.2))) from ⟨by rw [List.length_map]; exact hz, acc.toList, c', by rw [hv]; exact KV.vals kv, by rw [Array.toArray_toList]; exact hD⟩), rfl, q _ (I2.hok.fresh (Nat.le_refl _))⟩
/-- sorted(a source of texts) -/
theorem sorted_src {T : String} {r d : Addr} {n : Nat} {PP : Nat → Value → Prop} {OK : Heap → Prop} {pins : List (Addr × Obj)} {s : Shared} {σ : L2.St} {H : Hp} {QQ : Value → Shared → Prop} {EE : Value → Shared → Prop} {ks : List Str} (I : Inv X pins σ H s) (hcalm : X.calm = true) (K : PySem.W.KdlSrc X.prog X.w T r d n PP OK) (hok : OK s.heap) (hn : n = ks.length) (h64 : ks.length < 64)
    (hP : ∀ j v, PP j v → ∃ k t, ks[j]? = some k ∧ v = Value.str k t)
    (q : ∀ u s' (ys : List Str) (pp : Addr), ys.Perm ks → sortedS ys = true → H pp = none → Inv X pins σ (upd H pp (.lst (ys.map V.str))) s' → RelV (.ref pp) u → QQ u s') : wpAny (model X.prog X.w) X.A (call (.builtin "sorted") [.ref r]) QQ EE s := by
  have h16 : n ≤ sizeLine := by rw [hn, sizeLine_eq]; omega
  refine Calls.call_function_entry PyProof.Rows.kind_sorted PyProof.Rows.plain_sorted PyProof.Rows.entry_sorted (PyProof.Rows.args_sorted1 _) ?_
  unfold Builtin.«sorted»
  refine wpAny_bind (m := checkCount "sorted" 1 1 _) (wpAny_pure ?_)
  refine wpAny_bind (PySem.W.kdu_collect (A := X.A.in1) K (I.ok.hd hcalm) hok h16 fun h' tk acc hk hacc => ?_)
  have hal : acc.toList.length = ks.length := by rw [Array.length_toList, hacc.1, hn]
  have hS : StrsAre acc.toList ks := strs_at hal fun j v e => by
    obtain ⟨k, t, e1, e2⟩ := hP j v (hacc.2 j v (by rw [← Array.getElem?_toList]; exact e))
    exact ⟨k, t, e1, e2⟩
  have I1 : Inv X pins σ H { s with heap := h', toks := tk } := I.kept hk
  refine wpAny_bind (wpAny_newList ?_ (by rw [hal, sizeLine_eq]; omega))
  have hoL : (h'.push (seqObj "list" acc.toList.toArray 0)).get? h'.objs.size = some (seqObj "list" acc.toList.toArray 0) := Heap.get?_push_size _ rfl
  show wpAny _ _ _ _ _ { s with heap := h'.push (seqObj "list" acc.toList.toArray 0), toks := tk }
  refine wpAny_bind (wpAny_holding (wpAny_call_entry PyProof.Rows.slot_list_sort ⟨_, hoL, rfl⟩ PyProof.Rows.entry_list_sort
    (list_sort_treeK strKind_oneLt (s := { s with heap := h'.push (seqObj "list" acc.toList.toArray 0), toks := tk }) hoL hS.keysOf (fun v₁ v₂ rest e => keyKind_strs (by rw [← e]; exact hS)) (by rw [hal]; exact h64) fun st' hp hs => ⟨_, rfl, ?_⟩)
    (PyProof.Rows.args_list_sort _)))
  obtain ⟨ys, g1, g2, g3⟩ := sorted_out_str hS hp hs
  obtain ⟨e', he'⟩ := PyProof.Rows.sortedHeap_at (vs := acc.toList) (out := (arrOf st').map (·.2)) hoL
  have hlen : (ys.map V.str).length ≤ sizeLine := by
    rw [List.length_map, g2.length_eq]
    exact Nat.le_trans (Nat.le_of_lt h64) (by decide)
  refine wpAny_pure ⟨_, rfl, q _ _ ys h'.objs.size g2 g3 (I1.hok.fresh (Nat.le_refl _)) (I1.laid (t' := tk) (fun b u e => ?_) (Nat.le_refl _)
    (show ObjOk X.prog X.w _ _ _ (.lst (ys.map V.str)) from ⟨hlen, ((arrOf st').map (·.2)).toList, e', vals_of_strs g1, by rw [Array.toArray_toList]; exact he'⟩)) rfl⟩
  have hb : b < h'.objs.size := Heap.lt_size e
  rw [PyProof.Rows.sortedHeap_old (Nat.ne_of_lt hb) (by rw [size_push']; exact Nat.lt_succ_of_lt hb)]
  exact Heap.get?_push_of_some _ e
def tSortedKeys (td : TE) : TE := fun σ H Q => td σ H fun v H1 => ∃ (a : Addr) (kvs : List (L2.Key × V)) (ks : List Str), v = .ref a ∧ Rd H1 a (.dK kvs) ∧ kvs.map (·.1) = ks.map Sum.inr ∧ ks.length < 64 ∧ ∀ q, H1 q = none → Q (.ref q) (upd H1 q (.lst ((sortS ks).map V.str)))
theorem pe_sortedKeys (hc : X.calm = true) (hg : Gl X "sorted") (hm : X.mg "sorted" = none) (he : PE X o td) (hbase : attributeBase o "keys" X.env (eval o X.env) = eval o X.env) (hline : (apos.endLine == cpos.line) = true)
    (hs : starEach [.Call (.Attribute o "keys" apos) [] [] cpos] X.env = (false, eval (.Call (.Attribute o "keys" apos) [] [] cpos) X.env) :: starEach [] X.env) :
    PE X (.Call (.Name "sorted" p) [.Call (.Attribute o "keys" apos) [] [] cpos] [] pos) (tSortedKeys td) := by
  refine ⟨fun pins s σ H Q I h => ?_⟩
  refine Call_ (ld_blt I hg hm boot_sorted' (PyProof.Rows.callWith_builtin1 (args_cons ?_ hs) hs rfl))
  refine wpAny_Call_method (T := "dict") (id := "dict.keys") hbase rfl hline F.plainAttrs_dict F.slot_dict_keys F.type_dict_keys (thn (he.run pins s σ H _ I h) fun u s1 ⟨x, H1, I1, rx, d, kvs, ks, ex, hd, hks, h64, q⟩ => ?_)
  subst ex
  obtain rfl : u = Value.ref d := rx
  obtain ⟨hz, lo, vs, kv, dd⟩ := dk_rd I1.hok hd
  obtain ⟨ep, hat⟩ := dd.dictAt
  refine ⟨dd.typeIs, dd.mapOf.noDict, ?_⟩
  have I2 : Inv X pins σ H1 { s1 with heap := s1.heap.push { cls := .type "dict_keys", data := .fields #[.ref d] } } := I1.kept (t' := s1.toks) fun b ob q => Heap.get?_push_of_some _ q
  refine method_meetsIn F.slot_dict_keys F.entry_dict_keys rfl (PySem.evalArgs_none ⟨rfl, dd.typeIs, F.args_dict_keys_1 _, _, PySem.W.kdl_meets_keys (mixKind X.prog X.w) d lo, ⟨vs, dd⟩, ?_⟩)
  refine args_nil ?_
  have hkeys : vs.map (·.1) = ks.map Sum.inr := kv.keys.symm.trans hks
  have hl : vs.length = ks.length := by
    have e := congrArg List.length hkeys
    rw [List.length_map, List.length_map] at e
    exact e
  refine sorted_src (X := X) I2 hc (PySem.W.kdl_keys (knd := mixKind X.prog X.w) (kvs := vs) (ep := ep) (r := s1.heap.objs.size) (d := d)) ⟨⟨_, Heap.get?_push_size _ rfl, rfl, rfl⟩, hat.push _⟩ hl h64 (fun j v ⟨k, x, e1, e2⟩ => ?_) fun u s' ys pp py sy hp J r => ?_
  · have e3 : (vs.map (·.1))[j]? = some k := by rw [List.getElem?_map, e1]; all_goals rfl
    rw [hkeys, List.getElem?_map] at e3
    cases e4 : ks[j]? with
    | none => rw [e4] at e3; cases e3
    | some y =>
      rw [e4] at e3
      have e5 : Sum.inr y = k := Option.some.inj e3
      subst e5
      obtain ⟨t, ev⟩ := Value.isStrOf_shape (x := y) (v := v) e2
      exact ⟨y, t, rfl, ev⟩
  · have := sortS_is py sy
    subst this
    exact ⟨.ref pp, _, J, r, q pp hp⟩
end
section
variable {X : Cx} {env : Env'} {α : Type} [Dat α] {o : Expr} {p pos apos cpos : Pos} {d : Dc α}
theorem repD.seconds {K : PySem.W.Frag} {H : Hp} {ws : List (L2.Key × V)} {kvs : List (Str × α)} (h : repD K H ws kvs) : repL K H (ws.map (·.2)) (kvs.map Prod.snd) := by
  unfold repD at h
  induction h with
  | nil => exact .nil
  | cons h0 _ ih => exact .cons h0.2 ih
/-- list(d.values()) -/
theorem en_listVals (hc : X.calm = true) (hm : X.mg "list" = none) (h : EX X o env d) (hg : Gl X "list" := by rfl) (hbase : attributeBase o "values" X.env (eval o X.env) = eval o X.env := by rfl) (hline : (apos.endLine == cpos.line) = true := by rfl)
    (hs : starEach [.Call (.Attribute o "values" apos) [] [] cpos] X.env = (false, eval (.Call (.Attribute o "values" apos) [] [] cpos) X.env) :: starEach [] X.env := by exact star_plain rfl _ _) :
    EN X (.Call (.Name "list" p) [.Call (.Attribute o "values" apos) [] [] cpos] [] pos) env (OL.mk (d.kvs.map Prod.snd)) := by
  intro O fp σ H S Q q
  refine tE_of fun pins s I => ?_
  refine (pe_listVals hc hg hm (mE X o) hbase hline hs).run pins s σ H Q I ?_
  refine h O fp σ H S _ fun v H1 e1 r1 => ?_
  obtain ⟨ad, ws, rfl, t1, l1⟩ := r1
  refine ⟨ad, ws, rfl, wo_le _ _ trivial t1, fun u hu => ?_⟩
  exact q (.ref u) [u] _ (e1.trans (Ex.new hu)) (fun b hb => by rw [List.mem_singleton.mp hb]; exact e1.free hu) (fun b hb => by rw [List.mem_singleton.mp hb]; exact ⟨_, upd_same⟩) fun Hf le => ⟨u, _, rfl, rfl, upd_same, (repD.seconds l1).mono (Le.trans (le_new hu) le)⟩
/-- sorted(d.keys()) -/
theorem en_sortedK (hc : X.calm = true) (hm : X.mg "sorted" = none) (h : EX X o env d) (hl : d.kvs.length < 64) (hg : Gl X "sorted" := by rfl) (hbase : attributeBase o "keys" X.env (eval o X.env) = eval o X.env := by rfl) (hline : (apos.endLine == cpos.line) = true := by rfl)
    (hs : starEach [.Call (.Attribute o "keys" apos) [] [] cpos] X.env = (false, eval (.Call (.Attribute o "keys" apos) [] [] cpos) X.env) :: starEach [] X.env := by exact star_plain rfl _ _) :
    EN X (.Call (.Name "sorted" p) [.Call (.Attribute o "keys" apos) [] [] cpos] [] pos) env (OL.mk (sortS (d.kvs.map Prod.fst))) := by
  intro O fp σ H S Q q
  refine tE_of fun pins s I => ?_
  refine (pe_sortedKeys hc hg hm (mE X o) hbase hline hs).run pins s σ H Q I ?_
  refine h O fp σ H S _ fun v H1 e1 r1 => ?_
  obtain ⟨ad, ws, rfl, t1, l1⟩ := r1
  refine ⟨ad, ws, d.kvs.map Prod.fst, rfl, wo_le _ _ trivial t1, l1.names, by rw [List.length_map]; exact hl, fun u hu => ?_⟩
  exact q (.ref u) [u] _ (e1.trans (Ex.new hu)) (fun b hb => by rw [List.mem_singleton.mp hb]; exact e1.free hu) (fun b hb => by rw [List.mem_singleton.mp hb]; exact ⟨_, upd_same⟩) fun Hf le => ⟨u, _, rfl, rfl, upd_same, strs_rep _⟩
end
end R
set_option maxHeartbeats 1000000
set_option autoImplicit false
/-! R33: an object of one's own that holds more than one address is changed; slices of tuples -/
namespace R
open PySem PySem.Spec PyProof.Rows L2
section
variable {K : PySem.W.Frag} {O : Addr → Prop} {fp : Nat → List Addr} {env : Env'} {σ : L2.St} {H H' : Hp}
theorem setF_at {i : Nat} {L : List Addr} : setF fp i L i = L := by unfold setF; rw [if_pos rfl]
theorem setF_ne {i j : Nat} {L : List Addr} (h : j ≠ i) : setF fp i L j = fp j := by unfold setF; rw [if_neg h]
theorem chg_le {i : Nat} {L : List Addr} (S : SOk K O fp env σ H) (hk : ∀ b o, H b = some o → b ∉ fp i → H' b = some o) (hL : ∀ b ∈ L, b ∈ fp i ∨ H b = none) : Le (wo H (UU O fp)) (wo H' (UU O (setF fp i L))) := Ex.le fun a o q => by
  obtain ⟨n, q⟩ := wo_some q
  have n1 : a ∉ fp i := fun z => n (.inr ⟨i, z⟩)
  rw [wo_out]
  · exact hk a o q n1
  · rintro (z | ⟨j, z⟩)
    · exact n (.inl z)
    · by_cases e : j = i
      · subst e
        rw [setF_at] at z
        rcases hL a z with y | y
        · exact n1 y
        · rw [q] at y; cases y
      · rw [setF_ne e] at z
        exact n (.inr ⟨j, z⟩)
/-- the object of slot i is changed, with what it holds -/
theorem SOk.chg {β γ : Type} [Own β] [Own γ] (S : SOk K O fp env σ H) {i : Nat} {x : β} {y : γ} {L : List Addr} (hi : env[i]? = some (.own x)) (hk : ∀ b o, H b = some o → b ∉ fp i → H' b = some o) (hL : ∀ b ∈ L, b ∈ fp i ∨ H b = none) (hd : ∀ b ∈ L, ∃ o, H' b = some o)
    (hy : ∀ v, σ[i]? = some (some v) → Own.own K (wo H' (UU O (setF fp i L))) H' v L y) : SOk K O (setF fp i L) (env.set i (.own y)) σ H' := by
  have le := chg_le S hk hL
  exact {
    len := by rw [List.length_set]; exact S.len
    bnd := fun a h => let ⟨o, q⟩ := S.bnd a h; ⟨o, hk a o q fun z => S.fpO i a z h⟩
    fpO := fun j a h => by
      by_cases e : j = i
      · subst e
        rw [setF_at] at h
        rcases hL a h with z | z
        · exact S.fpO j a z
        · intro y
          obtain ⟨o, q⟩ := S.bnd a y
          rw [z] at q; cases q
      · rw [setF_ne e] at h; exact S.fpO j a h
    sep := fun j k a h1 h2 => by
      have key : ∀ m, m ≠ i → a ∈ fp m → a ∈ L → False := fun m hm z1 z2 => by
        rcases hL a z2 with z | z
        · exact hm (S.sep m i a z1 z)
        · obtain ⟨o, q⟩ := S.dom m a z1
          rw [z] at q; cases q
      by_cases e1 : j = i
      · by_cases e2 : k = i
        · rw [e1, e2]
        · rw [e1, setF_at] at h1
          rw [setF_ne e2] at h2
          exact (key k e2 h2 h1).elim
      · rw [setF_ne e1] at h1
        by_cases e2 : k = i
        · rw [e2, setF_at] at h2
          exact (key j e1 h1 h2).elim
        · rw [setF_ne e2] at h2
          exact S.sep j k a h1 h2
    dom := fun j a h => by
      by_cases e : j = i
      · subst e; rw [setF_at] at h; exact hd a h
      · rw [setF_ne e] at h
        obtain ⟨o, q⟩ := S.dom j a h
        exact ⟨o, hk a o q fun z => e (S.sep j i a h z)⟩
    sl := fun j s q => by
      by_cases e : i = j
      · subst e
        have hl : i < env.length := (List.getElem?_eq_some_iff.mp hi).1
        rw [List.getElem?_set_self hl] at q
        cases q
        obtain ⟨v, hv, _⟩ := S.sl i _ hi
        exact ⟨v, hv, by rw [setF_at]; exact hy v hv⟩
      · rw [List.getElem?_set_ne e] at q
        have r := S.sl j s q
        rw [setF_ne fun z => e z.symm]
        cases s with
        | any => exact trivial
        | dat x =>
          obtain ⟨v, h1, h2⟩ := r
          exact ⟨v, h1, Dat.mono le h2⟩
        | own x =>
          obtain ⟨v, h1, h2⟩ := r
          refine ⟨v, h1, Own.frame le (fun a ha => ?_) h2⟩
          obtain ⟨o, q⟩ := S.dom j a ha
          rw [q, hk a o q fun z => e (S.sep i j a z ha)] }
theorem Keep.chg {i : Nat} {L : List Addr} (hk : ∀ b o, H b = some o → b ∉ fp i → H' b = some o) (hL : ∀ b ∈ L, b ∈ fp i ∨ H b = none) : Keep fp H (setF fp i L) H' := ⟨fun a o n h => hk a o h fun z => n ⟨i, z⟩, fun j a h => by
  by_cases e : j = i
  · subst e
    rw [setF_at] at h
    rcases hL a h with z | z
    · exact .inl ⟨j, z⟩
    · exact .inr z
  · rw [setF_ne e] at h
    exact .inl ⟨j, h⟩⟩
end
/-! ### slices of tuples -/
section
variable {X : Cx} {env : Env'} {α : Type} [Dat α] {a e : Expr} {pos p2 : Pos}
theorem ARep.drop {K : PySem.W.Frag} {H : Hp} : ∀ {vs : List V} {xs : List Sl} (n : Nat), ARep K H vs xs → ARep K H (vs.drop n) (xs.drop n)
  | _, _, 0, h => h
  | [], [], n + 1, _ => trivial
  | _ :: _, .dat (i := i) x :: _, n + 1, h => ARep.drop n h.2
  | [], _ :: _, _ + 1, h => by simp [ARep] at h
  | _ :: _, [], _ + 1, h => by simp [ARep] at h
  | _ :: _, .any :: _, _ + 1, h => by simp [ARep] at h
  | _ :: _, .own (i := _) _ :: _, _ + 1, h => by simp [ARep] at h
theorem ARep.take {K : PySem.W.Frag} {H : Hp} : ∀ {vs : List V} {xs : List Sl} (n : Nat), ARep K H vs xs → ARep K H (vs.take n) (xs.take n)
  | [], [], 0, h => trivial
  | _ :: _, _, 0, h => by simp [ARep]
  | [], _ :: _, 0, h => by simp [ARep]
  | [], [], n + 1, _ => trivial
  | _ :: _, .dat (i := i) x :: _, n + 1, h => ⟨h.1, ARep.take n h.2⟩
  | [], _ :: _, _ + 1, h => by simp [ARep] at h
  | _ :: _, [], _ + 1, h => by simp [ARep] at h
  | _ :: _, .any :: _, _ + 1, h => by simp [ARep] at h
  | _ :: _, .own (i := _) _ :: _, _ + 1, h => by simp [ARep] at h
/-- t[lo:hi], not the whole -/
theorem ex_sliceT {τ υ : Type} [Dat τ] [T : Tup τ] [Dat υ] [T' : Tup υ] {p : τ} {q : υ} {lo hi : Option Expr} {l u : Option Int} (h : EX X a env p) (hl : EXO X lo env l) (hu : EXO X hi env u)
    (hw : ¬ (HT.sIx (T.comps p).length 0 l = 0 ∧ HT.sIx (T.comps p).length (T.comps p).length u = (T.comps p).length)) (hq : ((T.comps p).drop (HT.sIx (T.comps p).length 0 l)).take (HT.sIx (T.comps p).length (T.comps p).length u - HT.sIx (T.comps p).length 0 l) = T'.comps q) : EX X (.Subscript a (.Slice lo hi none p2) pos) env q :=
  ex_of (pe_slice sl_tup (mE X a) (mPo X lo) (mPo X hi)) fun O fp σ H S Q k => h O fp σ H S _ fun v1 H1 e1 r1 => hl O fp σ H1 (S.ex e1) _ fun H2 e2 => hu O fp σ H2 ((S.ex e1).ex e2) _ fun H3 e3 => by
    rw [T.is] at r1
    obtain ⟨ad, vs, rfl, t1, l1⟩ := r1
    have ee := e2.trans e3
    have hlen := l1.length
    refine ⟨ad, vs, rfl, wo_le.tup ((wo_ex (U := UU O fp) ee).le.tup t1), by rw [hlen]; exact hw, fun pp hp => ?_⟩
    have e4 : Ex H3 (upd H3 pp (.tup (cutV vs l u))) := Ex.new hp
    refine k _ _ ((e1.trans ee).trans e4) ?_
    rw [T'.is]
    refine ⟨pp, cutV vs l u, rfl, .inl (.inl (upd_out (((S.ex e1).ex ee).fresh hp))), ?_⟩
    rw [← hq]
    have ec : cutV vs l u = (vs.drop (HT.sIx (T.comps p).length 0 l)).take (HT.sIx (T.comps p).length (T.comps p).length u - HT.sIx (T.comps p).length 0 l) := by unfold cutV; rw [hlen]
    have rr := ((l1.mono (wo_ex (ee.trans e4)).le).drop (HT.sIx (T.comps p).length 0 l)).take (HT.sIx (T.comps p).length (T.comps p).length u - HT.sIx (T.comps p).length 0 l)
    rw [← ec] at rr
    exact rr
end
end R
set_option maxHeartbeats 1000000
set_option autoImplicit false
/-! R34: a list of one's own of rows whose dicts are one's own -/
namespace R
open PySem PySem.Spec PyProof.Rows L2
structure OR (α β γ δ ε : Type) where
  l : List (T5 (Dc α) β γ δ ε)
section
variable {α β γ δ ε : Type} [Dat α] [Dat β] [Dat γ] [Dat δ] [Dat ε]
inductive RowsAt (K : PySem.W.Frag) (Hf H : Hp) : List V → List Addr → List (T5 (Dc α) β γ δ ε) → Prop
  | nil : RowsAt K Hf H [] [] []
  | cons {t d : Addr} {v2 v3 v4 v5 : V} {ws : List (L2.Key × V)} {x : T5 (Dc α) β γ δ ε} {vs : List V} {ds : List Addr} {xs : List (T5 (Dc α) β γ δ ε)} : SqT K Hf t [.ref d, v2, v3, v4, v5] → H d = some (.dK ws) → repD K Hf ws x.a.kvs → Dat.rep K Hf v2 x.b → Dat.rep K Hf v3 x.c → Dat.rep K Hf v4 x.d → Dat.rep K Hf v5 x.e → RowsAt K Hf H vs ds xs → RowsAt K Hf H (.ref t :: vs) (d :: ds) (x :: xs)
variable {K : PySem.W.Frag} {Hf Hf' H H' : Hp} {vs : List V} {ds : List Addr} {xs : List (T5 (Dc α) β γ δ ε)}
theorem RowsAt.frame (h : RowsAt K Hf H vs ds xs) (e : Le Hf Hf') (f : ∀ a ∈ ds, H' a = H a) : RowsAt K Hf' H' vs ds xs := by
  induction h with
  | nil => exact .nil
  | cons h1 h2 h3 h4 h5 h6 h7 _ ih =>
    exact .cons (e.tup h1) (by rw [f _ List.mem_cons_self]; exact h2) (h3.mono e) (Dat.mono e h4) (Dat.mono e h5) (Dat.mono e h6) (Dat.mono e h7) (ih fun a ha => f a (List.mem_cons_of_mem _ ha))
theorem RowsAt.len (h : RowsAt K Hf H vs ds xs) : vs.length = xs.length := by
  induction h with
  | nil => rfl
  | cons _ _ _ _ _ _ _ _ ih => rw [List.length_cons, List.length_cons, ih]
theorem RowsAt.there (h : RowsAt K Hf H vs ds xs) : ∀ a ∈ ds, ∃ ws, H a = some (.dK ws) := by
  induction h with
  | nil => intro a z; cases z
  | cons _ h2 _ _ _ _ _ _ ih =>
    intro a z
    rcases List.mem_cons.mp z with e | z
    · rw [e]; exact ⟨_, h2⟩
    · exact ih a z
theorem RowsAt.rep (h : RowsAt K Hf H vs ds xs) (q : ∀ a ∈ ds, Hf a = H a) : repL K Hf vs xs := by
  induction h with
  | nil => exact .nil
  | cons h1 h2 h3 h4 h5 h6 h7 _ ih =>
    exact .cons ⟨_, _, rfl, h1, ⟨_, _, rfl, .inl (by rw [q _ List.mem_cons_self]; exact h2), h3⟩, h4, h5, h6, h7, trivial⟩ (ih fun a ha => q a (List.mem_cons_of_mem _ ha))
theorem RowsAt.app (h : RowsAt K Hf H vs ds xs) {vs2 : List V} {ds2 : List Addr} {xs2 : List (T5 (Dc α) β γ δ ε)} (h2 : RowsAt K Hf H vs2 ds2 xs2) : RowsAt K Hf H (vs ++ vs2) (ds ++ ds2) (xs ++ xs2) := by
  induction h with
  | nil => exact h2
  | cons a b c d e f g _ ih => exact .cons a b c d e f g ih
instance : Own (OR α β γ δ ε) where
  own K Hf H v L x := ∃ a vs ds, v = .ref a ∧ L = a :: ds ∧ L.Nodup ∧ H a = some (.lst vs) ∧ RowsAt K Hf H vs ds x.l
  frame := fun e f ⟨a, vs, ds, h1, h2, h3, h4, h5⟩ => ⟨a, vs, ds, h1, h2, h3, by rw [f a (by rw [h2]; exact List.mem_cons_self)]; exact h4, h5.frame e fun b hb => f b (by rw [h2]; exact List.mem_cons_of_mem _ hb)⟩
theorem own_frzR {v : V} {L : List Addr} (h : Own.own K Hf H v L (OR.mk xs)) (q : ∀ a ∈ L, Hf a = H a) : Dat.rep K Hf v xs := by
  obtain ⟨a, vs, ds, h1, h2, h3, h4, h5⟩ := h
  exact ⟨a, vs, h1, .inl (.inl (by rw [q a (by rw [h2]; exact List.mem_cons_self)]; exact h4)), h5.rep fun b hb => q b (by rw [h2]; exact List.mem_cons_of_mem _ hb)⟩
end
section
variable {X : Cx} {W : WX} {env env' : Env'} {ρ : Type} [Res ρ] {α β γ δ ε : Type} [Dat α] [Dat β] [Dat γ] [Dat δ] [Dat ε] {po : Po ρ} {e a b c : Expr} {es : List Expr} {pos p p2 : Pos} {rest : List Stmt} {st : Stmt} {xs : List (T5 (Dc α) β γ δ ε)}
theorem en_nilR : EN X (.List [] pos) env (OR.mk ([] : List (T5 (Dc α) β γ δ ε))) := by
  intro O fp σ H S Q q
  refine tE_of fun pins s I => ?_
  refine (pe_lst (pa_nil)).run pins s σ H Q I ?_
  refine ⟨Nat.zero_le _, fun u hu => ?_⟩
  exact q (.ref u) [u] _ (Ex.new hu) (fun b hb => by rw [List.mem_singleton.mp hb]; exact hu) (fun b hb => by rw [List.mem_singleton.mp hb]; exact ⟨_, upd_same⟩) fun Hf le => ⟨u, [], [], rfl, rfl, by simp, upd_same, .nil⟩
theorem ex_newR (h : EN X e env (OR.mk xs)) : EX X e env xs := ex_new h fun _ _ _ _ _ => own_frzR
theorem sx_frzR {i : Nat} (hi : env[i]? = some (.own (OR.mk xs))) (h : SX X W rest (env.set i (.dat xs)) po) : SX X W rest env po := fun O fp σ H S D G => h O (setF fp i []) σ H (S.frz hi fun v Hf r q => own_frzR r q) D (G.step Keep.frz')
theorem et_thawR {k : Bool} {i : Nat} (hi : env[i]? = some (.own (OR.mk xs))) (h : ET X e (env.set i (.dat xs)) k) : ET X e env k := fun O fp σ H S Q r => h O (setF fp i []) σ H (S.frz hi fun v Hf r q => own_frzR r q) Q r
theorem SOk.or {O : Addr → Prop} {fp : Nat → List Addr} {σ : L2.St} {H : Hp} {i : Nat} (S : SOk X.K O fp env σ H) (hi : env[i]? = some (.own (OR.mk xs))) : ∃ ad vs ds, σ[i]? = some (some (.ref ad)) ∧ fp i = ad :: ds ∧ (ad :: ds).Nodup ∧ H ad = some (.lst vs) ∧ RowsAt X.K (wo H (UU O fp)) H vs ds xs := by
  obtain ⟨v, h1, ad, vs, ds, h2, h3, h4, h5, h6⟩ := S.sl i _ hi
  subst h2
  exact ⟨ad, vs, ds, h1, h3, by rw [← h3]; exact h4, h5, h6⟩
theorem SOk.hideL {K : PySem.W.Frag} {O : Addr → Prop} {fp : Nat → List Addr} {σ : L2.St} {H H1 : Hp} {L : List Addr} (S : SOk K O fp env σ H) (e : Ex H H1) (hL : ∀ a ∈ L, H a = none) (hd : ∀ a ∈ L, ∃ o, H1 a = some o) : SOk K (fun a => O a ∨ a ∈ L) fp env σ H1 where
  len := S.len
  bnd := fun a h => by
    rcases h with h | h
    · obtain ⟨o, q⟩ := S.bnd a h
      exact ⟨o, e a o q⟩
    · exact hd a h
  fpO := fun i a h z => by
    rcases z with z | z
    · exact S.fpO i a h z
    · obtain ⟨o, q⟩ := S.dom i a h
      rw [hL a z] at q; cases q
  sep := S.sep
  dom := fun i a h => let ⟨o, q⟩ := S.dom i a h; ⟨o, e a o q⟩
  sl := fun i s q => by
    have le : Le (wo H (UU O fp)) (wo H1 (UU (fun a => O a ∨ a ∈ L) fp)) := Ex.le fun a o z => by
      obtain ⟨n, z⟩ := wo_some z
      rw [wo_out]
      · exact e a o z
      · rintro ((y | y) | y)
        · exact n (.inl y)
        · rw [hL a y] at z; cases z
        · exact n (.inr y)
    have r := S.sl i s q
    cases s with
    | any => exact trivial
    | dat x =>
      obtain ⟨v, h1, h2⟩ := r
      exact ⟨v, h1, Dat.mono le h2⟩
    | own x =>
      obtain ⟨v, h1, h2⟩ := r
      refine ⟨v, h1, Own.frame le (fun a ha => ?_) h2⟩
      obtain ⟨o, q⟩ := S.dom i a ha
      rw [q, e a o q]
theorem ne_of_none' {H : Hp} {a b : Addr} {o : HO} (h : H a = none) (h' : H b = some o) : a ≠ b := fun z => by subst z; rw [h] at h'; cases h'
/-- l.append((a new dict, b, c, d, e)) -/
theorem sx_appR {i : Nat} {e0 : Expr} {d : Dc α} {x2 : β} {x3 : γ} {x4 : δ} {x5 : ε} (ps : PS X st (tDrop (tBM X.K "list" rAppend (tVar i) (tCons (tTup (tCons (tE X e0) (tA X es))) tNil)))) (hi : env[i]? = some (.own (OR.mk xs))) (h0 : EN X e0 env (OD.mk d)) (he : EA X es env [.dat x2, .dat x3, .dat x4, .dat x5]) (hz : xs.length < 100000) (h : SX X W rest (env.set i (.own (OR.mk (xs ++ [⟨d, x2, x3, x4, x5⟩])))) po) : SX X W (st :: rest) env po :=
  sx_cons (fun e => e = env.set i (.own (OR.mk (xs ++ [⟨d, x2, x3, x4, x5⟩])))) (s1_of ps fun O fp σ H S D G => by
    obtain ⟨ad, vs, ds, h1, h2, h3, h4, h5⟩ := S.or hi
    refine ⟨.ref ad, h1, .inl ⟨rfl, vs, .inl (.inl h4)⟩, ?_⟩
    refine h0 O fp σ H S _ fun vd L H1 e1 hL hd ow => ?_
    obtain ⟨dd, ws0, hvd, hLd, hdd, _⟩ := ow _ (Le.refl _)
    subst hvd hLd
    have S1 := S.hideL e1 hL hd
    refine he _ fp σ H1 S1 _ fun us H2 e2 ar => ?_
    match us, ar with
    | [u2, u3, u4, u5], ⟨r2, r3, r4, r5, _⟩ =>
    have S2 := S1.ex e2
    refine ⟨by show 5 ≤ sizeLine; decide, fun t ht => ?_⟩
    have e3 : Ex H2 (upd H2 t (.tup [.ref dd, u2, u3, u4, u5])) := Ex.new ht
    have nd : H dd = none := hL dd (List.mem_singleton.mpr rfl)
    have ne : dd ≠ ad := ne_of_none' nd h4
    have e12 := e1.trans (e2.trans e3)
    have ht0 : H t = none := (e1.trans e2).free ht
    have ntd : t ≠ dd := fun z => by
      subst z
      rw [e2 t _ hdd] at ht; cases ht
    have nta : t ≠ ad := ne_of_none' ht0 h4
    refine ⟨ad, vs, .ref t, rfl, rfl, e12 ad _ h4, by rw [h5.len]; exact Nat.lt_of_lt_of_le hz (by decide), ?_⟩
    have hk : ∀ b o, H b = some o → b ∉ fp i → (upd (upd H2 t (.tup [.ref dd, u2, u3, u4, u5])) ad (.lst (vs ++ [.ref t]))) b = some o := fun b o hb nb => by
      rw [upd_ne (fun z => nb (by rw [h2, z]; exact List.mem_cons_self))]
      exact e12 b o hb
    have hLL : ∀ b ∈ ad :: (ds ++ [dd]), b ∈ fp i ∨ H b = none := fun b hb => by
      rcases List.mem_cons.mp hb with z | z
      · exact .inl (by rw [h2, z]; exact List.mem_cons_self)
      · rcases List.mem_append.mp z with z | z
        · exact .inl (by rw [h2]; exact List.mem_cons_of_mem _ z)
        · exact .inr (by rw [List.mem_singleton.mp z]; exact nd)
    refine G.nx _ (setF fp i (ad :: (ds ++ [dd]))) σ _ rfl (Keep.chg hk hLL) (S.chg hi hk hLL (fun b hb => ?_) fun v hv => ?_)
    · by_cases z : b = ad
      · rw [z, upd_same]; exact ⟨_, rfl⟩
      · rw [upd_ne z]
        rcases List.mem_cons.mp hb with y | y
        · exact absurd y z
        · rcases List.mem_append.mp y with y | y
          · obtain ⟨w0, hw⟩ := h5.there b y
            exact ⟨_, e12 b _ hw⟩
          · rw [List.mem_singleton.mp y]
            exact ⟨_, (e2.trans e3) dd _ hdd⟩
    · rw [h1] at hv
      cases hv
      have le := chg_le S hk hLL
      have nout : ∀ b, H b = none → b ≠ dd → ¬ UU O (setF fp i (ad :: (ds ++ [dd]))) b := fun b hb hne z => by
        rcases z with z | ⟨j, z⟩
        · obtain ⟨o, q⟩ := S.bnd b z
          rw [hb] at q; cases q
        · by_cases ej : j = i
          · subst ej
            rw [setF_at] at z
            rcases List.mem_cons.mp z with y | y
            · rw [y, h4] at hb; cases hb
            · rcases List.mem_append.mp y with y | y
              · obtain ⟨w0, hw⟩ := h5.there b y
                rw [hw] at hb; cases hb
              · exact hne (List.mem_singleton.mp y)
          · rw [setF_ne ej] at z
            obtain ⟨o, q⟩ := S.dom j b z
            rw [hb] at q; cases q
      have le2 : Le (wo H2 (UU (fun a => O a ∨ a ∈ [dd]) fp)) (wo (upd (upd H2 t (.tup [.ref dd, u2, u3, u4, u5])) ad (.lst (vs ++ [.ref t]))) (UU O (setF fp i (ad :: (ds ++ [dd]))))) := by
        refine Ex.le fun b o q => ?_
        obtain ⟨n, q⟩ := wo_some q
        have nba : b ≠ ad := fun z => n (.inr ⟨i, by rw [h2, z]; exact List.mem_cons_self⟩)
        rw [wo_out, upd_ne nba]
        · exact e3 b o q
        · rintro (z | ⟨j, z⟩)
          · exact n (.inl (.inl z))
          · by_cases ej : j = i
            · subst ej
              rw [setF_at] at z
              rcases List.mem_cons.mp z with y | y
              · exact nba y
              · rcases List.mem_append.mp y with y | y
                · exact n (.inr ⟨j, by rw [h2]; exact List.mem_cons_of_mem _ y⟩)
                · exact n (.inl (.inr y))
            · rw [setF_ne ej] at z
              exact n (.inr ⟨j, z⟩)
      have le1 : Le (wo H1 (fun a => UU O fp a ∨ a ∈ [dd])) (wo (upd (upd H2 t (.tup [.ref dd, u2, u3, u4, u5])) ad (.lst (vs ++ [.ref t]))) (UU O (setF fp i (ad :: (ds ++ [dd]))))) := by
        refine Le.trans (Ex.le fun b o q => ?_) le2
        obtain ⟨n, q⟩ := wo_some q
        rw [wo_out]
        · exact e2 b o q
        · rintro ((z | z) | z)
          · exact n (.inl (.inl z))
          · exact n (.inr z)
          · exact n (.inl (.inr z))
      obtain ⟨dd', ws, hv', hl', hdw, hrep⟩ := ow _ le1
      cases hv'
      refine ⟨ad, vs ++ [.ref t], ds ++ [dd], rfl, rfl, ?_, upd_same, ?_⟩
      · have h3' := List.nodup_cons.mp h3
        refine List.nodup_cons.mpr ⟨fun z => ?_, ?_⟩
        · rcases List.mem_append.mp z with z | z
          · exact h3'.1 z
          · exact ne (List.mem_singleton.mp z).symm
        · refine List.nodup_append.mpr ⟨h3'.2, by simp, fun x hx y hy z => ?_⟩
          rw [List.mem_singleton] at hy
          subst z hy
          obtain ⟨w0, hw⟩ := h5.there x hx
          rw [nd] at hw; cases hw
      · refine RowsAt.app (h5.frame le fun b hb => ?_) ?_
        · obtain ⟨w0, hw⟩ := h5.there b hb
          have nb : b ≠ ad := fun z => (List.nodup_cons.mp h3).1 (z ▸ hb)
          rw [upd_ne nb, hw]
          exact e12 b _ hw
        · refine .cons (ws := ws) ?_ ?_ hrep (Dat.mono le2 r2) (Dat.mono le2 r3) (Dat.mono le2 r4) (Dat.mono le2 r5) .nil
          · refine .inl (.inl ?_)
            rw [wo_out (nout t ht0 ntd), upd_ne nta, upd_same]
          · rw [upd_ne ne]
            exact (e2.trans e3) dd _ hdw) fun e he => by subst he; exact h
theorem sx_clearR {i : Nat} (ps : PS X st (tDrop (tBM0 X.K "list" rClear (tVar i)))) (hi : env[i]? = some (.own (OR.mk xs))) (h : SX X W rest (env.set i (.own (OR.mk ([] : List (T5 (Dc α) β γ δ ε))))) po) : SX X W (st :: rest) env po :=
  sx_step ps (fun O fp σ H S D q => by
    obtain ⟨ad, vs, ds, h1, h2, h3, h4, h5⟩ := S.or hi
    refine ⟨.ref ad, h1, .inl ⟨rfl, vs, .inl (.inl h4)⟩, ad, vs, rfl, rfl, h4, ?_⟩
    have hk : ∀ b o, H b = some o → b ∉ fp i → (upd H ad (.lst [])) b = some o := fun b o hb nb => by
      rw [upd_ne (fun z => nb (by rw [h2, z]; exact List.mem_cons_self))]
      exact hb
    have hL : ∀ b ∈ [ad], b ∈ fp i ∨ H b = none := fun b hb => .inl (by rw [List.mem_singleton.mp hb, h2]; exact List.mem_cons_self)
    refine q (setF fp i [ad]) σ _ (Keep.chg hk hL) (S.chg hi hk hL (fun b hb => by rw [List.mem_singleton.mp hb]; exact ⟨_, upd_same⟩) fun v hv => ?_)
    rw [h1] at hv
    cases hv
    exact ⟨ad, [], [], rfl, rfl, by simp, upd_same, .nil⟩) h
def clr (x : T5 (Dc α) β γ δ ε) : T5 (Dc α) β γ δ ε := { x with a := ⟨[]⟩ }
def clN : Nat → List (T5 (Dc α) β γ δ ε) → List (T5 (Dc α) β γ δ ε)
  | 0, xs => xs
  | _ + 1, [] => []
  | n + 1, x :: r => clr x :: clN n r
theorem clN_len : ∀ (n : Nat) (xs : List (T5 (Dc α) β γ δ ε)), (clN n xs).length = xs.length
  | 0, _ => rfl
  | _ + 1, [] => rfl
  | n + 1, x :: r => by show (clr x :: clN n r).length = _; rw [List.length_cons, clN_len n r, List.length_cons]
theorem clN_all : ∀ (xs : List (T5 (Dc α) β γ δ ε)), clN xs.length xs = xs.map clr
  | [] => rfl
  | x :: r => by show clr x :: clN r.length r = _; rw [clN_all r]; rfl
theorem RowsAt.clear {K : PySem.W.Frag} {Hf H : Hp} : ∀ (n : Nat) {vs : List V} {ds : List Addr} {xs : List (T5 (Dc α) β γ δ ε)}, RowsAt K Hf H vs ds (clN n xs) → ds.Nodup → n < xs.length → ∃ t d v2 v3 v4 v5 ws, vs[n]? = some (.ref t) ∧ d ∈ ds ∧ SqT K Hf t [.ref d, v2, v3, v4, v5] ∧ H d = some (.dK ws) ∧ RowsAt K Hf (upd H d (.dK [])) vs ds (clN (n + 1) xs)
  | 0, vs, ds, [], h, nd, hn => absurd hn (by simp)
  | n + 1, vs, ds, [], h, nd, hn => absurd hn (by simp)
  | 0, vs, ds, x :: r, h, nd, _ => by
    have h : RowsAt K Hf H vs ds (x :: r) := h
    cases h with
    | cons h1 h2 h3 h4 h5 h6 h7 h8 =>
      exact ⟨_, _, _, _, _, _, _, rfl, List.mem_cons_self, h1, h2, .cons (ws := []) h1 upd_same .nil h4 h5 h6 h7 (h8.frame (Le.refl _) fun a ha => upd_ne fun z => (List.nodup_cons.mp nd).1 (z ▸ ha))⟩
  | n + 1, vs, ds, x :: r, h, nd, hn => by
    have h : RowsAt K Hf H vs ds (clr x :: clN n r) := h
    cases h with
    | cons h1 h2 h3 h4 h5 h6 h7 h8 =>
      obtain ⟨t, d, v2, v3, v4, v5, ws, g1, g2, g3, g4, g5⟩ := RowsAt.clear n h8 (List.nodup_cons.mp nd).2 (by simpa using hn)
      refine ⟨t, d, v2, v3, v4, v5, ws, by simpa using g1, List.mem_cons_of_mem _ g2, g3, g4, .cons h1 ?_ h3 h4 h5 h6 h7 g5⟩
      rw [upd_ne fun z => (List.nodup_cons.mp nd).1 (by rw [z]; exact g2)]
      exact h2
theorem setF_self {fp : Nat → List Addr} {k : Nat} : setF fp k (fp k) = fp := by
  funext j
  unfold setF
  split
  · rename_i h; rw [h]
  · rfl
/-- for x in rows: x[0].clear() -/
theorem sx_clearRows {k j : Nat} (ps : PS X st (tFor (iList X.K (tVar k)) (gName j) (tDrop (tBM0 X.K "dict" rDClear (tOp (rIxT X.K) (tVar j) (tC (.int 0))))))) (hi : env[k]? = some (.own (OR.mk xs))) (hkj : k ≠ j) (hj : j < env.length) (h : SX X W rest ((env.set j .any).set k (.own (OR.mk (xs.map clr)))) po) : SX X W (st :: rest) env po :=
  sx_step ps (fun O fp σ H S D q => by
    obtain ⟨ad, vs, ds, h1, h2, h3, h4, h5⟩ := S.or hi
    have hlen := h5.len
    refine ⟨.ref ad, h1, ad, rfl, ⟨vs, .inl (.inl h4)⟩, fun i m σ' H' => m = xs.length - i ∧ i ≤ xs.length ∧ Keep fp H fp H' ∧ σ'[k]? = some (some (.ref ad)) ∧ H' ad = some (.lst vs) ∧ SOk X.K O fp ((env.set j .any).set k (.own (OR.mk (clN i xs)))) σ' H', ⟨xs.length, rfl, Nat.zero_le _, Keep.refl, h1, h4, ?_⟩, ?_⟩
    · refine S.sub ?_
      have e1 : (env.set j .any).set k (.own (OR.mk (clN 0 xs))) = env.set j .any := by
        apply List.ext_getElem?
        intro n
        by_cases e : k = n
        · subst e
          have hl : k < env.length := (List.getElem?_eq_some_iff.mp hi).1
          rw [List.getElem?_set_self (by rw [List.length_set]; exact hl), List.getElem?_set_ne (fun z => hkj z.symm), hi]
          rfl
        · rw [List.getElem?_set_ne e]
      rw [e1]
      have : ∀ (env : Env') (j : Nat), Sub env (env.set j .any) := by
        intro env
        induction env with
        | nil => intro j; exact trivial
        | cons s r ih =>
          intro j
          cases j with
          | zero => exact ⟨.inl rfl, Sub.refl _⟩
          | succ j => exact ⟨.inr rfl, ih j⟩
      exact this env j
    · rintro i m σ1 H1 ⟨rfl, hle, k1, g1, g2, S1⟩
      have hl1 : k < (env.set j .any).length := by rw [List.length_set]; exact (List.getElem?_eq_some_iff.mp hi).1
      have hi1 : ((env.set j Sl.any).set k (.own (OR.mk (clN i xs))))[k]? = some (.own (OR.mk (clN i xs))) := List.getElem?_set_self hl1
      obtain ⟨ad', vs', ds', f1, f2, f3, f4, f5⟩ := S1.or hi1
      rw [g1] at f1
      cases f1
      rw [g2] at f4
      cases f4
      by_cases hlt : i < xs.length
      · obtain ⟨t, d, v2, v3, v4, v5, ws, e1, e2, e3, e4, e5⟩ := RowsAt.clear i f5 (List.nodup_cons.mp f3).2 hlt
        refine .inr ⟨⟨vs, .ref t, .inl (.inl g2), e1⟩, fun σ' H' => i + 1 ≤ xs.length ∧ Keep fp H fp H' ∧ σ'[k]? = some (some (.ref ad)) ∧ H' ad = some (.lst vs) ∧ SOk X.K O fp ((env.set j .any).set k (.own (OR.mk (clN (i + 1) xs)))) σ' H', fun σ' H' hh => ⟨xs.length - (i + 1), by omega, rfl, hh⟩, fun x H' ⟨y1, y2⟩ => ?_⟩
        have y1' := y1.symm
        subst y1'
        have y3 := y2 vs (.inl (.inl g2))
        rw [e1] at y3
        cases y3
        have S2 : SOk X.K O fp (((env.set j .any).set k (.own (OR.mk (clN i xs)))).set j .any) (σ1.set j (some (.ref t))) H1 := S1.forget j
        have sj : (σ1.set j (some (V.ref t)))[j]? = some (some (.ref t)) := List.getElem?_set_self (by rw [S1.len, List.length_set, List.length_set]; exact hj)
        have sk : (σ1.set j (some (V.ref t)))[k]? = some (some (.ref ad)) := by rw [List.getElem?_set_ne (fun z => hkj z.symm)]; exact g1
        have ee : (((env.set j Sl.any).set k (.own (OR.mk (clN i xs)))).set j .any) = (env.set j .any).set k (.own (OR.mk (clN i xs))) := by
          apply List.ext_getElem?
          intro n
          by_cases e : j = n
          · subst e
            rw [List.getElem?_set_self (by rw [List.length_set, List.length_set]; exact hj), List.getElem?_set_ne hkj, List.getElem?_set_self hj]
          · rw [List.getElem?_set_ne e]
        rw [ee] at S2
        show tDrop _ _ (σ1.set j (some (.ref t))) H1
        have hdk : d ∈ fp k := by rw [f2]; exact List.mem_cons_of_mem _ e2
        have nda : d ≠ ad := fun z => (List.nodup_cons.mp f3).1 (z ▸ e2)
        refine ⟨.ref t, sj, t, [.ref d, v2, v3, v4, v5], 0, .ref d, rfl, rfl, wo_le.tup e3, rfl, .inr (.inr (.inl ⟨rfl, .inl ⟨ws, e4⟩⟩)), d, ws, rfl, rfl, e4, ?_⟩
        have hk : ∀ b o, H1 b = some o → b ∉ fp k → (upd H1 d (.dK [])) b = some o := fun b o hb nb => by
          rw [upd_ne (fun z => nb (by rw [z]; exact hdk))]
          exact hb
        have hL : ∀ b ∈ fp k, b ∈ fp k ∨ H1 b = none := fun b hb => .inl hb
        have kk := Keep.chg (fp := fp) (i := k) hk hL
        rw [setF_self] at kk
        refine ⟨hlt, k1.trans kk, sk, by rw [upd_ne (Ne.symm nda)]; exact g2, ?_⟩
        have hi2 : ((env.set j Sl.any).set k (.own (OR.mk (clN i xs))))[k]? = some (.own (OR.mk (clN i xs))) := hi1
        have S3 := S2.chg (y := OR.mk (clN (i + 1) xs)) (L := fp k) hi2 hk hL (fun b hb => ?_) fun v hv => ?_
        · rw [setF_self, List.set_set] at S3
          exact S3
        · by_cases z : b = d
          · rw [z, upd_same]; exact ⟨_, rfl⟩
          · obtain ⟨o, qo⟩ := S1.dom k b hb
            rw [upd_ne z]; exact ⟨o, qo⟩
        · rw [sk] at hv
          cases hv
          rw [setF_self, wo_upd_in (.inr ⟨k, hdk⟩)]
          exact ⟨ad, vs, ds', rfl, f2, by rw [f2]; exact f3, by rw [upd_ne (Ne.symm nda)]; exact g2, e5⟩
      · have e : i = xs.length := by omega
        subst e
        refine .inl ⟨⟨vs, .inl (.inl g2), by rw [hlen]; exact Nat.le_refl _⟩, ?_⟩
        rw [clN_all] at S1
        exact q fp σ1 H1 k1 S1) h
end
end R
set_option maxHeartbeats 1000000
set_option autoImplicit false
/-! R35: sorted(d, reverse=True) of a dict of texts; tuple(list) of four -/
namespace R
open PySem PySem.Spec PyProof.Rows L2
section
variable {prog : Program} {w : World} {A : Around} {s : Shared}
def ltSv (v u : Value) : Bool := decide ((strOf v).cps.toList < (strOf u).cps.toList)
theorem swo_str : SrtO.Swo ltSv := by
  refine ⟨fun x y h => ?_, fun x y z h1 h2 => ?_⟩
  · have a : (strOf x).cps.toList < (strOf y).cps.toList := of_decide_eq_true h
    exact decide_eq_false (List.lt_asymm a)
  · have a : ¬ (strOf y).cps.toList < (strOf x).cps.toList := of_decide_eq_false h1
    have b : ¬ (strOf z).cps.toList < (strOf y).cps.toList := of_decide_eq_false h2
    refine decide_eq_false (p := (strOf z).cps.toList < (strOf x).cps.toList) ?_
    exact List.not_lt.mpr (List.le_trans (List.not_lt.mp a) (List.not_lt.mp b))
theorem str_cmp {vs : List Value} {ss : List Str} (hS : StrsAre vs ss) : SrtO.Cmp prog w A s oneType' (fun p => p.1 ∈ vs) (SrtO.lt2 ltSv) := by
  intro p q hm hm'
  obtain ⟨a, t, e⟩ := hS.all _ hm
  obtain ⟨b, u, e'⟩ := hS.all _ hm'
  show wpAny (model prog w) A (keyLt' oneType' p.1 q.1) (fun r s' => s' = s ∧ r = ltSv p.1 q.1) (fun _ _ => False) s
  rw [e, e', keyLt'_oneType]
  exact oneLt_str ⟨rfl, rfl⟩
theorem strs_sortable {a : Addr} {vs : List Value} {ss : List Str} (hS : StrsAre vs ss) (h2 : 2 ≤ vs.length) : SrtO.SortableO prog w A s a vs ltSv := by
  intro h' _
  refine ⟨oneType', fun Q E hq => ?_, str_cmp hS⟩
  match vs, hS, h2 with
  | v1 :: v2 :: rest, hS, _ =>
    rw [keyKind_strs hS]
    exact wpAny_pure hq
  | [], _, h => exact absurd h (by decide)
  | [v], _, h => exact absurd h (by simp)
theorem strs_rev : ∀ {vs : List Value} {ss : List Str}, StrsAre vs ss → StrsAre vs.reverse ss.reverse := fun {vs ss} h => by
  have e : vs.reverse.map strOf = ss.reverse := by rw [List.map_reverse, h.strs]
  rw [← e]
  exact strsAre_map _ fun v hv => h.all v (List.mem_reverse.mp hv)
theorem strs_out {vs out : List Value} {ss : List Str} (hS : StrsAre vs ss) (hs : SrtO.Srtd ltSv out) (hb : SrtO.Stb ltSv out vs.reverse) : StrsAre out.reverse (sortS ss).reverse := by
  have h1 : StrsAre out (out.map strOf) := strsAre_map _ fun v hv => hS.all v (List.mem_reverse.mp (hb.perm.mem_iff.mp hv))
  have h2 : (out.map strOf).Perm ss := by
    have q := hb.perm.map strOf
    rw [List.map_reverse, hS.strs] at q
    exact q.trans (List.reverse_perm ss)
  have h3 : (out.map strOf).Pairwise (fun a b => leS a b = true) := List.pairwise_map.mpr (hs.imp fun {x y} h => by
    rw [leS_iff]
    have : ¬ (strOf y).cps.toList < (strOf x).cps.toList := of_decide_eq_false h
    exact List.not_lt.mp this)
  have h4 : out.map strOf = sortS ss := srt_eq (h2.trans (sortS_perm ss).symm) h3 (sortS_pw ss)
  rw [← h4]
  exact strs_rev h1
end
section
variable {X : Cx} {o : Expr} {td : TE} {p pos apos cpos : Pos}
/-- sorted(a source of texts, reverse=True) -/
theorem sortedR_src {T : String} {r d : Addr} {n : Nat} {PP : Nat → Value → Prop} {OK : Heap → Prop} {pins : List (Addr × Obj)} {s : Shared} {σ : L2.St} {H : Hp} {QQ : Value → Shared → Prop} {EE : Value → Shared → Prop} {ks : List Str} (I : Inv X pins σ H s) (hcalm : X.calm = true) (K : PySem.W.KdlSrc X.prog X.w T r d n PP OK) (hok : OK s.heap) (hn : n = ks.length) (h64 : ks.length < 64)
    (hP : ∀ j v, PP j v → ∃ k t, ks[j]? = some k ∧ v = Value.str k t)
    (q : ∀ u s' (pp : Addr), H pp = none → Inv X pins σ (upd H pp (.lst ((sortS ks).reverse.map V.str))) s' → RelV (.ref pp) u → QQ u s') : wpAny (model X.prog X.w) X.A (call (.builtin "sorted") [.ref r] [(Str.ofString "reverse", .bool true)]) QQ EE s := by
  have h16 : n ≤ sizeLine := by rw [hn, sizeLine_eq]; omega
  refine call_function_entry_kw PyProof.Rows.kind_sorted PyProof.Rows.plain_sorted PyProof.Rows.entry_sorted (PyProof.Rows.args_sorted_rev _ _) ?_
  unfold Builtin.«sorted»
  refine wpAny_bind (m := checkCount "sorted" 1 1 _) (wpAny_pure ?_)
  refine wpAny_bind (PySem.W.kdu_collect (A := X.A.in1) K (I.ok.hd hcalm) hok h16 fun h' tk acc hk hacc => ?_)
  have hal : acc.toList.length = ks.length := by rw [Array.length_toList, hacc.1, hn]
  have hS : StrsAre acc.toList ks := strs_at hal fun j v e => by
    obtain ⟨k, t, e1, e2⟩ := hP j v (hacc.2 j v (by rw [← Array.getElem?_toList]; exact e))
    exact ⟨k, t, e1, e2⟩
  have I1 : Inv X pins σ H { s with heap := h', toks := tk } := I.kept hk
  refine wpAny_bind (wpAny_newList ?_ (by rw [hal, sizeLine_eq]; omega))
  have hoL : (h'.push (seqObj "list" acc.toList.toArray 0)).get? h'.objs.size = some (seqObj "list" acc.toList.toArray 0) := Heap.get?_push_size _ rfl
  show wpAny _ _ _ _ _ { s with heap := h'.push (seqObj "list" acc.toList.toArray 0), toks := tk }
  refine wpAny_bind (wpAny_holding (wpAny_call_entry_kw PyProof.Rows.slot_list_sort ⟨_, hoL, rfl⟩ PyProof.Rows.entry_list_sort ?_ (PyProof.Rows.args_list_sort_rev _ _)))
  refine SrtR.list_sort_ordR (b := true) (s := { s with heap := h'.push (seqObj "list" acc.toList.toArray 0), toks := tk }) swo_str hoL (by rw [hal, sizeLine_eq]; omega) (fun h2 => strs_sortable hS h2) fun out hs hb => ⟨_, rfl, ?_⟩
  have g1 : StrsAre (out.toArray.reverse).toList (sortS ks).reverse := by
    rw [Array.toList_reverse]
    exact strs_out hS hs hb
  obtain ⟨e', he'⟩ := PyProof.Rows.sortedHeap_at (vs := acc.toList) (out := out.toArray.reverse) hoL
  have hlen : ((sortS ks).reverse.map V.str).length ≤ sizeLine := by
    rw [List.length_map, List.length_reverse, sortS_len]
    exact Nat.le_trans (Nat.le_of_lt h64) (by decide)
  refine wpAny_pure ⟨_, rfl, q _ _ h'.objs.size (I1.hok.fresh (Nat.le_refl _)) (I1.laid (t' := tk) (fun b u e => ?_) (Nat.le_refl _)
    (show ObjOk X.prog X.w _ _ _ (.lst ((sortS ks).reverse.map V.str)) from ⟨hlen, (out.toArray.reverse).toList, e', vals_of_strs g1, by rw [Array.toArray_toList]; exact he'⟩)) rfl⟩
  have hb : b < h'.objs.size := Heap.lt_size e
  show (PyProof.Rows.sortedHeap _ _ _ _).get? b = _
  rw [PyProof.Rows.sortedHeap_old (Nat.ne_of_lt hb) (by rw [size_push']; exact Nat.lt_succ_of_lt hb)]
  exact Heap.get?_push_of_some _ e
def rSortedDR : List V → List V → Hp → VK → Prop := fun xs zs H Q => ∃ (a : Addr) (kvs : List (L2.Key × V)) (ks : List Str), xs = [.ref a] ∧ zs = [.bl true] ∧ Rd H a (.dK kvs) ∧ kvs.map (·.1) = ks.map Sum.inr ∧ ks.length < 64 ∧ ∀ q, H q = none → Q (.ref q) (upd H q (.lst ((sortS ks).reverse.map V.str)))
theorem call_sortedDR (hcalm : X.calm = true) : CallRK X (.builtin "sorted") [Str.ofString "reverse"] rSortedDR := by
  intro pins s σ H vs zs us ws Q I r rz h
  obtain ⟨a, kvs, ks, rfl, rfl, hd, hks, h64, q⟩ := h
  obtain rfl := Vals.ref1 r
  obtain ⟨w1, rfl, e1⟩ := vals1 rz
  obtain rfl : w1 = Value.bool true := e1
  obtain ⟨hz, lo, vs, kv, dd⟩ := dk_rd I.hok hd
  obtain ⟨ep, hat⟩ := dd.dictAt
  have hkeys : vs.map (·.1) = ks.map Sum.inr := kv.keys.symm.trans hks
  have hl : vs.length = ks.length := by
    have e := congrArg List.length hkeys
    rw [List.length_map, List.length_map] at e
    exact e
  refine sortedR_src I hcalm (PySem.W.kdl_dict (knd := mixKind X.prog X.w) (kvs := vs) (ep := ep) lo) hat hl h64 (fun j v ⟨k, x, e1, e2⟩ => ?_) fun u s' pp hp J rr => ⟨.ref pp, _, J, rr, q pp hp⟩
  have e3 : (vs.map (·.1))[j]? = some k := by rw [List.getElem?_map, e1]; all_goals rfl
  rw [hkeys, List.getElem?_map] at e3
  cases e4 : ks[j]? with
  | none => rw [e4] at e3; cases e3
  | some y =>
    rw [e4] at e3
    have e5 : Sum.inr y = k := Option.some.inj e3
    subst e5
    obtain ⟨t, ev⟩ := Value.isStrOf_shape (x := y) (v := v) e2
    exact ⟨y, t, rfl, ev⟩
end
section
variable {X : Cx} {env : Env'} {α : Type} [Dat α] {a e : Expr} {p pos kp cp : Pos} {d : Dc α} {xs : List α} {j : Nat}
theorem back_cons {t : Sem Value} {ts : List (Bool × Sem Value)} : backTo pos ((false, t) :: ts) = (false, t) :: backTo pos ts := rfl
/-- sorted(d, reverse=True) -/
theorem en_sortedDR (hc : X.calm = true) (hm : X.mg "sorted" = none) (h : EX X a env d) (hl : d.kvs.length < 64) (hg : Gl X "sorted" := by rfl) (hp : plainE a = true := by rfl) :
    EN X (.Call (.Name "sorted" p) [a] [⟨some "reverse", .Constant (.bool true) j cp, kp⟩] pos) env (OL.mk (sortS (d.kvs.map Prod.fst)).reverse) := by
  intro O fp σ H S Q q
  refine tE_of fun pins s I => ?_
  have h2 : backTo pos (starEach [a] X.env) = (false, eval a X.env) :: backTo pos (starEach [] X.env) := by rw [star_plain hp, back_cons]
  have hpl : (backTo pos (starEach [a] X.env)).any (·.1) = false := star_pl (by simp [hp])
  refine (pe_callBK (call_sortedDR hc) hg hm boot_sorted' (pa_cons (mE X a) pa_nil (star_plain hp _ _)) (pk_cons pe_bl pk_nil) (by decide) (by decide) h2 hpl).run pins s σ H Q I ?_
  refine h O fp σ H S _ fun v H1 e1 r1 => ?_
  obtain ⟨ad, ws, rfl, t1, l1⟩ := r1
  refine ⟨ad, ws, d.kvs.map Prod.fst, rfl, rfl, wo_le _ _ trivial t1, l1.names, by rw [List.length_map]; exact hl, fun u hu => ?_⟩
  exact q (.ref u) [u] _ (e1.trans (Ex.new hu)) (fun b hb => by rw [List.mem_singleton.mp hb]; exact e1.free hu) (fun b hb => by rw [List.mem_singleton.mp hb]; exact ⟨_, upd_same⟩) fun Hf le => ⟨u, _, rfl, rfl, upd_same, strs_rep _⟩
theorem list4 {τ : Type} : ∀ {xs : List τ}, xs.length = 4 → ∃ a b c d, xs = [a, b, c, d]
  | [a, b, c, d], _ => ⟨a, b, c, d, rfl⟩
  | [], h => by simp at h
  | [_], h => by simp at h
  | [_, _], h => by simp at h
  | [_, _, _], h => by simp at h
  | _ :: _ :: _ :: _ :: _ :: _, h => by simp at h
theorem rep4 {K : PySem.W.Frag} {H : Hp} {vs : List V} {x1 x2 x3 x4 : α} (h : repL K H vs [x1, x2, x3, x4]) : ∃ v1 v2 v3 v4, vs = [v1, v2, v3, v4] ∧ Dat.rep K H v1 x1 ∧ Dat.rep K H v2 x2 ∧ Dat.rep K H v3 x3 ∧ Dat.rep K H v4 x4 := by
  obtain ⟨v1, v2, v3, v4, rfl⟩ := list4 (Paired.length h)
  obtain ⟨a, e1, r1⟩ := h.get (i := 0) rfl
  obtain ⟨b, e2, r2⟩ := h.get (i := 1) rfl
  obtain ⟨c, e3, r3⟩ := h.get (i := 2) rfl
  obtain ⟨d, e4, r4⟩ := h.get (i := 3) rfl
  cases e1; cases e2; cases e3; cases e4
  exact ⟨v1, v2, v3, v4, rfl, r1, r2, r3, r4⟩
/-- tuple(xs), four of a kind -/
theorem ex_tup4 {d0 : α} (hm : X.mg "tuple" = none) (h : EX X a env xs) (hl : xs.length = 4) (he : starEach [a] X.env = (false, eval a X.env) :: starEach [] X.env := by exact star_plain rfl _ _) (hpl : (backTo pos (starEach [] X.env)).any (·.1) = false := by exact star_pl rfl) (hg : Gl X "tuple" := by rfl) :
    EX X (.Call (.Name "tuple" p) [a] [] pos) env (⟨xs.getD 0 d0, xs.getD 1 d0, xs.getD 2 d0, xs.getD 3 d0⟩ : T4 α α α α) := by
  obtain ⟨x1, x2, x3, x4, rfl⟩ := list4 hl
  show EX X _ env (⟨x1, x2, x3, x4⟩ : T4 α α α α)
  refine ex_callTy call_tuple_of hm (by decide +kernel) (ea1 h he) (rc1 fun U v H bn r1 Q q => ?_) hg (by decide) (by decide) he hpl
  obtain ⟨ad, vs, rfl, t1, l1⟩ := r1
  obtain ⟨v1, v2, v3, v4, rfl, g1, g2, g3, g4⟩ := rep4 l1
  refine ⟨ad, _, rfl, .inl ⟨wo_le.lst t1, fun u hu => ?_⟩⟩
  have nu : ¬ U u := fun z => by
    obtain ⟨o, qq⟩ := bn u z
    rw [hu] at qq; cases qq
  have le : Le (wo H U) (wo (upd H u (.tup [v1, v2, v3, v4])) U) := (wo_ex (Ex.new hu)).le
  refine q _ _ (Ex.new hu) ?_
  refine ⟨u, _, rfl, .inl (.inl (upd_out nu)), ?_⟩
  exact ⟨Dat.mono le g1, Dat.mono le g2, Dat.mono le g3, Dat.mono le g4, trivial⟩
end
end R
set_option maxHeartbeats 1000000
set_option autoImplicit false
/-! R36: enumerate of a text -/
namespace PySem
section
variable {pg : Program} {wd : World} {Z : Around} {E : Value → Shared → Prop} {st : Shared}
theorem rq_enum_endD {e it0 : Addr} {fp : List Addr} {n : Nat} {P : Nat → Value → Prop} {St : Nat → Heap → Prop} {c : Int} {old : Value} {Q : Option Value → Shared → Prop} (D : ∀ A : Around, A.handled = none → Draws pg wd A it0 fp n P St) (noh : Z.handled = none) (en : IsEnum st.heap e it0 c old) (h0 : St n st.heap)
    (fin : ∀ h', Heap.ExtBut it0 st.heap h' → Q none { st with heap := h' }) : wpAny (model pg wd) Z (pyNext (.ref e)) Q E st := by
  have ty : st.TypeIs (.ref e) "enumerate" := ⟨_, en, rfl⟩
  unfold pyNext
  refine wpAny_bind (wpAny_attempt (wpAny_callSpecial?_slot (name := Str.ofString "__next__") ty F.slot_enumerate_next (wpAny_call_entry F.slot_enumerate_next ty F.entry_enumerate_next ?_ (F.args_enumerate_next_1 _))))
  show wpAny _ _ (field (.ref e) 2 >>= _) _ _ _
  refine wpAny_bind (wpAny_field en rfl (x := .ref it0) rfl ?_)
  refine wpAny_bind ((D _ (by simpa using noh)).done st _ _ h0 fun h' e2 x ⟨o, o1, o2⟩ => ?_)
  exact wpAny_bind (wpAny_isInstance (T := "StopIteration") (b := true) ⟨o, o1, o2⟩ isSubtype_stop (wpAny_pure (fin _ x)))
end
end PySem
namespace R
open PySem PySem.Spec PyProof.Rows L2
/-- the signs of a text, each in a new pair with its number -/
def Itse (x : Str) : It := ⟨fun i _ => i < x.cps.size, fun i H v H' => ∃ (T : Addr) (c : Nat), v = .ref T ∧ H T = none ∧ H' = upd H T (.tup [.int (i : Nat), .str ⟨#[c]⟩]) ∧ x.cps[i]? = some c, fun i _ => x.cps.size ≤ i⟩
theorem turn_enumS {P : Program} {w : World} {K : PySem.W.Frag} {elts : List Expr} {kk : Nat} {tpos : Pos} {e it : Addr} (x : Str) (t : Tok) :
    Turn P w K (.Tuple elts kk tpos) (Itse x) [e, it] e (fun i h => (∃ old, IsEnum h e it ((i : Nat) : Int) old) ∧ h.IsStrIter it (strIterType x) x t i ∧ e ≠ it ∧ i ≤ x.cps.size) where
  mem := by simp
  obj := fun i h st b hb => by
    obtain ⟨⟨old, he⟩, ⟨oi, ho, _, hd⟩, _⟩ := st
    rcases (by simpa using hb : b = e ∨ b = it) with z | z
    · rw [z]; exact ⟨_, he, fun v q => nomatch q⟩
    · rw [z]; exact ⟨oi, ho, fun v q => by rw [hd] at q; cases q⟩
  keep := fun i h h' st k => ⟨st.1.imp fun old he => k e (by simp) _ he, (let ⟨o, ho, r⟩ := st.2.1; ⟨o, k it (by simp) o ho, r⟩), st.2.2⟩
  item := by
    intro X hP hw hK hc i pins s σ H E I hf st hg
    subst hP hw hK
    obtain ⟨⟨old, he⟩, hit, hne, hsz⟩ := st
    have hi : i < x.cps.size := hg
    have e_lt : e < s.heap.objs.size := Heap.lt_size he
    have i_lt : it < s.heap.objs.size := by obtain ⟨_, q, _⟩ := hit; exact Heap.lt_size q
    refine wpAny_pyNext_enum_itemD (n := x.cps.size) (Draws.text (A := X.A.in1) (I.ok.hd hc) it x t) he hit hi hne (by simp [hne]) fun v h' tk ⟨c, u, hcx, hv⟩ ho hit' hT hsz2 hk => ?_
    subst hv
    refine ⟨_, rfl, wpAny_letOwnedTupleGo_enum (s := { s with heap := h', toks := tk + 1 }) ho fun h'' he' sb => ?_⟩
    have hT2 : h''.get? s.heap.objs.size = some { cls := .type "tuple", data := .seq #[.int i tk, .str ⟨#[c]⟩ u] } := (sb.2 _ (Nat.ne_of_gt e_lt)).trans hT
    have new : ObjOk X.prog X.w (upd H s.heap.objs.size (.tup [.int (i : Nat), .str ⟨#[c]⟩])) h'' s.heap.objs.size (.tup [.int (i : Nat), .str ⟨#[c]⟩]) :=
      ⟨by show 2 ≤ sizeLine; decide, [.int i tk, .str ⟨#[c]⟩ u], .cons ⟨_, rfl⟩ (.cons ⟨_, rfl⟩ .nil), ⟨_, hT2, rfl, _, rfl⟩⟩
    have I1 : Inv X pins σ (upd H s.heap.objs.size (.tup [.int (i : Nat), .str ⟨#[c]⟩])) { s with heap := h'', toks := tk + 1 } :=
      I.turnedNew (ch := [e, it]) (fun b ob hb q => (sb.2 b (fun z => hb (by simp [z]))).trans (hk b ob (fun z => hb (by simp [z])) (fun z => hb (by simp [z])) q)) hf (Nat.le_refl _) new
    refine ⟨.ref s.heap.objs.size, _, I1, rfl, ⟨_, c, rfl, I.hok.fresh (Nat.le_refl _), rfl, hcx⟩, ⟨⟨.str ⟨#[c]⟩ u, ?_⟩, ?_, hne, hi⟩, fun b hb => ?_⟩
    · rw [show ((i + 1 : Nat) : Int) = (i : Int) + 1 by omega]; exact he'
    · obtain ⟨o, q, r⟩ := hit'
      exact ⟨o, (sb.2 it (Ne.symm hne)).trans q, r⟩
    · have hb' : b < s.heap.objs.size := by
        rcases (by simpa using hb : b = e ∨ b = it) with z | z
        · rw [z]; exact e_lt
        · rw [z]; exact i_lt
      rw [upd_ne (Nat.ne_of_lt hb')]
      exact (hf b hb).1
  done := by
    intro X hP hw hK hc i pins s σ H E I hf st hg
    subst hP hw hK
    obtain ⟨⟨old, he⟩, hit, hne, hsz⟩ := st
    have hi : x.cps.size ≤ i := hg
    obtain ⟨f0, f1, f2, f3, f4, f5⟩ := hf it (by simp)
    have hle : i = x.cps.size := Nat.le_antisymm hsz hi
    subst hle
    exact rq_enum_endD (fun A hA => Draws.text hA it x t) (I.ok.hd hc) he hit fun h' eb => ⟨rfl, I.turned (t' := s.toks) (fun b ob hb q => eb b ob (by simpa using hb) q) f0 f1 f3 f4 f5⟩
  self := fun A i s Q E st h => wpAny_pyIter_enum st.1.choose_spec h
def iEnumS (ta : TA) : TI := fun σ H R => ta σ H fun vs H1 => ∃ x : Str, vs = [.str x] ∧ R (Itse x) H1
theorem pi_enumS {X : Cx} {e : Expr} {ta : TA} {p pos tpos : Pos} {elts : List Expr} {kk : Nat} (hg : Gl X "enumerate") (hm : X.mg "enumerate" = none) (ha : PA X [e] ta) (hs : starEach [e] X.env = [(false, eval e X.env)] := by exact star_plain rfl _ _) :
    PI X (.Tuple elts kk tpos) (.Call (.Name "enumerate" p) [e] [] pos) (iEnumS ta) := by
  refine ⟨fun pins s σ H R I h => Call_ (ld_blt I hg hm boot_enumerate (PyProof.Rows.callWith_type1 (thn (ha.run pos pins s σ H _ I h) fun us s1 ⟨vs, H1, I1, r1, q1⟩ => ?_) hs rfl))⟩
  obtain ⟨x, ex, q⟩ := q1
  subst ex
  obtain ⟨u, rfl, rx⟩ := vals1 r1
  obtain ⟨t, rfl⟩ := rx
  refine rq_enum1 (begins_text x t) trivial fun h' en it1 hk => wpAny_pyIter_enum en ?_
  have I2 : Inv X pins σ H1 { s1 with heap := h' } := I1.kept (t' := s1.toks) hk
  refine ⟨s1.heap.objs.size + 1, [s1.heap.objs.size + 1, s1.heap.objs.size], _, _, H1, rfl, I2, turn_enumS (e := s1.heap.objs.size + 1) (it := s1.heap.objs.size) x t, ⟨⟨.none, en⟩, ⟨_, it1, rfl, rfl⟩, Nat.succ_ne_self _, Nat.zero_le _⟩, fun b hb => ?_, q⟩
  have hle : s1.heap.objs.size ≤ b := by
    rcases (by simpa using hb : b = s1.heap.objs.size + 1 ∨ b = s1.heap.objs.size) with z | z
    · rw [z]; exact Nat.le_add_right _ _
    · rw [z]; exact Nat.le_refl _
  exact I1.fpOk hle (I1.hok.fresh hle)
section
variable {X : Cx} {env : Env'} {e : Expr} {elts : List Expr} {kk : Nat} {p pos tpos : Pos} {x : Str}
theorem ix_enumS (hm : X.mg "enumerate" = none) (h : EX X e env x) (hg : Gl X "enumerate" := by rfl) (hs : starEach [e] X.env = [(false, eval e X.env)] := by exact star_plain rfl _ _) : IX X (.Tuple elts kk tpos) (.Call (.Name "enumerate" p) [e] [] pos) env (enumI (signs x)) :=
  ix_of (pi_enumS hg hm (mA X _) hs) fun O fp σ H S R r => ea1 h hs O fp σ H S _ fun vs H1 e1 ar => by
    match vs, ar with
    | [v], ⟨h1, _⟩ =>
      have h1 : v = .str x := h1
      subst h1
      refine ⟨x, rfl, r _ H1 e1 fun H' U' bn ex i => ⟨fun y hy => ?_, fun hi => (show x.cps.size ≤ i by unfold enumI signs at hi; simpa using hi)⟩⟩
      unfold enumI signs at hy
      rw [List.getElem?_mapIdx, List.getElem?_map] at hy
      cases hc : x.cps.toList[i]? with
      | none => rw [hc] at hy; cases hy
      | some c =>
        rw [hc] at hy
        have hy : ((i : Int), (⟨#[c]⟩ : Str)) = y := Option.some.inj hy
        subst hy
        rw [Array.getElem?_toList] at hc
        refine ⟨(Array.getElem?_eq_some_iff.mp hc).1, fun u H'' ⟨T, c', q1, q2, q3, g⟩ => ?_⟩
        rw [hc] at g
        cases g
        subst q1 q3
        exact ⟨Ex.new q2, new_rep bn q2 rfl rfl⟩
end
end R
set_option maxHeartbeats 1000000
set_option autoImplicit false
/-! R37: a loop over a fraction's pair -/
namespace R
open PySem PySem.Spec PyProof.Rows L2
section
variable {X : Cx} {env : Env'} {tg iter : Expr}
theorem ix_pair {q : Rat} (h : EX X iter env q) : IX X tg iter env [q.num, (q.den : Int)] := ix_of (pi_tup (mE X iter)) fun O fp σ H S R r => h O fp σ H S _ fun v H1 e1 rp => by
  obtain ⟨ad, vs, e, l, rl⟩ := rp
  have ev : vs = [.int q.num, .int (q.den : Int)] := by
    match vs, rl with
    | [], rl => simp [ARep] at rl
    | [_], rl => simp [ARep] at rl
    | [a, b], ⟨ra, rb, _⟩ => rw [show a = V.int q.num from ra, show b = V.int (q.den : Int) from rb]
    | _ :: _ :: _ :: _, ⟨_, _, rl⟩ => simp [ARep] at rl
  subst ev
  refine ⟨ad, e, ⟨_, wo_le.tup l⟩, r _ H1 e1 fun H' U' bn ex i => ⟨fun x hx => ?_, fun hi => ?_⟩⟩
  · have l' : SqT X.K H' ad [.int q.num, .int (q.den : Int)] := wo_le.tup (ex.le.tup l)
    have hv : ([V.int q.num, V.int (q.den : Int)] : List V)[i]? = some (V.int x) := by
      match i, hx with
      | 0, hx => rw [← Option.some.inj (show some q.num = some x from hx)]; rfl
      | 1, hx => rw [← Option.some.inj (show some ((q.den : Int)) = some x from hx)]; rfl
      | _ + 2, hx => cases (show (none : Option Int) = some x from hx)
    refine ⟨⟨_, V.int x, l', hv⟩, fun u H'' ⟨q1, q2⟩ => ?_⟩
    subst q1
    have := q2 _ l'
    rw [hv] at this
    cases this
    exact ⟨Ex.refl _, rfl⟩
  · exact ⟨_, wo_le.tup (ex.le.tup l), hi⟩
end
end R
set_option maxHeartbeats 1000000
set_option autoImplicit false
/-! R38: a row of one's own (a tuple of five that begins with a dict of one's own) -/
namespace R
open PySem PySem.Spec PyProof.Rows L2
structure O5 (α β γ δ ε : Type) where
  p : T5 (Dc α) β γ δ ε
section
variable {α β γ δ ε : Type} [Dat α] [Dat β] [Dat γ] [Dat δ] [Dat ε]
instance : Own (O5 α β γ δ ε) where
  own K Hf H v L x := ∃ t d v2 v3 v4 v5 ws, v = .ref t ∧ SqT K Hf t [.ref d, v2, v3, v4, v5] ∧ L = [d] ∧ H d = some (.dK ws) ∧ repD K Hf ws x.p.a.kvs ∧ Dat.rep K Hf v2 x.p.b ∧ Dat.rep K Hf v3 x.p.c ∧ Dat.rep K Hf v4 x.p.d ∧ Dat.rep K Hf v5 x.p.e
  frame := fun e f ⟨t, d, v2, v3, v4, v5, ws, h1, h2, h3, h4, h5, h6, h7, h8, h9⟩ => ⟨t, d, v2, v3, v4, v5, ws, h1, e.tup h2, h3, by rw [f d (by rw [h3]; exact List.mem_singleton.mpr rfl)]; exact h4, h5.mono e, Dat.mono e h6, Dat.mono e h7, Dat.mono e h8, Dat.mono e h9⟩
instance [NoMut α] [NoMut β] [NoMut γ] [NoMut δ] [NoMut ε] : OwnNM (O5 α β γ δ ε) := ⟨fun K Hf Hf' H v L x h ⟨t, d, v2, v3, v4, v5, ws, h1, h2, h3, h4, h5, h6, h7, h8, h9⟩ => ⟨t, d, v2, v3, v4, v5, ws, h1, cut_tup h h2, h3, h4, Paired.imp h5 fun _ _ q => ⟨q.1, NoMut.cut K Hf Hf' _ _ h q.2⟩, NoMut.cut K Hf Hf' _ _ h h6, NoMut.cut K Hf Hf' _ _ h h7, NoMut.cut K Hf Hf' _ _ h h8, NoMut.cut K Hf Hf' _ _ h h9⟩⟩
theorem own_frz5 {K : PySem.W.Frag} {Hf H : Hp} {v : V} {L : List Addr} {x : T5 (Dc α) β γ δ ε} (h : Own.own K Hf H v L (O5.mk x)) (q : ∀ a ∈ L, Hf a = H a) : Dat.rep K Hf v x := by
  obtain ⟨t, d, v2, v3, v4, v5, ws, h1, h2, h3, h4, h5, h6, h7, h8, h9⟩ := h
  exact ⟨t, [.ref d, v2, v3, v4, v5], h1, h2, ⟨d, ws, rfl, .inl (by rw [q d (by rw [h3]; exact List.mem_singleton.mpr rfl)]; exact h4), h5⟩, h6, h7, h8, h9, trivial⟩
end
section
variable {X : Cx} {W : WX} {env env' : Env'} {ρ α β γ δ ε : Type} [Res ρ] [Dat α] [Dat β] [Dat γ] [Dat δ] [Dat ε] {po : Po ρ} {e a b c b2 b3 b4 b5 : Expr} {es : List Expr} {pos p p2 tpos : Pos} {rest : List Stmt} {x : T5 (Dc α) β γ δ ε} {y2 : β} {y3 : γ} {y4 : δ} {y5 : ε}
theorem sx_frz5 {i : Nat} (hi : env[i]? = some (.own (O5.mk x))) (h : SX X W rest (env.set i (.dat x)) po) : SX X W rest env po := fun O fp σ H S D G => h O (setF fp i []) σ H (S.frz hi fun v Hf r q => own_frz5 r q) D (G.step Keep.frz')
theorem ex_new5 (h : EN X e env (O5.mk x)) : EX X e env x := ex_new h fun _ _ _ _ _ => own_frz5
theorem sx_ret5 {d : Dc α} {i : Nat} {n : Str} {j : Nat} {po : Po (O5 α β γ δ ε)} (h : env[i]? = some (.own (OD.mk d))) (he : EA X [b2, b3, b4, b5] env [.dat y2, .dat y3, .dat y4, .dat y5]) (hR : po.R (O5.mk ⟨d, y2, y3, y4, y5⟩) env) (hN : X.N[i]? = some n := by rfl) (hv : Vis X.env.scope n := by first | exact Or.inl rfl | exact Or.inr (Or.inl rfl) | exact Or.inr (Or.inr rfl)) (hd : (n == ("__debug__" : Str)) = false := by decide) (hc : (n == ("__classdict__" : Str)) = false := by decide)
    (hs : starEach [.Name n p, b2, b3, b4, b5] X.env = (false, eval (.Name n p) X.env) :: starEach [b2, b3, b4, b5] X.env := by exact star_plain rfl _ _) : SX X W [.Return (some (.Tuple [.Name n p, b2, b3, b4, b5] j tpos)) pos] env po :=
  sx_of (pss_one (ps_ret (mE X _))) fun O fp σ H S D G => by
    obtain ⟨ad, ws, h1, h2, h3, h4⟩ := S.od h
    refine tE_of fun pins s I => (pe_tup (pa_cons (pe_var hN hv hd hc) (mA X [b2, b3, b4, b5]) hs)).run pins s σ H _ I ⟨.ref ad, h1, ?_⟩
    refine he O fp σ H S _ fun vs H1 e1 r1 => ?_
    match vs, r1 with
    | [], r1 => simp [ARep] at r1
    | [_], r1 => simp [ARep] at r1
    | [_, _], r1 => simp [ARep] at r1
    | [_, _, _], r1 => simp [ARep] at r1
    | _ :: _ :: _ :: _ :: _ :: _, ⟨_, _, _, _, r1⟩ => simp [ARep] at r1
    | [v2, v3, v4, v5], ⟨r2, r3, r4, r5, _⟩ =>
      refine ⟨show 5 ≤ sizeLine from by decide, fun t ht => ?_⟩
      have S1 := S.ex e1
      have nt := S1.fresh ht
      have e2 : Ex H1 (upd H1 t (.tup [.ref ad, v2, v3, v4, v5])) := Ex.new ht
      have le := (wo_ex (U := UU O fp) (e1.trans e2)).le
      have l2 := (wo_ex (U := UU O fp) e2).le
      refine G.rt _ env fp σ _ _ hR (Keep.ex (e1.trans e2)) (S1.ex e2) ⟨[ad], fun a ha => ⟨i, by rw [h2]; exact ha⟩, t, ad, v2, v3, v4, v5, ws, rfl, .inl (.inl (upd_out nt)), rfl, (e1.trans e2) ad _ h3, h4.mono le, Dat.mono l2 r2, Dat.mono l2 r3, Dat.mono l2 r4, Dat.mono l2 r5⟩
end
/-- what is one's own may be taken as data -/
theorem DefOk.frz5 {α β γ δ ε : Type} [Dat α] [Dat β] [Dat γ] [Dat δ] [Dat ε] {P : Program} {w : World} {K : PySem.W.Frag} {mg : Str → Option Value} {base : Heap} {n : Str} {k m : Nat} {ps : List Str} {dvs : List V} {Φ : Phi (O5 α β γ δ ε)} (d : DefOk P w K mg base n k ps dvs (spP K mg m Φ)) : DefOk P w K mg base n k ps dvs (spP K mg m (fun args Rp Xp => Φ args (fun z => Rp z.p) Xp : Phi (T5 (Dc α) β γ δ ε))) := by
  obtain ⟨f, fd, ds, F, r⟩ := d.ex
  refine ⟨f, fd, ds, F.imp ?_, r⟩
  intro vs H Q E ⟨h1, O, args, Rp, Xp, h2, S, h3, h4⟩
  refine ⟨h1, O, args, _, Xp, h2, S, fun z v H' hz e ⟨L, g1, g2, g3⟩ => h3 z.p v H' hz e ?_, h4⟩
  have hO : ∀ a ∈ L, ¬ O a := fun a ha ho => by
    obtain ⟨o, q⟩ := S.bnd a ho
    rw [g1 a ha] at q
    cases q
  exact own_frz5 (Own.frame (wo_mono fun a z => .inl z).le (fun _ _ => rfl) g3) fun a ha => wo_out (hO a ha)
section
variable {P : Program} {w : World} {K : PySem.W.Frag} {mg : Str → Option Value} {base : Heap} {ρ : Type} [Res ρ]
/-- a def that has defaults -/
theorem fn_okD {x qual : Str} {dvs : List V} {st : Stmt} {f : Addr} {fd : FuncData} {N ps : List Str} {k n : Nat} {Φ : Phi ρ} (F : FunD K x qual (defArgs st) (defBody st) (defScope st) dvs [] f fd) (S : FnScope N ps (defScope st)) (hn : ps.length = n)
    (hb : ∀ (args : Env') (Rp : ρ → Prop) (Xp : Exn → Prop), Φ args Rp Xp → args.length = n → ∀ (cdv : Value) (A : Around) (outer : List PySem.Env) (s : Shared) (H : Hp) (E : XK) (W : WX), Room k (A.deeper (envOfC qual (defScope st) s.heap.objs.size f cdv)) → Takes (cxX P w K mg base N qual (defScope st) f cdv A outer s H E) W →
      SX (cxX P w K mg base N qual (defScope st) f cdv A outer s H E) W (defBody st) (args ++ List.replicate (N.length - n) .any) { N := fun _ => ∃ r, Rp r ∧ ∀ O H H', Res.out K O H H' .non r, R := fun r _ => Rp r, X := fun e _ => Xp e }) :
    FnOk P w K mg base (L2.CX P w) (k + 1) f fd ps (spP K mg n Φ) := by
  refine F.ok (CX := L2.CX P w) S (fun vs H Q E h => h.1.trans hn.symm) fun cdv A outer s H vs Q E hr h => ?_
  obtain ⟨hl, O, args, Rp, Xp, ph, SS, hq, he⟩ := h
  have hlen : args.length = n := by
    have := SS.len
    rw [List.length_map] at this
    omega
  refine ⟨tSs _ _, mSs _ _, ?_⟩
  have tk : Takes (cxOf (L2.CX P w) P w K mg base N qual (defScope st) f cdv A outer s H E) (fun cls d _ H => E cls d H) := takes_of rfl rfl rfl rfl
  refine hb args Rp Xp ph hlen cdv A outer s H E (fun cls d _ H => E cls d H) hr tk O nofp _ H ?_ _ ?_
  · have := SS.pad (N.length - n)
    rw [show L2.start N vs = vs.map some ++ List.replicate (N.length - n) none from by unfold L2.start; rw [hl]]
    exact this
  · refine ⟨fun e fp' σ' H' ⟨r, h1, h2⟩ kp S' => ?_, fun r e fp' σ' v H' h1 kp S' rp => ?_, fun x e fp' σ' cls d H' h1 kp S' xa => ?_, fun _ _ _ _ h => h.elim, fun _ _ _ _ h => h.elim⟩
    · exact hq r .non H' h1 kp.ex_of (h2 _ _ _)
    · exact hq r v H' h1 kp.ex_of (Res.conv (fun a ⟨i, z⟩ => (kp.2 i a z).elim (fun ⟨j, y⟩ => by cases y) id) (fun a ⟨i, z⟩ => S'.dom i a z) rp)
    · refine he x cls d H' h1 kp.ex_of ?_
      have le : Ex (wo H' (UU O fp')) (wo H' O) := wo_mono fun a z => .inl z
      cases x with
      | one c => exact xa
      | clash ns ws =>
        obtain ⟨m, dx, v1, v2, a, b, c, d⟩ := xa
        exact ⟨m, dx, v1, v2, a, le _ _ b, Dat.mono le.le c, Dat.mono le.le d⟩
      | stuck y ns ws =>
        obtain ⟨m, dx, v0, v1, v2, a, b, b', c, d⟩ := xa
        exact ⟨m, dx, v0, v1, v2, a, le _ _ b, Dat.mono le.le b', Dat.mono le.le c, Dat.mono le.le d⟩
end
theorem hu64m {A : Around} {k : Nat} {h : Option Value} (hr : Room k A) : (A.mark h).units + 64 < cLine := hr.units
end R
set_option maxHeartbeats 1000000
set_option autoImplicit false
/-! R39: what may be a bool, None or a fraction; a key of two kinds in a dict -/
namespace R
open PySem PySem.Spec PyProof.Rows L2
def Dc.hasK {α : Type} (d : Dc α) : Key → Bool
  | .inr s => d.has s
  | .inl _ => false
theorem repD.noInt {α : Type} [Dat α] {K : PySem.W.Frag} {H : Hp} : ∀ {ws : List (Key × V)} {kvs : List (Str × α)}, repD K H ws kvs → ∀ i : Int, valV ws (.inl i : Key) = Option.none
  | _, _, .nil, i => rfl
  | (k1, v) :: ws, (k2, x) :: kvs, .cons h t, i => by
    obtain ⟨h1, h2⟩ := h
    have h1 : k1 = .inr k2 := h1
    subst h1
    have ih := repD.noInt t i
    unfold valV at *
    rw [List.find?_cons]
    have e1 : decide ((Sum.inr k2 : Key) = Sum.inl i) = false := decide_eq_false (fun z => by cases z)
    simp only [e1]
    exact ih
/-- a bool, None or a fraction -/
inductive Ans where
  | b (x : Bool)
  | n
  | q (r : Rat)
def repA (K : PySem.W.Frag) (H : Hp) (v : V) : Ans → Prop
  | .b x => v = .bl x
  | .n => v = .non
  | .q r => Dat.rep K H v r
instance : Dat Ans := ⟨repA, fun {K H H' v x} e h => by
  cases x with
  | b x => exact h
  | n => exact h
  | q r => exact Dat.mono (α := Rat) e h⟩
instance : NoMut Ans := ⟨fun K Hf Hf' v x h r => by
  cases x with
  | b x => exact r
  | n => exact r
  | q r' => exact NoMut.cut (α := Rat) K Hf Hf' _ _ h r⟩
def Ans.isT : Ans → Bool
  | .b x => x
  | _ => false
def Ans.isQ : Ans → Bool
  | .q _ => true
  | _ => false
def Ans.val : Ans → Rat
  | .q r => r
  | _ => 0
section
variable {X : Cx}
theorem op_isTrue {b : Bool} : OpR X (compareOp .Is) (fun x y H Q => y = .bl b ∧ (x = .non ∨ (∃ a, x = .bl a) ∨ ∃ a, x = .ref a) ∧ Q (.bl (decide (x = .bl b))) H) := by
  intro pins s σ H x y v u Q I rx ry h
  obtain ⟨rfl, hx, q⟩ := h
  cases (show u = Value.bool b from ry)
  rcases hx with rfl | ⟨a, rfl⟩ | ⟨a, rfl⟩
  · cases (show v = Value.none from rx)
    exact wpAny_is_other rfl (fun z => by cases z) ⟨.bl false, H, I, rfl, by simpa using q⟩
  · cases (show v = Value.bool a from rx)
    by_cases e : a = b
    · subst e
      exact wpAny_is_self rfl ⟨.bl true, H, I, rfl, by simpa using q⟩
    · exact wpAny_is_other rfl (fun z => e (Value.bool.inj z)) ⟨.bl false, H, I, rfl, by simpa [e] using q⟩
  · cases (show v = Value.ref a from rx)
    exact wpAny_is_other rfl (fun z => by cases z) ⟨.bl false, H, I, rfl, by simpa using q⟩
theorem op_isNotTrue {b : Bool} : OpR X (compareOp .IsNot) (fun x y H Q => y = .bl b ∧ (x = .non ∨ (∃ a, x = .bl a) ∨ ∃ a, x = .ref a) ∧ Q (.bl (!decide (x = .bl b))) H) := by
  intro pins s σ H x y v u Q I rx ry h
  obtain ⟨rfl, hx, q⟩ := h
  cases (show u = Value.bool b from ry)
  rcases hx with rfl | ⟨a, rfl⟩ | ⟨a, rfl⟩
  · cases (show v = Value.none from rx)
    exact wpAny_isNot_other rfl (fun z => by cases z) ⟨.bl true, H, I, rfl, by simpa using q⟩
  · cases (show v = Value.bool a from rx)
    by_cases e : a = b
    · subst e
      exact wpAny_isNot_self rfl ⟨.bl false, H, I, rfl, by simpa using q⟩
    · exact wpAny_isNot_other rfl (fun z => e (Value.bool.inj z)) ⟨.bl true, H, I, rfl, by simpa [e] using q⟩
  · cases (show v = Value.ref a from rx)
    exact wpAny_isNot_other rfl (fun z => by cases z) ⟨.bl true, H, I, rfl, by simpa using q⟩
end
theorem ans_shape {K : PySem.W.Frag} {H : Hp} {v : V} {x : Ans} (h : Dat.rep K H v x) : (v = .non ∨ (∃ a, v = .bl a) ∨ ∃ a, v = .ref a) ∧ decide (v = V.bl true) = x.isT := by
  cases x with
  | b x =>
    have h : v = .bl x := h
    subst h
    exact ⟨.inr (.inl ⟨x, rfl⟩), by cases x <;> decide⟩
  | n =>
    have h : v = .non := h
    subst h
    exact ⟨.inl rfl, by decide⟩
  | q r =>
    obtain ⟨a, vs, e, _⟩ := h
    subst e
    exact ⟨.inr (.inr ⟨a, rfl⟩), decide_eq_false (fun z => by cases z)⟩
section
variable {X : Cx} {env : Env'} {a b e o : Expr} {pos p : Pos} {x : Ans} {α : Type} [Dat α] {j : Nat}
theorem ex_ansB {y : Bool} (h : EX X e env y) : EX X e env (Ans.b y) := fun O fp σ H S Q q => h O fp σ H S Q fun v H' e1 r => q v H' e1 r
theorem ex_ansN (h : EX X e env ()) : EX X e env Ans.n := fun O fp σ H S Q q => h O fp σ H S Q fun v H' e1 r => q v H' e1 r
theorem ex_ansQ {r : Rat} (h : EX X e env r) : EX X e env (Ans.q r) := fun O fp σ H S Q q => h O fp σ H S Q fun v H' e1 r => q v H' e1 r
theorem ex_ofAns (h : EX X e env x) (g : x.isQ = true) : EX X e env x.val := by
  cases x with
  | q r => exact fun O fp σ H S Q q => h O fp σ H S Q fun v H' e1 r => q v H' e1 r
  | b _ => cases g
  | n => cases g
theorem ex_isT (h : EX X a env x) (hb : EX X b env true) (hm : behindInMarks .Is b = false := by rfl) : EX X (.Compare a [.Is] [b] pos) env x.isT := ex_cmp (op_isTrue (b := true)) h hb (fun U v1 v2 H _ r1 r2 Q q => ⟨r2, (ans_shape r1).1, q _ H (Ex.refl H) (by rw [(ans_shape r1).2]; rfl)⟩) hm
theorem et_isT (h : EX X a env x) (hb : EX X b env true) (hm : behindInMarks .Is b = false := by rfl) : ET X (.Compare a [.Is] [b] pos) env x.isT := et_cmp (op_isTrue (b := true)) h hb (fun U v1 v2 H _ r1 r2 Q q => ⟨r2, (ans_shape r1).1, q _ H (Ex.refl H) (by rw [(ans_shape r1).2]; rfl)⟩) hm
theorem ex_isNotT (h : EX X a env x) (hb : EX X b env true) (hm : behindInMarks .IsNot b = false := by rfl) : EX X (.Compare a [.IsNot] [b] pos) env (!x.isT) := ex_cmp (op_isNotTrue (b := true)) h hb (fun U v1 v2 H _ r1 r2 Q q => ⟨r2, (ans_shape r1).1, q _ H (Ex.refl H) (by rw [(ans_shape r1).2]; rfl)⟩) hm
theorem et_isNotT (h : EX X a env x) (hb : EX X b env true) (hm : behindInMarks .IsNot b = false := by rfl) : ET X (.Compare a [.IsNot] [b] pos) env (!x.isT) := et_cmp (op_isNotTrue (b := true)) h hb (fun U v1 v2 H _ r1 r2 Q q => ⟨r2, (ans_shape r1).1, q _ H (Ex.refl H) (by rw [(ans_shape r1).2]; rfl)⟩) hm
theorem ex_dinK {d : Dc α} {k : Key} (hu : X.A.units + 1 < cLine) (hk : EX X a env k) (ho : EX X o env d) (hm : behindInMarks .In o = false := by rfl) : EX X (.Compare a [.In] [o] pos) env (d.hasK k) := by
  cases k with
  | inr s => exact ex_din hu (ex_ofKey hk rfl) ho hm
  | inl i =>
    exact ex_of (pe_cmp (pc_din hu (mE X a) (mE X o)) hm) fun O fp σ H S Q q => hk O fp σ H S _ fun v2 H1 e1 r2 => ho O fp σ H1 (S.ex e1) _ fun v1 H2 e2 r1 => by
      obtain ⟨ad, ws, h1, h2, h3⟩ := r1
      have r2 : v2 = .int i := r2
      subst h1 r2
      refine ⟨ad, valV ws (.inl i), rfl, .inl ⟨ws, .inl i, wo_le _ _ trivial h2, rfl, rfl⟩, q _ H2 (e1.trans e2) ?_⟩
      rw [repD.noInt h3 i]
      rfl
theorem et_dinK {d : Dc α} {k : Key} (hu : X.A.units + 1 < cLine) (hk : EX X a env k) (ho : EX X o env d) (hm : behindInMarks .In o = false := by rfl) : ET X (.Compare a [.In] [o] pos) env (d.hasK k) := by
  cases k with
  | inr s => exact et_din hu (ex_ofKey hk rfl) ho hm
  | inl i =>
    exact et_of (pt_cmp (pc_din hu (mE X a) (mE X o)) hm) fun O fp σ H S Q q => hk O fp σ H S _ fun v2 H1 e1 r2 => ho O fp σ H1 (S.ex e1) _ fun v1 H2 e2 r1 => by
      obtain ⟨ad, ws, h1, h2, h3⟩ := r1
      have r2 : v2 = .int i := r2
      subst h1 r2
      refine ⟨ad, valV ws (.inl i), rfl, .inl ⟨ws, .inl i, wo_le _ _ trivial h2, rfl, rfl⟩, _, rfl, ?_⟩
      refine EvT.go (q H2 (e1.trans e2)) ?_
      rw [repD.noInt h3 i]
      rfl
end
end R
set_option maxHeartbeats 1000000
set_option autoImplicit false
/-! R40: a list of four of different kinds -/
namespace R
open PySem PySem.Spec PyProof.Rows L2 RQ1
structure L4 (α β γ δ : Type) where
  a : α
  b : β
  c : γ
  d : δ
section
variable {α β γ δ : Type} [Dat α] [Dat β] [Dat γ] [Dat δ]
def repL4 (K : PySem.W.Frag) (H : Hp) (v : V) (x : L4 α β γ δ) : Prop := ∃ a vs, v = .ref a ∧ SqL K H a vs ∧ ARep K H vs [.dat x.a, .dat x.b, .dat x.c, .dat x.d]
instance : Dat (L4 α β γ δ) := ⟨repL4, fun {K H H' v x} e h => let ⟨a, vs, h0, t, r⟩ := h; ⟨a, vs, h0, e.lst t, r.mono e⟩⟩
variable {X : Cx} {env : Env'} {e a b : Expr} {es : List Expr} {pos p : Pos} {x1 : α} {x2 : β} {x3 : γ} {x4 : δ} {x : L4 α β γ δ} {j : Nat}
theorem ex_lst4 (h : EA X es env [.dat x1, .dat x2, .dat x3, .dat x4]) : EX X (.List es pos) env (⟨x1, x2, x3, x4⟩ : L4 α β γ δ) := fun O fp σ H S Q q => by
  refine tE_of fun pins s I => ?_
  refine (pe_lst (mA X es)).run pins s σ H Q I ?_
  refine h O fp σ H S _ fun vs H1 e1 ar => ?_
  refine ⟨by rw [ARep.length ar]; exact (show 4 ≤ sizeLine from by decide), fun u hu => ?_⟩
  have e2 : Ex H1 (upd H1 u (.lst vs)) := Ex.new hu
  have S1 := S.ex e1
  exact q (.ref u) _ (e1.trans e2) ⟨u, vs, rfl, .inl (.inl (upd_out (S1.fresh hu))), ar.mono (wo_ex e2).le⟩
theorem ex_l4a (h : EX X a env x) : EX X (.Subscript a (.Constant (.int 0) j p) pos) env x.a := ex_of (pe_ix L2.ix_list (mE X a) (mE X _) (fun _ _ => rfl)) (ev_op h ex_int fun U v1 v2 H _ r1 r2 Q q => by
  obtain ⟨ad, vs, e, t, r⟩ := r1
  match vs, r with
  | [v1, v2, v3, v4], ⟨p1, p2, p3, p4, _⟩ => exact ⟨ad, _, 0, v1, e, r2, wo_le.lst t, atI_nat (j := 0) rfl, q _ H (Ex.refl H) p1⟩)
theorem ex_l4b (h : EX X a env x) : EX X (.Subscript a (.Constant (.int 1) j p) pos) env x.b := ex_of (pe_ix L2.ix_list (mE X a) (mE X _) (fun _ _ => rfl)) (ev_op h ex_int fun U v1 v2 H _ r1 r2 Q q => by
  obtain ⟨ad, vs, e, t, r⟩ := r1
  match vs, r with
  | [v1, v2, v3, v4], ⟨p1, p2, p3, p4, _⟩ => exact ⟨ad, _, 1, v2, e, r2, wo_le.lst t, atI_nat (j := 1) rfl, q _ H (Ex.refl H) p2⟩)
theorem ex_l4c (h : EX X a env x) : EX X (.Subscript a (.Constant (.int 2) j p) pos) env x.c := ex_of (pe_ix L2.ix_list (mE X a) (mE X _) (fun _ _ => rfl)) (ev_op h ex_int fun U v1 v2 H _ r1 r2 Q q => by
  obtain ⟨ad, vs, e, t, r⟩ := r1
  match vs, r with
  | [v1, v2, v3, v4], ⟨p1, p2, p3, p4, _⟩ => exact ⟨ad, _, 2, v3, e, r2, wo_le.lst t, atI_nat (j := 2) rfl, q _ H (Ex.refl H) p3⟩)
theorem ex_l4d (h : EX X a env x) : EX X (.Subscript a (.Constant (.int 3) j p) pos) env x.d := ex_of (pe_ix L2.ix_list (mE X a) (mE X _) (fun _ _ => rfl)) (ev_op h ex_int fun U v1 v2 H _ r1 r2 Q q => by
  obtain ⟨ad, vs, e, t, r⟩ := r1
  match vs, r with
  | [v1, v2, v3, v4], ⟨p1, p2, p3, p4, _⟩ => exact ⟨ad, _, 3, v4, e, r2, wo_le.lst t, atI_nat (j := 3) rfl, q _ H (Ex.refl H) p4⟩)
variable [DEq α] [DEq β] [DEq γ] [DEq δ]
def eq4 (x y : L4 α β γ δ) : Bool := DEq.eqv x.a y.a && (DEq.eqv x.b y.b && (DEq.eqv x.c y.c && DEq.eqv x.d y.d))
theorem rc_l4 {pins : List (Addr × Obj)} {σ : L2.St} {H : Hp} {s : Shared} {A : Around} {v w : V} {x y : L4 α β γ δ} (I : Inv X pins σ H s) (hu : A.units + (max (DEq.dep α) (max (DEq.dep β) (max (DEq.dep γ) (DEq.dep δ))) + 1) < cLine) (h : Dat.rep X.K H v x) (h' : Dat.rep X.K H w y) :
    ∃ a b, v = .ref a ∧ w = .ref b ∧ RcP X.prog X.w A s (.ref a) (.ref b) (eq4 x y) := by
  obtain ⟨a, vs, rfl, t1, a1⟩ := h
  obtain ⟨b, ws, rfl, t2, a2⟩ := h'
  match vs, ws, a1, a2 with
  | [v1, v2, v3, v4], [w1, w2, w3, w4], ⟨p1, p2, p3, p4, _⟩, ⟨q1, q2, q3, q4, _⟩ =>
    have hv := units_in1 hu
    have q := rc_listS (A := A) I (f := fun j => if j = 0 then DEq.eqv x.a y.a else if j = 1 then DEq.eqv x.b y.b else if j = 2 then DEq.eqv x.c y.c else DEq.eqv x.d y.d) (by omega) t1 t2 (fun j v w hj hk => by
      match j with
      | 0 => cases hj; cases hk; exact DEq.run I (by omega) p1 q1
      | 1 => cases hj; cases hk; exact DEq.run I (by omega) p2 q2
      | 2 => cases hj; cases hk; exact DEq.run I (by omega) p3 q3
      | 3 => cases hj; cases hk; exact DEq.run I (by omega) p4 q4
      | j + 4 => simp at hj)
    exact ⟨a, b, rfl, rfl, by simpa [List.range_succ, Bool.and_assoc, eq4] using q⟩
theorem same_l4 {pins : List (Addr × Obj)} {σ : L2.St} {H : Hp} {s : Shared} {v : V} {x y : L4 α β γ δ} (I : Inv X pins σ H s) (h : Dat.rep X.K H v x) (h' : Dat.rep X.K H v y) : eq4 x y = true := by
  obtain ⟨a, vs, rfl, t1, a1⟩ := h
  obtain ⟨b, ws, e, t2, a2⟩ := h'
  cases e
  cases I.list_inj t1 t2
  match vs, a1, a2 with
  | [v1, v2, v3, v4], ⟨p1, p2, p3, p4, _⟩, ⟨q1, q2, q3, q4, _⟩ => unfold eq4; rw [DEq.same I p1 q1, DEq.same I p2 q2, DEq.same I p3 q3, DEq.same I p4 q4]; rfl
instance : DEq (L4 α β γ δ) := ⟨max (DEq.dep α) (max (DEq.dep β) (max (DEq.dep γ) (DEq.dep δ))) + 1, eq4, fun {X pins σ H s v x y} I h h' => same_l4 I h h', fun {X pins σ H s A v w x y} I hu h h' => by
  obtain ⟨a, b, rfl, rfl, q⟩ := rc_l4 I hu h h'
  refine eqS_ref (α := α) (fun e => ?_) q
  subst e
  exact same_l4 I h h'⟩
instance : DRc (L4 α β γ δ) := ⟨fun {X pins σ H s A v w x y} I hu h h' => rc_l4 I hu h h'⟩
end
end R
set_option maxHeartbeats 1000000
set_option autoImplicit false
/-! R41: {k: v, l: w, m: x} -/
namespace R
open PySem PySem.Spec PyProof.Rows L2
section
variable {X : Cx} {env : Env'} {a1 a2 a3 b1 b2 b3 : Expr} {pos : Pos} {α : Type} [Dat α] {x1 x2 x3 : α} {s1 s2 s3 : Str}
def dc3 (s1 s2 s3 : Str) (x1 x2 x3 : α) : Dc α := (((⟨[]⟩ : Dc α).put s1 x1).put s2 x2).put s3 x3
theorem en_dict3 (hk1 : EX X a1 env s1) (hv1 : EX X b1 env x1) (hk2 : EX X a2 env s2) (hv2 : EX X b2 env x2) (hk3 : EX X a3 env s3) (hv3 : EX X b3 env x3) : EN X (.Dict [some a1, some a2, some a3] [b1, b2, b3] pos) env (OD.mk (dc3 s1 s2 s3 x1 x2 x3)) := fun O fp σ H S Q q => tE_of fun pins s0 I => by
  refine (pe_disp (pps_cons (mE X a1) (mE X b1) (pps_cons (mE X a2) (mE X b2) (pps_cons (mE X a3) (mE X b3) pps_nil))) rfl rfl (fun z => by cases z) (Nat.le_of_ble_eq_true rfl)).run pins s0 σ H Q I fun u hu => ?_
  have S1 := S.hide (o := .dK []) hu
  have nu : ¬ UU O fp u := S.fresh hu
  refine hk1 _ fp σ _ S1 _ fun v1 H1 e1 r1 => hv1 _ fp σ H1 (S1.ex e1) _ fun w1 H2 e2 q1 => hk2 _ fp σ H2 ((S1.ex e1).ex e2) _ fun v2 H3 e3 r2 => hv2 _ fp σ H3 (((S1.ex e1).ex e2).ex e3) _ fun w2 H4 e4 q2 => hk3 _ fp σ H4 ((((S1.ex e1).ex e2).ex e3).ex e4) _ fun v3 H5 e5 r3 => hv3 _ fp σ H5 (((((S1.ex e1).ex e2).ex e3).ex e4).ex e5) _ fun w3 H6 e6 q3 => ?_
  have r1 : v1 = .str s1 := r1
  have r2 : v2 = .str s2 := r2
  have r3 : v3 = .str s3 := r3
  subst r1 r2 r3
  have e16 := ((((e1.trans e2).trans e3).trans e4).trans e5).trans e6
  have h6 : H6 u = some (.dK []) := e16 u _ upd_same
  have e7 : Ex H (upd H6 u (.dK (mergeK [] [(.inr s1, w1), (.inr s2, w2), (.inr s3, w3)]))) := fun c ob hc => by
    have nc := ne_of_none hc hu
    rw [upd_ne nc]
    exact e16 c ob (by rw [upd_ne nc]; exact hc)
  refine ⟨h6, [(.inr s1, w1), (.inr s2, w2), (.inr s3, w3)], rfl, by simp, ?_⟩
  refine q (.ref u) [u] _ e7 (fun c hc => by rw [List.mem_singleton.mp hc]; exact hu) (fun c hc => by rw [List.mem_singleton.mp hc]; exact ⟨_, upd_same⟩) fun Hf le => ?_
  have go : Le (wo H6 (UU (fun a => O a ∨ a = u) fp)) Hf := Le.trans (Ex.le fun c ob hc => by
    obtain ⟨n, hc⟩ := wo_some hc
    have nc : c ≠ u := fun z => n (.inl (.inr z))
    have n2 : ¬ (UU O fp c ∨ c ∈ [u]) := fun z => by
      rcases z with (z | z) | z
      · exact n (.inl (.inl z))
      · exact n (.inr z)
      · exact nc (List.mem_singleton.mp z)
    rw [wo_out n2, upd_ne nc]
    exact hc) le
  have m1 := Dat.mono (Le.trans (wo_ex (U := UU (fun a => O a ∨ a = u) fp) (((e3.trans e4).trans e5).trans e6)).le go) q1
  have m2 := Dat.mono (Le.trans (wo_ex (U := UU (fun a => O a ∨ a = u) fp) (e5.trans e6)).le go) q2
  have m3 := Dat.mono go q3
  exact ⟨u, _, rfl, rfl, upd_same, repD.put (repD.put (repD.put (ws := []) (kvs := []) .nil s1 m1) s2 m2) s3 m3⟩
end
end R
set_option maxHeartbeats 1000000
set_option autoImplicit false
/-! R42: while, without ways out -/
namespace R
open PySem PySem.Spec PyProof.Rows L2
def whileN {S : Type} (c : S → Bool) (b : S → S) : Nat → S → S
  | 0, s => s
  | n + 1, s => cond (c s) (whileN c b n (b s)) s
def okWhile {S : Type} (okc okb : S → Prop) (c : S → Bool) (b : S → S) : Nat → S → Prop
  | 0, s => okc s ∧ c s = false
  | n + 1, s => okc s ∧ (c s = true → okb s ∧ okWhile okc okb c b n (b s))
section
variable {X : Cx} {W : WX} {env : Env'} {ρ : Type} [Res ρ] {po : Po ρ} {c : Expr} {pos : Pos} {rest body : List Stmt}
theorem sx_whileN {S : Type} (uu : S → Env' → Env') (cd : S → Bool) (step : S → S) (okc okb : S → Prop) (n : Nat) (s0 : S) (hp : PassesOwn (model X.prog X.w) X.A X.env X.xe) (h0 : Sub env (uu s0 env)) (hk : okWhile okc okb cd step n s0)
    (ht : ∀ s, okc s → ET X c (uu s env) (cd s))
    (hb : ∀ s, okb s → cd s = true → SX X W body (uu s env) { po with N := fun e => Sub e (uu (step s) env), C := fun e => Sub e (uu (step s) env), B := fun _ => False })
    (hr : SX X W rest (uu (whileN cd step n s0) env) po) : SX X W (.While c body [] pos :: rest) env po :=
  sx_while (S := Nat × S) (fun s => uu s.2 env) (fun s => okWhile okc okb cd step s.1 s.2 ∧ whileN cd step s.1 s.2 = whileN cd step n s0) (fun s => s.1) (fun _ => False) (n, s0) hp h0 ⟨hk, rfl⟩ (fun ⟨m, s⟩ ⟨h1, h2⟩ => by
    cases m with
    | zero =>
      refine ⟨cd s, ht s h1.1, fun h => ?_, fun _ => ?_⟩
      · rw [h1.2] at h; cases h
      · have h2 : s = whileN cd step n s0 := h2
        rw [← h2] at hr
        exact hr
    | succ m =>
      refine ⟨cd s, ht s h1.1, fun h => ?_, fun h => ?_⟩
      · obtain ⟨g1, g2⟩ := h1.2 h
        have e : whileN cd step (m + 1) s = whileN cd step m (step s) := by
          show cond (cd s) _ _ = _
          rw [h]; rfl
        have h2 : whileN cd step m (step s) = whileN cd step n s0 := e ▸ h2
        exact (hb s g1 h).imp (fun e h => ⟨(m, step s), h, ⟨g2, h2⟩, Nat.lt_succ_self m⟩) (fun _ _ h => h) (fun _ _ h => h) (fun _ h => h) (fun e h => ⟨(m, step s), h, ⟨g2, h2⟩, Nat.lt_succ_self m⟩)
      · have e : whileN cd step (m + 1) s = s := by
          show cond (cd s) _ _ = _
          rw [h]; rfl
        have h2 : s = whileN cd step n s0 := e ▸ h2
        rw [← h2] at hr
        exact hr) (fun _ h => h.elim) 
end
end R
set_option maxHeartbeats 1000000
set_option autoImplicit false
/-! defs called within an except suite, told of the exception it holds -/
namespace R
open PySem PySem.Spec PyProof.Rows L2
/-- a def's promise where p is the exception that is handled -/
structure HotOk (P : Program) (w : World) (K : PySem.W.Frag) (mg : Str → Option Value) (base : Heap) (k : Nat) (f : Addr) (fd : FuncData) (ps : List Str) (sp : Addr × Obj → Sp) : Prop where
  len : ∀ p vs H Q E, sp p vs H Q E → vs.length = ps.length
  run : ∀ (p : Addr × Obj) (A : Around) (outer : List PySem.Env) (s : Shared) (H : Hp) (args : Args) (us : List Value) (vs : List V) (Q : VK) (E : XK), L2H.RoomH k A → A.handled = some (.ref p.1) → L2H.PinOk outer H s p → Env0 P w K mg base A outer s H → BindsTo s fd args (ps.zip us) → Vals vs us → sp p vs H Q E →
    codeAny (model P w) A (.call (.ref f) args) (CR (L2.CX P w) outer P w H s Q E) s
abbrev cxP (P : Program) (w : World) (K : PySem.W.Frag) (mg : Str → Option Value) (base : Heap) (N : List Str) (qual : Str) (scope : Scope) (f : Addr) (cd : Value) (A : Around) (outer : List PySem.Env) (s : Shared) (H : Hp) (E : XK) (p : Addr × Obj) : Cx := L2H.cxH (L2.CX P w) P w K mg base N qual scope f cd A outer s H E p
section
variable {P : Program} {w : World} {K : PySem.W.Frag} {mg : Str → Option Value} {base : Heap}
theorem Fun.hot {x qual : Str} {st : Stmt} {f : Addr} {fd : FuncData} {N ps : List Str} {k : Nat} {sp : Addr × Obj → Sp} (F : Fun K x qual st f fd) (S : FnScope N ps (defScope st)) (len : ∀ p vs H Q E, sp p vs H Q E → vs.length = ps.length)
    (hbody : ∀ (p : Addr × Obj) (cdv : Value) (A : Around) (outer : List PySem.Env) (s : Shared) (H : Hp) (vs : List V) (Q : VK) (E : XK), L2H.RoomH k (A.deeper (envOfC qual (defScope st) s.heap.objs.size f cdv)) → sp p vs H Q E →
      ∃ t, PSs (cxP P w K mg base N qual (defScope st) f cdv A outer s H E p) (defBody st) t ∧ t { nx := fun _ H' => Q .non H', rt := Q } (start N vs) H) : HotOk P w K mg base (k + 1) f fd ps sp := by
  obtain ⟨oc, od, kV, doc, pm, an, cdv, ct, osl, rfl, lk, hcd⟩ := F.ex
  refine ⟨len, ?_⟩
  intro p A outer s H args us vs Q E room _ pin e0 bind rel prom
  have l1 := len p _ _ _ _ prom
  have k1 := e0.mod.kin.keeps fun b o e => (e0.bs b o e).1
  have k2 := e0.mod.nolimit.keeps fun b o e => (e0.bs b o e).1
  have k3 : ∀ y ∈ ps.zip us, (defScope st).names.lookup y.1 = some .local ∨ ((defScope st).names.lookup y.1 = some .cell ∧ ((cellsFrom (s.heap.objs.size + 1) (defScope st).names []).lookup y.1).isSome = true) := by
    rintro ⟨n, v⟩ hy
    exact (S.par n (List.of_mem_zip hy).1).elim .inl fun q => .inr ⟨q, PySem.W.cellsFrom_some _ _ _ (.inl q)⟩
  refine codeAny_call_function room.depth (k1 _ _ lk) rfl S.co S.gen rfl (PySem.W.codeRec_of k1 hcd) (bind _ _ _ _ (wpAny_newFunctionEnv_cells S.kind k3 fun env he s1 y => ?_))
  subst he
  refine ⟨k2.keeps y.toInCall.keep, codeAny_func ?_⟩
  obtain ⟨t, t1, t2⟩ := hbody p cdv A outer s H vs Q E (room.deeper _) prom
  have J0 : Inv (cxP P w K mg base N qual (defScope st) f cdv A outer s H E p) [] (start N vs) H s1 := L2H.inv_startH S pin e0 l1 rel y
  refine wpAny_mono (t1.run [] s1 _ H _ J0 t2) (fun fl s' z => ?_) fun _ _ z => z
  have out : ∀ {σ' : L2.St} {H' : Hp} {v : V} {u : Value}, Inv (cxP P w K mg base N qual (defScope st) f cdv A outer s H E p) [] σ' H' s' → RelV v u → Q v H' → CE outer P w H s Q u s' := fun {_ H' v _} J r q => ⟨v, H', J.os, J.bare, J.base, J.hok, r, q⟩
  cases fl with
  | ret u => exact let ⟨_, _, _, J, r, q⟩ := z; out J r q
  | next => exact let ⟨_, _, J, q⟩ := z; out (v := V.non) (u := Value.none) J rfl q
  | brk => exact let ⟨_, _, _, q⟩ := z; q.elim
  | cont => exact let ⟨_, _, _, q⟩ := z; q.elim
/-- the promise of a def told of the exception -/
abbrev PhiH (ρ : Type) := Addr × Obj → Hp → Phi ρ
/-- Hf: where the exception is known from -/
def spH {ρ : Type} [Res ρ] (K : PySem.W.Frag) (mg : Str → Option Value) (n : Nat) (Φ : Addr × Obj → Phi ρ) : Addr × Obj → Sp := fun p => spP K mg n (Φ p)
theorem fn_okH {ρ : Type} [Res ρ] {x qual : Str} {st : Stmt} {f : Addr} {fd : FuncData} {N ps : List Str} {k n : Nat} {Φ : Addr × Obj → Phi ρ} (F : Fun K x qual st f fd) (S : FnScope N ps (defScope st)) (hn : ps.length = n)
    (hb : ∀ (p : Addr × Obj) (args : Env') (Rp : ρ → Prop) (Xp : Exn → Prop), Φ p args Rp Xp → args.length = n → ∀ (cdv : Value) (A : Around) (outer : List PySem.Env) (s : Shared) (H : Hp) (E : XK) (W : WX), L2H.RoomH k (A.deeper (envOfC qual (defScope st) s.heap.objs.size f cdv)) →
      SX (cxP P w K mg base N qual (defScope st) f cdv A outer s H E p) W (defBody st) (args ++ List.replicate (N.length - n) .any) { N := fun _ => ∃ r, Rp r ∧ ∀ O H H', Res.out K O H H' .non r, R := fun r _ => Rp r }) :
    HotOk P w K mg base (k + 1) f fd ps (spH K mg n Φ) := by
  refine Fun.hot F S (fun p vs H Q E h => h.1.trans hn.symm) fun p cdv A outer s H vs Q E room h => ?_
  obtain ⟨hl, O, args, Rp, Xp, ph, SS, hq, he⟩ := h
  have hlen : args.length = n := by
    have := SS.len
    rw [List.length_map] at this
    omega
  refine ⟨tSs _ _, mSs _ _, hb p args Rp Xp ph hlen cdv A outer s H E (fun cls d _ H => E cls d H) room O nofp _ H ?_ _ ?_⟩
  · rw [show L2.start N vs = vs.map some ++ List.replicate (N.length - n) none from by unfold L2.start; rw [hl]]
    exact SS.pad (N.length - n)
  · exact ⟨fun e fp' σ' H' ⟨r, h1, h2⟩ kp S' => hq r .non H' h1 kp.ex_of (h2 _ _ _), fun r e fp' σ' v H' h1 kp S' rp => hq r v H' h1 kp.ex_of (Res.conv (fun a ⟨i, z⟩ => (kp.2 i a z).elim (fun ⟨j, y⟩ => by cases y) id) (fun a ⟨i, z⟩ => S'.dom i a z) rp), fun _ _ _ _ _ _ _ h => h.elim, fun _ _ _ _ h => h.elim, fun _ _ _ _ h => h.elim⟩
end
/-- such a def, by its name -/
structure HotDef (P : Program) (w : World) (K : PySem.W.Frag) (mg : Str → Option Value) (base : Heap) (n : Str) (k : Nat) (ps : List Str) (sp : Addr × Obj → Sp) : Prop where
  ex : ∃ f fd, HotOk P w K mg base k f fd ps sp ∧ mg n = some (.ref f) ∧ PySem.W.keepIn K (.ref f) = true ∧ Binds K fd ps []
section
variable {X : Cx} {W : WX} {env : Env'} {ρ : Type} [Dat ρ] {pos q : Pos} {e : Expr} {es : List Expr}
theorem run_hot {k : Nat} {f : Addr} {fd : FuncData} {ps : List Str} {sp : Addr × Obj → Sp} {p : Addr × Obj} {pins : List (Addr × Obj)} {σ : L2.St} {H : Hp} {s : Shared} {Q : VK} {us : List Value} {vs : List V} (F : HotOk X.prog X.w X.K X.mg X.base k f fd ps sp) (hr : L2H.RoomH k X.A) (hh : X.A.handled = some (.ref p.1)) (hp : p ∈ X.pn) (hb : Binds X.K fd ps [])
    (I : Inv X pins σ H s) (r : Vals vs us) (h : sp p vs H Q (fun _ _ _ => False)) : wpAny (model X.prog X.w) X.A (call (.ref f) us) (EP X pins σ Q) X.xe s := by
  have hl : us.length = ps.length := r.length.symm.trans (F.len p _ _ _ _ h)
  have b := hb s us I.kIn (by rw [List.append_nil]; exact hl)
  rw [List.append_nil] at b
  obtain ⟨g1, g2, g3, g4, g5⟩ := I.pin p (List.mem_append_left _ hp)
  refine wpAny_call (codeAny_mono (F.run p X.A X.stack s H ⟨us, []⟩ us vs Q _ hr hh ⟨g1, g2, fun hm => (List.mem_cons.mp (I.stkSub p.1 hm)).elim g3 g4, g5⟩ I.env0 b r h) fun z s' hz => ?_)
  cases z with
  | ok fl =>
    cases fl with
    | ret u => exact I.after hz
    | _ => exact hz.elim
  | error e =>
    obtain ⟨a, B, H', cls, d, z1, z2, z3, z4, z5, z6, z7, z8⟩ := hz
    exact z8.elim
theorem ex_hot {n : Str} {k m : Nat} {ps : List Str} {xs : List Sl} {Φ : Addr × Obj → Phi ρ} {r : ρ} {p : Addr × Obj} (d : HotDef X.prog X.w X.K X.mg X.base n k ps (spH X.K X.mg m Φ)) (hr : L2H.RoomH k X.A) (hh : X.A.handled = some (.ref p.1)) (hp : p ∈ X.pn) (ha : EA X (e :: es) env xs) (hΦ : Φ p xs (fun r' => r' = r) (fun _ => False))
    (hl : xs.length = m := by rfl) (hg : Gl X n := by rfl) (hdb : (n == ("__debug__" : Str)) = false := by decide) (he : starEach (e :: es) X.env = (false, eval e X.env) :: starEach es X.env := by exact star_plain rfl _ _) (hpl : (backTo pos (starEach es X.env)).any (·.1) = false := by exact star_pl rfl) : EX X (.Call (.Name n q) (e :: es) [] pos) env r := by
  obtain ⟨f, fd, F, hm, hk, hb⟩ := d.ex
  have pe : PE X (.Call (.Name n q) (e :: es) [] pos) (fun σ H Q => tA X (e :: es) σ H fun vs H1 => spH X.K X.mg m Φ p vs H1 Q (fun _ _ _ => False)) := by
    constructor
    intro pins s σ H Q I h
    refine wpAny_Call_Name_kw (ld_glob I hg hm ?_ hdb)
    exact PySem.W.callWith_K (h₀ := X.base) I.ok.mod.kin hk (thn ((mA X _).run pos pins s σ H _ I h) fun us s1 ⟨vs, H1, I1, rv, sp1⟩ => ⟨I1.kIn, run_hot F hr hh hp hb I1 rv sp1⟩) he hpl
  refine ex_of pe fun O fp σ H S Q q => ha O fp σ H S _ fun vs H1 e1 r1 => ?_
  have S2 := ARep.sok (S.ex e1).bndU r1
  exact ⟨by rw [r1.length]; exact hl, UU O fp, xs, _, _, hΦ, S2, fun r' v H' hr' e2 rp => by subst hr'; exact q v H' (e1.trans e2) rp, fun _ _ _ _ h => h.elim⟩
/-- isinstance of the handled exception, wherever it is held -/
theorem call_isP {a D : Addr} {oe : Obj} (C : ExcC X.K D) (hz : Zc (.ref D) none oe) (hf : ∃ vs, oe.data = .fields vs) (hp : (a, oe) ∈ X.pn) : CallR X (.builtin "isinstance") (rIsE X.K D a) := by
  rintro pins s σ H xs us Q I r ⟨c, cv, b, rfl, hcv, e, q⟩
  obtain _ | ⟨rx, _ | ⟨rt, _ | _⟩⟩ := r
  cases rx
  cases hcv _ rt
  have g1 := (I.pin (a, oe) (List.mem_append_left _ hp)).1
  obtain ⟨vs, hv⟩ := hf
  have J : PySem.W.InstAt s.heap a oe D none := by
    obtain ⟨oc, od, oda, osl⟩ := oe
    obtain ⟨h1, h2⟩ := hz
    dsimp only at h1 h2 hv
    subst h1 h2 hv
    exact ⟨g1, rfl, rfl, trivial⟩
  exact PySem.W.kia_one (PySem.W.handS_kitx_exc C.hg C.hk C.hs C.hd C.ha C.hn C.ht C.hm) I.kIn J e (fun z => nomatch z) fun tk => ⟨.bl b, H, I.kept (t' := tk) fun _ _ z => z, rfl, q⟩
theorem ex_isP {i : Nat} {v c : Str} {all some' : List Str} {e : Exn} {ad : Addr} {oe : Obj} {cls : Value} {d : Option Addr} {Hf : Hp} {p p2 pc : Pos} (I : IsC X.K X.mg all some' c) (hi : X.mg "isinstance" = none) (hall : exnIn all e = true) (h1 : ∃ n, e = .one n) (hz : Zc cls d oe) (hfd : ∃ vs, oe.data = .fields vs) (xa : ExAt X.mg X.K Hf e cls d) (hp : (ad, oe) ∈ X.pn) (hv : env[i]? = some (.dat (ExV.mk ad)))
    (hN : X.N[i]? = some v := by rfl) (hvis : Vis X.env.scope v := by first | exact Or.inl rfl | exact Or.inr (Or.inl rfl) | exact Or.inr (Or.inr rfl)) (hd : (v == ("__debug__" : Str)) = false := by decide) (hc : (v == ("__classdict__" : Str)) = false := by decide)
    (hg : Gl X "isinstance" := by rfl) (hgc : Gl X c := by rfl) (hdc : (c == ("__debug__" : Str)) = false := by decide) : EX X (.Call (.Name "isinstance" p2) [.Name v p, .Name c pc] [] pos) env (exnIn some' e) := by
  obtain ⟨n, rfl⟩ := h1
  obtain ⟨Cv, hm, tb⟩ := I.ex
  obtain ⟨D, q1, q2, q3⟩ := tb n (List.contains_iff_mem.mp hall)
  obtain ⟨x1, x2⟩ := xa
  rw [q1] at x1
  cases x1
  subst x2
  refine ex_of (pe_callB (call_isP q2 hz hfd hp) hg hi (by decide +kernel) (pa_cons (pe_var hN hvis hd hc) (pa_cons (pe_glob (v := .ref Cv) hgc hm rfl hdc) pa_nil (star_plain rfl _ _)) (star_plain rfl _ _)) (by decide) (by decide) (star_plain rfl _ _) (star_pl rfl)) ?_
  intro O fp σ H S Q q
  obtain ⟨v1, w1, w2⟩ := S.sl i _ hv
  have w2 : v1 = .ref ad := w2
  subst w2
  exact ⟨.ref ad, w1, .ref Cv, .ref Cv, some'.contains n, rfl, fun u r => r, q3, q _ H (Ex.refl H) rfl⟩
end
/-- isinstance(e, c) of a built-in class -/
structure IsCB (K : PySem.W.Frag) (mg : Str → Option Value) (all some' : List Str) (c : Str) (id : String) : Prop where
  no : mg c = none
  ex : ∀ n ∈ all, ∃ D, mg n = some (.ref D) ∧ ExcC K D ∧ PySem.W.kitOne K (.ref D) (.type id) = some (some'.contains n)
section
variable {X : Cx} {env : Env'}
theorem ex_isPB {i : Nat} {v c : Str} {id : String} {all some' : List Str} {e : Exn} {ad : Addr} {oe : Obj} {cls : Value} {d : Option Addr} {Hf : Hp} {p p2 pc pos : Pos} (I : IsCB X.K X.mg all some' c id) (hi : X.mg "isinstance" = none) (hall : exnIn all e = true) (h1 : ∃ n, e = .one n) (hz : Zc cls d oe) (hfd : ∃ vs, oe.data = .fields vs) (xa : ExAt X.mg X.K Hf e cls d) (hp : (ad, oe) ∈ X.pn) (hv : env[i]? = some (.dat (ExV.mk ad))) (hb : bootBuiltins c = some (.type id))
    (hN : X.N[i]? = some v := by rfl) (hvis : Vis X.env.scope v := by first | exact Or.inl rfl | exact Or.inr (Or.inl rfl) | exact Or.inr (Or.inr rfl)) (hd : (v == ("__debug__" : Str)) = false := by decide) (hc : (v == ("__classdict__" : Str)) = false := by decide)
    (hg : Gl X "isinstance" := by rfl) (hgc : Gl X c := by rfl) (hn : c ≠ "__name__" := by decide) (hdc : (c == ("__debug__" : Str)) = false := by decide) : EX X (.Call (.Name "isinstance" p2) [.Name v p, .Name c pc] [] pos) env (exnIn some' e) := by
  obtain ⟨n, rfl⟩ := h1
  obtain ⟨D, q1, q2, q3⟩ := I.ex n (List.contains_iff_mem.mp hall)
  obtain ⟨x1, x2⟩ := xa
  rw [q1] at x1
  cases x1
  subst x2
  refine ex_of (pe_callB (call_isP q2 hz hfd hp) hg hi (by decide +kernel) (pa_cons (pe_var hN hvis hd hc) (pa_cons (pe_bltn (v := .ty id) hgc I.no hb rfl hn hdc) pa_nil (star_plain rfl _ _)) (star_plain rfl _ _)) (by decide) (by decide) (star_plain rfl _ _) (star_pl rfl)) ?_
  intro O fp σ H S Q q
  obtain ⟨v1, w1, w2⟩ := S.sl i _ hv
  have w2 : v1 = .ref ad := w2
  subst w2
  exact ⟨.ref ad, w1, .ty id, .type id, some'.contains n, rfl, fun u r => r, q3, q _ H (Ex.refl H) rfl⟩
end
section
variable {X : Cx} {W : WX} {env : Env'} {ρ : Type} [Res ρ] {po : Po ρ} {c : Expr} {thn els rest : List Stmt} {pos : Pos}
/-- a way that may leave or go on: what follows is walked at its end -/
theorem sx_ifK {k : Bool} (hc : ET X c env k) (h1 : k = true → SX X W thn env { po with N := fun e => SX X W rest e po }) (h2 : k = false → SX X W els env { po with N := fun e => SX X W rest e po }) : SX X W (.If c thn els pos :: rest) env po :=
  sx_if (fun e => SX X W rest e po) hc h1 h2 fun _ h => h
end
theorem roomH_suite {X : Cx} {k j : Nat} {a : Addr} {pn : List (Addr × Obj)} (hr : Room k X.A) (h : j ≤ k) : L2H.RoomH j (X.suite a pn).A := ⟨(hr.mono h).dp, (hr.mono h).un⟩
end R
set_option maxHeartbeats 1000000
set_option autoImplicit false
/-! == of tuples, the later parts only where the earlier ones are the same -/
namespace RQ1
open PySem PySem.SeqAt
open AutoSeq1 (wpAny_loadPart')
open MeetsSeq MeetsSeq2 MeetsSeq3 SeqRoads2
section
variable {P : Program} {w : World}
def ItemsT (P : Program) (w : World) (A : Around) (s : Shared) (us ws : Array Value) (f : Nat → Bool) : Prop := ∀ j (h1 : j < us.size) (h2 : j < ws.size), (∀ i, i < j → f i = true) → EqP P w A.in1 s us[j] ws[j] (f j)
theorem tupA (p q : Addr) (us ws : Array Value) (n n2 : Nat) (da db : Option Addr) (sa sb : Array (Option Value)) (hz : us.size = ws.size) (f : Nat → Bool) :
    MeetsIn P w (Builtin.«tuple.__eq__» ⟨[.ref p, .ref q], []⟩)
      (fun A R s => s.heap.get? p = some { cls := .type "tuple", dict := da, data := .seq us n, slots := sa } ∧ s.heap.get? q = some { cls := .type "tuple", dict := db, data := .seq ws n2, slots := sb } ∧
        ItemsT P w A s us ws f ∧ R (.ok (.ret (.bool ((List.range us.size).all f)))) s) :=
  .of_wp fun A R s ⟨hl, hb, he, h⟩ => by
    obtain ⟨hp, g, d, tk, os⟩ := s
    have f2 := AutoSeq1.sub_tuple_tuple
    have hZ : (us.toList.zip ws.toList).length = us.size := by simp [hz]
    wp_walk using wpAny_loadPart' hl, wpAny_loadPart' hb, wpAny_forIn_list _ (fun rest b s' => b.1 = none ∧ s' = ⟨hp, g, d, tk, os⟩ ∧ ∃ i, rest = (us.toList.zip ws.toList).drop i ∧ (∀ j, j < i → f j = true) ∧ R (.ok (.ret (.bool (((List.range us.size).drop i).all f)))) ⟨hp, g, d, tk, os⟩) _
    case turn =>
      rintro ⟨y, x⟩ rest b s' ⟨hb', rfl, i, hz', hall, hR⟩
      have lt : i < (us.toList.zip ws.toList).length := by
        rcases Nat.lt_or_ge i (us.toList.zip ws.toList).length with h' | h'
        · exact h'
        · rw [List.drop_of_length_le h'] at hz'; cases hz'
      have l1 : i < us.size := hZ ▸ lt
      have l2 : i < ws.size := hz ▸ l1
      rw [List.drop_eq_getElem_cons lt] at hz'
      injection hz' with hyx hrest
      have hy : y = us[i] := by have := congrArg Prod.fst hyx; simpa using this
      have hx : x = ws[i] := by have := congrArg Prod.snd hyx; simpa using this
      subst hy hx
      rw [show (List.range us.size).drop i = i :: (List.range us.size).drop (i + 1) by simp [List.drop_eq_getElem_cons, l1], List.all_cons] at hR
      refine wpAny_bind (he i l1 l2 hall _ _ ?_)
      cases fb : f i with
      | true =>
        rw [fb] at hR
        wp_walk
        exact ⟨rfl, rfl, i + 1, hrest, fun j hj => (by rcases Nat.lt_or_ge j i with z | z; exact hall j z; rw [show j = i by omega]; exact fb), by simpa using hR⟩
      | false =>
        rw [fb] at hR
        wp_walk
        exact ⟨_, rfl, by simpa using hR⟩
    case fin =>
      rintro ⟨b1, b2⟩ s' ⟨hb', rfl, i, hz', hall, hR⟩
      simp only at hb'
      subst hb'
      have ge : us.size ≤ i := by
        rcases Nat.lt_or_ge i (us.toList.zip ws.toList).length with h' | h'
        · rw [List.drop_eq_getElem_cons h'] at hz'; cases hz'
        · exact hZ ▸ h'
      rw [List.drop_of_length_le (by simpa using ge)] at hR
      wp_walk
      exact ⟨_, rfl, by simpa [Builtin.Tuple.tupleCompareSizes, hz] using hR⟩
    case h =>
      exact ⟨rfl, rfl, 0, rfl, fun j hj => absurd hj (Nat.not_lt_zero j), by simpa using h⟩
theorem tupB (p q : Addr) (us ws : Array Value) (n n2 : Nat) (da db : Option Addr) (sa sb : Array (Option Value)) (hz : us.size = ws.size) (f : Nat → Bool) :
    MeetsIn P w (Builtin.«tuple.__ne__» ⟨[.ref p, .ref q], []⟩)
      (fun A R s => s.heap.get? p = some { cls := .type "tuple", dict := da, data := .seq us n, slots := sa } ∧ s.heap.get? q = some { cls := .type "tuple", dict := db, data := .seq ws n2, slots := sb } ∧
        ItemsT P w A s us ws f ∧ R (.ok (.ret (.bool (!(List.range us.size).all f)))) s) :=
  .of_wp fun A R s ⟨hl, hb, he, h⟩ => by
    obtain ⟨hp, g, d, tk, os⟩ := s
    have f2 := AutoSeq1.sub_tuple_tuple
    have hZ : (us.toList.zip ws.toList).length = us.size := by simp [hz]
    wp_walk using wpAny_loadPart' hl, wpAny_loadPart' hb, wpAny_forIn_list _ (fun rest b s' => b.1 = none ∧ s' = ⟨hp, g, d, tk, os⟩ ∧ ∃ i, rest = (us.toList.zip ws.toList).drop i ∧ (∀ j, j < i → f j = true) ∧ R (.ok (.ret (.bool (!((List.range us.size).drop i).all f)))) ⟨hp, g, d, tk, os⟩) _
    case turn =>
      rintro ⟨y, x⟩ rest b s' ⟨hb', rfl, i, hz', hall, hR⟩
      have lt : i < (us.toList.zip ws.toList).length := by
        rcases Nat.lt_or_ge i (us.toList.zip ws.toList).length with h' | h'
        · exact h'
        · rw [List.drop_of_length_le h'] at hz'; cases hz'
      have l1 : i < us.size := hZ ▸ lt
      have l2 : i < ws.size := hz ▸ l1
      rw [List.drop_eq_getElem_cons lt] at hz'
      injection hz' with hyx hrest
      have hy : y = us[i] := by have := congrArg Prod.fst hyx; simpa using this
      have hx : x = ws[i] := by have := congrArg Prod.snd hyx; simpa using this
      subst hy hx
      rw [show (List.range us.size).drop i = i :: (List.range us.size).drop (i + 1) by simp [List.drop_eq_getElem_cons, l1], List.all_cons] at hR
      refine wpAny_bind (he i l1 l2 hall _ _ ?_)
      cases fb : f i with
      | true =>
        rw [fb] at hR
        wp_walk
        exact ⟨rfl, rfl, i + 1, hrest, fun j hj => (by rcases Nat.lt_or_ge j i with z | z; exact hall j z; rw [show j = i by omega]; exact fb), by simpa using hR⟩
      | false =>
        rw [fb] at hR
        wp_walk
        exact ⟨_, rfl, by simpa using hR⟩
    case fin =>
      rintro ⟨b1, b2⟩ s' ⟨hb', rfl, i, hz', hall, hR⟩
      simp only at hb'
      subst hb'
      have ge : us.size ≤ i := by
        rcases Nat.lt_or_ge i (us.toList.zip ws.toList).length with h' | h'
        · rw [List.drop_eq_getElem_cons h'] at hz'; cases hz'
        · exact hZ ▸ h'
      rw [List.drop_of_length_le (by simpa using ge)] at hR
      wp_walk
      exact ⟨_, rfl, by simpa [Builtin.Tuple.tupleCompareSizes, hz, bne] using hR⟩
    case h =>
      exact ⟨rfl, rfl, 0, rfl, fun j hj => absurd hj (Nat.not_lt_zero j), by simpa using h⟩
theorem rc_tupsT {A : Around} {s : Shared} {p q : Addr} {us ws : Array Value} {f : Nat → Bool} (hl : s.heap.IsTuple p us) (hb : s.heap.IsTuple q ws) (hz : us.size = ws.size) (hu : A.units < cLine) (he : ItemsT P w A s us ws f) : RcP P w A s (.ref p) (.ref q) ((List.range us.size).all f) := by
  obtain ⟨⟨c1, d1, x1, s1⟩, o1, e1, n1, y1⟩ := id hl
  obtain ⟨⟨c2, d2, x2, s2⟩, o2, e2, n2, y2⟩ := id hb
  simp only at e1 y1 e2 y2
  subst e1 y1 e2 y2
  have t1 : s.TypeIs (.ref p) "tuple" := ⟨_, o1, rfl⟩
  have t2 : s.TypeIs (.ref q) "tuple" := ⟨_, o2, rfl⟩
  refine ⟨fun E Q h => ?_, fun E Q h => ?_⟩
  · exact wpAny_richCompare_same_room (op := .Eq) t1 t2 F.slot_tuple_eq (call_meetsIn F.slot_tuple_eq t1 F.entry_tuple_eq (F.args_tuple_eq_2 _ _) (tupA p q us ws n1 n2 d1 d2 s1 s2 hz f) ⟨o1, o2, he, ⟨(fun x => nomatch x), h⟩⟩) hu
  · exact wpAny_richCompare_same_room (op := .NotEq) t1 t2 F.slot_tuple_ne (call_meetsIn F.slot_tuple_ne t1 F.entry_tuple_ne (F.args_tuple_ne_2 _ _) (tupB p q us ws n1 n2 d1 d2 s1 s2 hz f) ⟨o1, o2, he, ⟨(fun x => nomatch x), h⟩⟩) hu
end
end RQ1
set_option maxHeartbeats 1000000
set_option autoImplicit false
/-! texts: startswith, partition, index, in, int(text); what is told, or refused -/
namespace R
open PySem PySem.Spec PyProof.Rows L2
section
variable {X : Cx} {env : Env'} {o e a b : Expr} {pos apos p : Pos} {s c : Str}
theorem ex_starts (ho : EX X o env s) (h : EX X e env c) (hs : starEach [e] X.env = [(false, eval e X.env)] := by exact star_plain rfl _ _) (hbase : attributeBase o "startswith" X.env (eval o X.env) = eval o X.env := by rfl) (hline : (apos.endLine == pos.line) = true := by rfl) :
    EX X (.Call (.Attribute o "startswith" apos) [e] [] pos) env (Txt.startswith s c) := ex_of (pe_m1 F.slot_str_startswith F.type_str_startswith mt_startswith (mE X o) (mE X e) hs hbase hline) fun O fp σ H S Q q => ho O fp σ H S _ fun v H1 e1 r1 => ⟨⟨s, r1⟩, h O fp σ H1 (S.ex e1) _ fun u H2 e2 r2 =>
  ⟨s, c, r1, by rw [show u = .str c from r2], q _ H2 (e1.trans e2) rfl⟩⟩
def part3 (s c : Str) : T3 Str Str Str := ⟨(Txt.partition s c).1, (Txt.partition s c).2.1, (Txt.partition s c).2.2⟩
theorem ex_part (ho : EX X o env s) (h : EX X e env c) (g : s.length ≤ 100000) (hc : (c.length == 0) = false := by decide) (hs : starEach [e] X.env = [(false, eval e X.env)] := by exact star_plain rfl _ _) (hbase : attributeBase o "partition" X.env (eval o X.env) = eval o X.env := by rfl) (hline : (apos.endLine == pos.line) = true := by rfl) :
    EX X (.Call (.Attribute o "partition" apos) [e] [] pos) env (part3 s c) := ex_of (pe_m1 F.slot_str_partition F.type_str_partition mt_partition (mE X o) (mE X e) hs hbase hline) fun O fp σ H S Q q => ho O fp σ H S _ fun v H1 e1 r1 => ⟨⟨s, r1⟩, h O fp σ H1 (S.ex e1) _ fun u H2 e2 r2 =>
  ⟨s, c, r1, by rw [show u = .str c from r2], hc, sz_of g, fun p np => q _ _ ((e1.trans e2).trans (Ex.new np)) ⟨p, _, rfl, .inl (.inl (upd_out (((S.ex e1).ex e2).fresh np))), rfl, rfl, rfl, trivial⟩⟩⟩
/-- where a text first stands within another -/
def strIx (s c : Str) : Nat := (Builtin.Str.occurrences s c 0 s.length 1).headD 0
def strHas (s c : Str) : Bool := !(Builtin.Str.occurrences s c 0 s.length 1).isEmpty
theorem ex_indexS (ho : EX X o env s) (h : EX X e env c) (g : strHas s c = true) (hs : starEach [e] X.env = [(false, eval e X.env)] := by exact star_plain rfl _ _) (hbase : attributeBase o "index" X.env (eval o X.env) = eval o X.env := by rfl) (hline : (apos.endLine == pos.line) = true := by rfl) :
    EX X (.Call (.Attribute o "index" apos) [e] [] pos) env ((strIx s c : Nat) : Int) := ex_of (pe_m1 F.slot_str_index F.type_str_index mt_sindex (mE X o) (mE X e) hs hbase hline) fun O fp σ H S Q q => ho O fp σ H S _ fun v H1 e1 r1 => ⟨⟨s, r1⟩, h O fp σ H1 (S.ex e1) _ fun u H2 e2 r2 => by
  unfold strHas at g
  unfold strIx at q
  cases ho : Builtin.Str.occurrences s c 0 s.length 1 with
  | nil => rw [ho] at g; cases g
  | cons i rest =>
    rw [ho] at q
    exact ⟨s, c, i, rest, r1, by rw [show u = .str c from r2], ho, q _ H2 (e1.trans e2) rfl⟩⟩
theorem rv_inStr {K : PySem.W.Frag} {i j : Str} : RV K (fun x y H Q => ∃ i j, x = .str i ∧ y = .str j ∧ Q (.bl (!(Builtin.Str.occurrences j i 0 j.length 1).isEmpty)) H) i j (strHas j i) := fun U v1 v2 H _ r1 r2 Q q => ⟨i, j, r1, r2, q _ H (Ex.refl H) rfl⟩
theorem rv_notinStr {K : PySem.W.Frag} {i j : Str} : RV K (fun x y H Q => ∃ i j, x = .str i ∧ y = .str j ∧ Q (.bl (!(!(Builtin.Str.occurrences j i 0 j.length 1).isEmpty))) H) i j (!strHas j i) := fun U v1 v2 H _ r1 r2 Q q => ⟨i, j, r1, r2, q _ H (Ex.refl H) rfl⟩
theorem ex_inStr {i j : Str} (ha : EX X a env i) (hb : EX X b env j) (hm : behindInMarks .In b = false := by rfl) : EX X (.Compare a [.In] [b] pos) env (strHas j i) := ex_cmp op_in_str ha hb rv_inStr hm
theorem et_inStr {i j : Str} (ha : EX X a env i) (hb : EX X b env j) (hm : behindInMarks .In b = false := by rfl) : ET X (.Compare a [.In] [b] pos) env (strHas j i) := et_cmp op_in_str ha hb rv_inStr hm
theorem ex_notinStr {i j : Str} (ha : EX X a env i) (hb : EX X b env j) (hm : behindInMarks .NotIn b = false := by rfl) : EX X (.Compare a [.NotIn] [b] pos) env (!strHas j i) := ex_cmp op_notin_str ha hb rv_notinStr hm
theorem et_notinStr {i j : Str} (ha : EX X a env i) (hb : EX X b env j) (hm : behindInMarks .NotIn b = false := by rfl) : ET X (.Compare a [.NotIn] [b] pos) env (!strHas j i) := et_cmp op_notin_str ha hb rv_notinStr hm
/-- int(text) -/
def intT (s : Str) : Int := (intText? s).getD 0
theorem ex_intT (hm : X.mg "int" = none) (h : EX X e env s) (g : (intText? s).isSome = true ∧ s.length ≤ 640) (hg : Gl X "int" := by rfl) (hs : starEach [e] X.env = (false, eval e X.env) :: starEach [] X.env := by exact star_plain rfl _ _) : EX X (.Call (.Name "int" p) [e] [] pos) env (intT s) :=
  ex_callTy call_int_str hm (by decide +kernel) (ea1 h hs) (rc1 fun U v H bn r Q q => by
    have r : v = .str s := r
    subst r
    obtain ⟨g1, g2⟩ := g
    unfold intT at q
    cases hi : intText? s with
    | none => rw [hi] at g1; cases g1
    | some n =>
      rw [hi] at q
      exact ⟨s, n, rfl, hi, g2, q _ H (Ex.refl H) rfl⟩) hg (by decide) (by decide) hs
end
/-! what is told, or refused: a pair with a word ahead -/
inductive Tld where
  | told (r : Rat)
  | refused (b : Bool)
def Tld.comps : Tld → List Sl
  | .told r => [.dat (Str.ofString "told"), .dat r]
  | .refused b => [.dat (Str.ofString "refused"), .dat b]
instance : Dat Tld := ⟨fun K H v x => repT K H v x.comps, fun e h => h.mono e⟩
instance : Tup Tld := ⟨Tld.comps, fun _ _ _ _ => rfl⟩
def Tld.eqv : Tld → Tld → Bool
  | .told r, .told r' => decide (r = r')
  | .refused b, .refused b' => decide (b = b')
  | _, _ => false
def Tld.isTold : Tld → Bool
  | .told _ => true
  | _ => false
def Tld.val : Tld → Rat
  | .told r => r
  | _ => 0
instance : NoMut Tld := ⟨fun K Hf Hf' v x h r => by
  cases x with
  | told q => exact NoMut.cut (α := Str × Rat) K Hf Hf' v (Str.ofString "told", q) h r
  | refused b => exact NoMut.cut (α := Str × Bool) K Hf Hf' v (Str.ofString "refused", b) h r⟩
section
variable {X : Cx} {pins : List (Addr × Obj)} {σ : L2.St} {H : Hp} {s : Shared} {A : Around} {v w : V}
theorem items_ofT {vs ws : List V} {us us' : List Value} {f : Nat → Bool} (r : Vals vs us) (r' : Vals ws us') (h : ∀ j v w, vs[j]? = some v → ws[j]? = some w → (∀ i, i < j → f i = true) → EqS X A.in1 s v w (f j)) : RQ1.ItemsT X.prog X.w A s us.toArray us'.toArray f := fun j h1 h2 hall => by
  have k1 : j < vs.length := by rw [r.length]; simpa using h1
  have k2 : j < ws.length := by rw [r'.length]; simpa using h2
  obtain ⟨u, hu, ru⟩ := r.get (List.getElem?_eq_getElem k1)
  obtain ⟨u', hu', ru'⟩ := r'.get (List.getElem?_eq_getElem k2)
  have e1 : us[j]? = some us.toArray[j] := by
    have q : j < us.length := by simpa using h1
    rw [List.getElem?_eq_getElem q]
    simp
  have e2 : us'[j]? = some us'.toArray[j] := by
    have q : j < us'.length := by simpa using h2
    rw [List.getElem?_eq_getElem q]
    simp
  rw [e1] at hu
  rw [e2] at hu'
  cases hu
  cases hu'
  exact h j _ _ (List.getElem?_eq_getElem k1) (List.getElem?_eq_getElem k2) hall _ _ ru ru'
theorem rc_tupT (I : Inv X pins σ H s) {a b : Addr} {vs ws : List V} {f : Nat → Bool} (hu : A.units < cLine) (h1 : SqT X.K H a vs) (h2 : SqT X.K H b ws) (hz : vs.length = ws.length) (h : ∀ j v w, vs[j]? = some v → ws[j]? = some w → (∀ i, i < j → f i = true) → EqS X A.in1 s v w (f j)) :
    RQ1.RcP X.prog X.w A s (.ref a) (.ref b) ((List.range vs.length).all f) := by
  obtain ⟨us, r, e, _⟩ := I.tuple h1
  obtain ⟨us', r', e', _⟩ := I.tuple h2
  have q := RQ1.rc_tupsT (P := X.prog) (w := X.w) e e' (by rw [List.size_toArray, List.size_toArray, ← r.length, ← r'.length]; exact hz) hu (items_ofT r r' h)
  rw [List.size_toArray, ← r.length] at q
  exact q
theorem rc_mixed {α β γ : Type} [Dat α] [DEq α] [Dat β] [Dat γ] {a1 b1 : α} {x : β} {y : γ} (I : Inv X pins σ H s) (hu : A.units + (DEq.dep α + 1) < cLine) (h : repT X.K H v [.dat a1, .dat x]) (h' : repT X.K H w [.dat b1, .dat y]) (hne : DEq.eqv a1 b1 = false) : ∃ a b, v = .ref a ∧ w = .ref b ∧ RQ1.RcP X.prog X.w A s (.ref a) (.ref b) false := by
  obtain ⟨a, vs, rfl, t1, r1⟩ := h
  obtain ⟨b, ws, rfl, t2, r2⟩ := h'
  match vs, ws, r1, r2 with
  | [v1, v2], [w1, w2], ⟨p1, p2, _⟩, ⟨q1, q2, _⟩ =>
    have hv := units_in1 hu
    have q := rc_tupT (A := A) I (f := fun j => j != 0) (by omega) t1 t2 rfl (fun j v w hj hk hall => by
      match j with
      | 0 =>
        cases hj; cases hk
        have := DEq.run (A := A.in1) I (by omega) p1 q1
        rw [hne] at this
        exact this
      | j + 1 => have := hall 0 (by omega); cases this)
    exact ⟨a, b, rfl, rfl, by simpa [List.range_succ] using q⟩
theorem same_mixed {α β γ : Type} [Dat α] [DEq α] [Dat β] [Dat γ] {a1 b1 : α} {x : β} {y : γ} (I : Inv X pins σ H s) (h : repT X.K H v [.dat a1, .dat x]) (h' : repT X.K H v [.dat b1, .dat y]) : DEq.eqv a1 b1 = true := by
  obtain ⟨a, vs, rfl, t1, r1⟩ := h
  obtain ⟨b, ws, e, t2, r2⟩ := h'
  cases e
  cases I.tuple_inj t1 t2
  match vs, r1, r2 with
  | [v1, v2], ⟨p1, _⟩, ⟨q1, _⟩ => exact DEq.same I p1 q1
theorem ne1 : DEq.eqv (Str.ofString "told") (Str.ofString "refused") = false := decide_eq_false (by decide +kernel)
theorem ne2 : DEq.eqv (Str.ofString "refused") (Str.ofString "told") = false := decide_eq_false (by decide +kernel)
theorem eq1 (x : Str) : DEq.eqv x x = true := decide_eq_true rfl
theorem rc_ta {x y : Tld} (I : Inv X pins σ H s) (hu : A.units + 3 < cLine) (h : Dat.rep X.K H v x) (h' : Dat.rep X.K H w y) : ∃ a b, v = .ref a ∧ w = .ref b ∧ RQ1.RcP X.prog X.w A s (.ref a) (.ref b) (Tld.eqv x y) := by
  have m01 : max 0 1 + 1 = 2 := rfl
  have m00 : max 0 0 + 1 = 1 := rfl
  cases x with
  | told r => cases y with
    | told r' =>
      obtain ⟨a, b, h1, h2, h3⟩ := rc_pair (α := Str) (β := Rat) I (by show A.units + (max 0 1 + 1) < cLine; omega) h h'
      rw [eq1, Bool.true_and] at h3
      exact ⟨a, b, h1, h2, h3⟩
    | refused b => exact rc_mixed (α := Str) (β := Rat) (γ := Bool) I (by show A.units + (0 + 1) < cLine; omega) h h' ne1
  | refused b => cases y with
    | told r => exact rc_mixed (α := Str) (β := Bool) (γ := Rat) I (by show A.units + (0 + 1) < cLine; omega) h h' ne2
    | refused b' =>
      obtain ⟨a1, a2, h1, h2, h3⟩ := rc_pair (α := Str) (β := Bool) I (by show A.units + (max 0 0 + 1) < cLine; omega) h h'
      rw [eq1, Bool.true_and] at h3
      exact ⟨a1, a2, h1, h2, h3⟩
theorem same_ta {x y : Tld} (I : Inv X pins σ H s) (h : Dat.rep X.K H v x) (h' : Dat.rep X.K H v y) : Tld.eqv x y = true := by
  cases x with
  | told r => cases y with
    | told r' =>
      have q := same_pair (α := Str) (β := Rat) I h h'
      rw [eq1, Bool.true_and] at q
      exact q
    | refused b =>
      have q := same_mixed (α := Str) (β := Rat) (γ := Bool) I h h'
      rw [ne1] at q
      cases q
  | refused b => cases y with
    | told r' =>
      have q := same_mixed (α := Str) (β := Bool) (γ := Rat) I h h'
      rw [ne2] at q
      cases q
    | refused b' =>
      have q := same_pair (α := Str) (β := Bool) I h h'
      rw [eq1, Bool.true_and] at q
      exact q
end
instance : DEq Tld := ⟨3, Tld.eqv, fun {X pins σ H s v x y} I h h' => same_ta I h h', fun {X pins σ H s A v w x y} I hu h h' => by
  obtain ⟨a, b, rfl, rfl, q⟩ := rc_ta I hu h h'
  refine eqS_ref (α := Tld) (fun e => ?_) q
  subst e
  exact same_ta I h h'⟩
instance : DRc Tld := ⟨fun {X pins σ H s A v w x y} I hu h h' => rc_ta I hu h h'⟩
section
variable {X : Cx} {env : Env'} {e : Expr} {pos : Pos} {a b : Expr}
theorem ex_taT {r : Rat} (h : EX X e env (Str.ofString "told", r)) : EX X e env (Tld.told r) := h
theorem ex_taR {b : Bool} (h : EX X e env (Str.ofString "refused", b)) : EX X e env (Tld.refused b) := h
theorem ex_taV {x : Tld} (h : EX X a env x) (g : x.isTold = true) (hb : EX X b env (1 : Int)) (hs : PlainIx b := by exact fun _ _ => rfl) : EX X (.Subscript a b pos) env x.val := by
  cases x with
  | told r => exact ex_ixT (k := 1) (x := r) h hb rfl hs
  | refused b => cases g
end
end R
set_option maxHeartbeats 1000000
set_option autoImplicit false
/-! isinstance(e, (A, B, ..)) of the exception that is handled; tuples of which a part may raise -/
namespace R
open PySem PySem.Spec PyProof.Rows L2
def rIsEn (K : PySem.W.Frag) (D a : Addr) : List V → Hp → VK → Prop := fun xs H Q => ∃ (tp : Addr) (cs : List Addr) (b : Bool), xs = [V.ref a, V.ref tp] ∧ H tp = some (.tup (cs.map V.ref)) ∧ PySem.W.kitAny K (.ref D) (cs.map Value.ref) = some b ∧ Q (.bl b) H
theorem vals_refs {cs : List Addr} : ∀ {us : List Value}, Vals (cs.map V.ref) us → us = cs.map Value.ref := by
  induction cs with
  | nil => intro us r; cases r; rfl
  | cons c cs ih =>
    intro us r
    cases r with
    | cons ra rr =>
      cases (show _ = Value.ref c from ra)
      rw [ih rr]; rfl
theorem call_isPn {X : Cx} {a D : Addr} {oe : Obj} (C : ExcC X.K D) (hz : Zc (.ref D) none oe) (hf : ∃ vs, oe.data = .fields vs) (hp : (a, oe) ∈ X.pn) : CallR X (.builtin "isinstance") (rIsEn X.K D a) := by
  rintro pins s σ H xs us Q I r ⟨tp, cs, b, rfl, hT, e, q⟩
  obtain ⟨u1, u2, rfl, r1, r2⟩ := vals2 r
  cases (show u1 = Value.ref a from r1)
  cases (show u2 = Value.ref tp from r2)
  have hget := (I.pin (a, oe) (List.mem_append_left _ hp)).1
  obtain ⟨ws, hv⟩ := hf
  have J : PySem.W.InstAt s.heap a oe D none := by
    obtain ⟨oc, od, oda, osl⟩ := oe
    obtain ⟨h1, h2⟩ := hz
    dsimp only at h1 h2 hv
    subst h1 h2 hv
    exact ⟨hget, rfl, rfl, trivial⟩
  obtain ⟨_, its, rv, o, h1, h2, n, h3⟩ := (show ObjOk X.prog X.w H s.heap tp (.tup (cs.map V.ref)) from I.hok tp _ hT)
  obtain rfl := vals_refs rv
  obtain ⟨oc, od, dt, sl⟩ := o
  simp only at h2 h3
  subst h2 h3
  exact PySem.W.kia_tup (PySem.W.handS_kitx_exc C.hg C.hk C.hs C.hd C.ha C.hn C.ht C.hm) I.kIn J h1 e (fun z => nomatch z) fun tk => ⟨.bl b, H, I.kept (t' := tk) fun _ _ z => z, rfl, q⟩
/-- a class, as a value -/
structure ClV where
  a : Addr
instance : Dat ClV := ⟨fun _ _ v x => v = .ref x.a, fun _ h => h⟩
inductive IsCL (X : Cx) (all : List Str) : List Expr → List (List Str) → Prop
  | nil : IsCL X all [] []
  | cons {c : Str} {p : Pos} {es : List Expr} {s : List Str} {ss : List (List Str)} (I : IsC X.K X.mg all s c) (hg : Gl X c) (hd : (c == ("__debug__" : Str)) = false) (r : IsCL X all es ss) : IsCL X all (.Name c p :: es) (s :: ss)
section
variable {X : Cx} {W : WX} {env : Env'}
theorem IsCL.get {all : List Str} {es : List Expr} {ss : List (List Str)} (L : IsCL X all es ss) {n : Str} {D : Addr} (hn : n ∈ all) (hm : X.mg n = some (.ref D)) : ∃ cs : List Addr, EA X es env (cs.map fun a => Sl.dat (ClV.mk a)) ∧ PySem.W.kitAny X.K (.ref D) (cs.map Value.ref) = some (ss.any fun s => s.contains n) ∧ cs.length = es.length := by
  induction L with
  | nil => exact ⟨[], ea_nil, kitAny_nil, rfl⟩
  | cons I hg hd r ih =>
    obtain ⟨cs, h1, h2, h3⟩ := ih
    obtain ⟨Cv, m1, tb⟩ := I.ex
    obtain ⟨D2, q1, q2, q3⟩ := tb n hn
    rw [hm] at q1
    cases q1
    refine ⟨Cv :: cs, ea_cons (ex_of (pe_glob (v := .ref Cv) hg m1 rfl hd) fun O fp σ H S Q q => q _ H (Ex.refl H) rfl) h1, ?_⟩
    exact ⟨kitAny_cons q3 (fun hb => by rw [List.any_cons, hb, Bool.false_or]; exact h2) (fun hb => by rw [List.any_cons, hb]; rfl), by rw [List.length_cons, List.length_cons, h3]⟩
theorem arep_cls {K : PySem.W.Frag} {H : Hp} : ∀ {cs : List Addr} {vs : List V}, ARep K H vs (cs.map fun a => Sl.dat (ClV.mk a)) → vs = cs.map V.ref
  | [], [], _ => rfl
  | c :: cs, v :: vs, h => by rw [show v = V.ref c from h.1, arep_cls h.2]; rfl
  | [], _ :: _, h => by simp [ARep] at h
  | _ :: _, [], h => by simp [ARep] at h
theorem ex_isPn {i j : Nat} {v : Str} {all : List Str} {ss : List (List Str)} {e0 : Expr} {es : List Expr} {e : Exn} {ad : Addr} {oe : Obj} {cls : Value} {d : Option Addr} {Hf : Hp} {p p2 pt pos : Pos} (L : IsCL X all (e0 :: es) ss) (hi : X.mg "isinstance" = none) (hall : exnIn all e = true) (h1 : ∃ n, e = .one n) (hz : Zc cls d oe) (hfd : ∃ vs, oe.data = .fields vs) (xa : ExAt X.mg X.K Hf e cls d) (hp : (ad, oe) ∈ X.pn) (hv : env[i]? = some (.dat (ExV.mk ad))) (hl : (e0 :: es).length ≤ 100000 := by exact Nat.le_of_ble_eq_true rfl)
    (hN : X.N[i]? = some v := by rfl) (hvis : Vis X.env.scope v := by first | exact Or.inl rfl | exact Or.inr (Or.inl rfl) | exact Or.inr (Or.inr rfl)) (hd : (v == ("__debug__" : Str)) = false := by decide) (hc : (v == ("__classdict__" : Str)) = false := by decide)
    (hg : Gl X "isinstance" := by rfl) : EX X (.Call (.Name "isinstance" p2) [.Name v p, .Tuple (e0 :: es) j pt] [] pos) env (ss.any fun s => exnIn s e) := by
  obtain ⟨n, rfl⟩ := h1
  obtain ⟨x1, x2⟩ := xa
  have hn : n ∈ all := List.contains_iff_mem.mp hall
  subst x2
  have hcls : ∃ D, X.mg n = some (.ref D) ∧ ExcC X.K D := by
    cases L with
    | cons I hg hd r =>
      obtain ⟨Cv, m1, tb⟩ := I.ex
      obtain ⟨D, q1, q2, q3⟩ := tb n hn
      exact ⟨D, q1, q2⟩
  obtain ⟨D, q1, q2⟩ := hcls
  rw [q1] at x1
  cases x1
  obtain ⟨cs, ea, kt, cl⟩ := L.get (env := env) hn q1
  refine ex_of (pe_callB (call_isPn q2 hz hfd hp) hg hi (by decide +kernel) (pa_cons (pe_var hN hvis hd hc) (pa_cons (pe_tup (mA X (e0 :: es))) pa_nil (star_plain rfl _ _)) (star_plain rfl _ _)) (by decide) (by decide) (star_plain rfl _ _) (star_pl rfl)) ?_
  intro O fp σ H S Q q
  obtain ⟨v1, w1, w2⟩ := S.sl i _ hv
  have w2 : v1 = .ref ad := w2
  subst w2
  refine ⟨.ref ad, w1, ea O fp σ H S _ fun vs H1 e1 ar => ?_⟩
  obtain rfl := arep_cls ar
  refine ⟨sz_of (by rw [List.length_map, cl]; exact hl), fun u hu => ⟨u, cs, _, rfl, upd_same, kt, q _ _ (e1.trans (Ex.new hu)) rfl⟩⟩
end
/-! tuples of which a part may raise -/
section
variable {X : Cx} {W : WX} {env : Env'} {α β : Type} [Dat α] [Dat β] {x : α} {y : β} {a b : Expr} {pos : Pos} {j : Nat}
theorem exx_pair2 {Rp : β → Prop} {Xp : Exn → Prop} (ha : EX X a env x) (hb : EXX X W b env Rp Xp) (h1 : starEach [a, b] X.env = (false, eval a X.env) :: starEach [b] X.env := by exact star_plain rfl _ _) (h2 : starEach [b] X.env = (false, eval b X.env) :: starEach [] X.env := by exact star_plain rfl _ _) :
    EXX X W (.Tuple [a, b] j pos) env (fun p : α × β => ∃ r, Rp r ∧ p = (x, r)) Xp := fun O fp σ H S Q q qx => by
  refine tE_of fun pins s I => (pe_tup (pa_cons (mE X a) (pa_cons (mE X b) pa_nil h2) h1)).run pins s σ H Q I ?_
  refine ha O fp σ H S _ fun v1 H1 e1 r1 => hb O fp σ H1 (S.ex e1) _ (fun r v2 H2 hr e2 r2 => ⟨show 2 ≤ sizeLine by decide, fun u hu => ?_⟩) (fun c cls d H2 hx e2 xa => qx c cls d H2 hx (e1.trans e2) xa)
  have e3 : Ex H2 (upd H2 u (.tup [v1, v2])) := Ex.new hu
  exact q (x, r) _ _ ⟨r, hr, rfl⟩ ((e1.trans e2).trans e3) ⟨u, _, rfl, .inl (.inl (upd_out (((S.ex e1).ex e2).fresh hu))), Dat.mono (wo_ex (e2.trans e3)).le r1, Dat.mono (wo_ex e3).le r2, trivial⟩
theorem exx_pair1 {Rp : α → Prop} {Xp : Exn → Prop} (ha : EXX X W a env Rp Xp) (hb : EX X b env y) (h1 : starEach [a, b] X.env = (false, eval a X.env) :: starEach [b] X.env := by exact star_plain rfl _ _) (h2 : starEach [b] X.env = (false, eval b X.env) :: starEach [] X.env := by exact star_plain rfl _ _) :
    EXX X W (.Tuple [a, b] j pos) env (fun p : α × β => ∃ r, Rp r ∧ p = (r, y)) Xp := fun O fp σ H S Q q qx => by
  refine tE_of fun pins s I => (pe_tup (pa_cons (mE X a) (pa_cons (mE X b) pa_nil h2) h1)).run pins s σ H Q I ?_
  refine ha O fp σ H S _ (fun r v1 H1 hr e1 r1 => hb O fp σ H1 (S.ex e1) _ fun v2 H2 e2 r2 => ⟨show 2 ≤ sizeLine by decide, fun u hu => ?_⟩) (fun c cls d H1 hx e1 xa => qx c cls d H1 hx e1 xa)
  have e3 : Ex H2 (upd H2 u (.tup [v1, v2])) := Ex.new hu
  exact q (r, y) _ _ ⟨r, hr, rfl⟩ ((e1.trans e2).trans e3) ⟨u, _, rfl, .inl (.inl (upd_out (((S.ex e1).ex e2).fresh hu))), Dat.mono (wo_ex (e2.trans e3)).le r1, Dat.mono (wo_ex e3).le r2, trivial⟩
theorem exx_told {Rp : Rat → Prop} {Xp : Exn → Prop} (ha : EX X a env (Str.ofString "told")) (hb : EXX X W b env Rp Xp) (h1 : starEach [a, b] X.env = (false, eval a X.env) :: starEach [b] X.env := by exact star_plain rfl _ _) (h2 : starEach [b] X.env = (false, eval b X.env) :: starEach [] X.env := by exact star_plain rfl _ _) :
    EXX X W (.Tuple [a, b] j pos) env (fun p : Tld => ∃ r, Rp r ∧ p = Tld.told r) Xp := fun O fp σ H S Q q qx =>
  exx_pair2 ha hb h1 h2 O fp σ H S Q (fun p v H' ⟨r, hr, e⟩ e1 rp => q (Tld.told r) v H' ⟨r, hr, rfl⟩ e1 (by subst e; exact rp)) qx
end
end R
set_option maxHeartbeats 1000000
set_option autoImplicit false
/-! is None, as a value and as a test -/
namespace R
open PySem PySem.Spec PyProof.Rows L2
class NoNone (α : Type) [Dat α] : Prop where
  no : ∀ (K : PySem.W.Frag) (H : Hp) (v : V) (y : α), Dat.rep K H v y → v ≠ .non
instance : NoNone Int := ⟨fun K H v y h e => by have h : v = .int y := h; rw [h] at e; cases e⟩
instance : NoNone Bool := ⟨fun K H v y h e => by have h : v = .bl y := h; rw [h] at e; cases e⟩
instance : NoNone Str := ⟨fun K H v y h e => by have h : v = .str y := h; rw [h] at e; cases e⟩
theorem tup_none {K : PySem.W.Frag} {H : Hp} {v : V} {cs : List Sl} (h : repT K H v cs) : v ≠ .non := fun e => by
  obtain ⟨a, vs, h0, _⟩ := h
  rw [h0] at e
  cases e
instance {α β : Type} [Dat α] [Dat β] : NoNone (α × β) := ⟨fun K H v y h => tup_none h⟩
instance {α β γ : Type} [Dat α] [Dat β] [Dat γ] : NoNone (T3 α β γ) := ⟨fun K H v y h => tup_none h⟩
instance {α β γ δ : Type} [Dat α] [Dat β] [Dat γ] [Dat δ] : NoNone (T4 α β γ δ) := ⟨fun K H v y h => tup_none h⟩
instance : NoNone Rat := ⟨fun K H v y h => tup_none h⟩
instance {α : Type} [Dat α] : NoNone (List α) := ⟨fun K H v y h e => by obtain ⟨a, vs, h0, _⟩ := h; rw [h0] at e; cases e⟩
instance {α : Type} [Dat α] : NoNone (Dc α) := ⟨fun K H v y h e => by obtain ⟨a, vs, h0, _⟩ := h; rw [h0] at e; cases e⟩
section
variable {X : Cx} {env : Env'} {α : Type} [Dat α] [NoNone α] {a : Expr} {pos pos' : Pos} {m : Option α} {j : Nat}
theorem xx_isN (h : EX X a env m) : EX X (.Compare a [.Is] [.Constant .none j pos'] pos) env m.isNone := ex_isN NoNone.no h
theorem xx_isNotN (h : EX X a env m) : EX X (.Compare a [.IsNot] [.Constant .none j pos'] pos) env (!m.isNone) := ex_isNotN NoNone.no h
theorem xt_isN (h : EX X a env m) : ET X (.Compare a [.Is] [.Constant .none j pos'] pos) env m.isNone := et_of (pt_cmp (pc_isN (mE X a)) (nobehind _ (by decide) (by decide))) fun O fp σ H S Q q => h O fp σ H S _ fun v H' e1 r => by
  refine ⟨m.isNone, ?_, q _ e1⟩
  show V.bl _ = V.bl _
  cases m with
  | none => rw [show v = .non from r]; rfl
  | some y => rw [decide_eq_false (NoNone.no (α := α) _ _ _ y r)]; rfl
theorem xt_isNotN (h : EX X a env m) : ET X (.Compare a [.IsNot] [.Constant .none j pos'] pos) env (!m.isNone) := et_of (pt_cmp (pc_notN (mE X a)) (nobehind _ (by decide) (by decide))) fun O fp σ H S Q q => h O fp σ H S _ fun v H' e1 r => by
  refine ⟨!m.isNone, ?_, q _ e1⟩
  show V.bl _ = V.bl _
  cases m with
  | none => rw [show v = .non from r]; rfl
  | some y => rw [decide_eq_false (NoNone.no (α := α) _ _ _ y r)]; rfl
end
end R
set_option pp.maxSteps 400
set_option maxHeartbeats 40000000
set_option autoImplicit false
namespace G
open PySem PySem.Spec PyProof.Rows L2 R
def m_divisor_of (one_ : Int) (other_ : Int) : Int :=
  gcdI one_ other_
def ok_divisor_of (one_ : Int) (other_ : Int) : Prop :=
  True
theorem okt_divisor_of (one_ : Int) (other_ : Int) : ok_divisor_of one_ other_ := by
  unfold ok_divisor_of
  simp
def m_whole_by (word_ : Str) (most_ : Int) : Except Exn (Int) :=
  (cond ((decide (word_ = (Str.ofString ""))) || ((decide (most_ < (word_.length : Int))) || ((decide ((1 : Int) < (word_.length : Int))) && (decide ((strAt word_ (0 : Int)) = (Str.ofString "0")))))) (.error (.one "NoWish")) (cond (!((List.map (fun (x7 : Str) => (strHas (Str.ofString "0123456789") x7)) (R.signs word_)).all id)) (.error (.one "NoWish")) (.ok (intT word_))))
def ok_whole_by (word_ : Str) (most_ : Int) : Prop :=
  ((decide (word_ = (Str.ofString ""))) = false → word_.length ≤ 100000) ∧ ((decide (word_ = (Str.ofString ""))) = false → ((decide (most_ < (word_.length : Int))) = false → word_.length ≤ 100000)) ∧ ((decide (word_ = (Str.ofString ""))) = false → ((decide (most_ < (word_.length : Int))) = false → ((decide ((1 : Int) < (word_.length : Int))) = true → StrIx word_ (0 : Int)))) ∧ ((((decide (word_ = (Str.ofString ""))) || ((decide (most_ < (word_.length : Int))) || ((decide ((1 : Int) < (word_.length : Int))) && (decide ((strAt word_ (0 : Int)) = (Str.ofString "0")))))) = true → True) ∧ (((decide (word_ = (Str.ofString ""))) || ((decide (most_ < (word_.length : Int))) || ((decide ((1 : Int) < (word_.length : Int))) && (decide ((strAt word_ (0 : Int)) = (Str.ofString "0")))))) = false → (R.signs word_).length ≤ 100000 ∧ (((!((List.map (fun (x7 : Str) => (strHas (Str.ofString "0123456789") x7)) (R.signs word_)).all id)) = true → True) ∧ ((!((List.map (fun (x7 : Str) => (strHas (Str.ofString "0123456789") x7)) (R.signs word_)).all id)) = false → ((intText? word_).isSome = true ∧ word_.length ≤ 640) ∧ True))))
def m_read_number (word_ : Str) : Except Exn (Rat) :=
  (let plain_1 : Str := word_; (let j5 : Str := cond (Txt.startswith word_ (Str.ofString "-")) (let plain_2 : Str := (cutSt word_ (some (1 : Int)) none); plain_2) plain_1; let plain_6 : Str := j5; (let p8 : (T3 (Str) (Str) (Str)) := (part3 plain_6 (Str.ofString "/")); let top_9 : Str := p8.a; let slash_10 : Str := p8.b; let bottom_11 : Str := p8.c; ((m_whole_by top_9 (6 : Int)).bind (fun number_13 => (cond (!decide (slash_10 = (Str.ofString ""))) ((m_whole_by bottom_11 (6 : Int)).bind (fun number_15 => (cond ((decide (((number_13, (1 : Int)).1, number_15).2 < (2 : Int))) || (!decide ((m_divisor_of ((number_13, (1 : Int)).1, number_15).1 ((number_13, (1 : Int)).1, number_15).2) = (1 : Int)))) (.error (.one "NoWish")) (cond (decide (plain_6 = word_)) (.ok (Rat.divInt ((number_13, (1 : Int)).1) (number_15))) (cond (decide (((number_13, (1 : Int)).1, number_15).1 = (0 : Int))) (.error (.one "NoWish")) (.ok (Rat.divInt (((0 : Int) - ((number_13, (1 : Int)).1, number_15).1)) (((number_13, (1 : Int)).1, number_15).2)))))))) (cond (decide (plain_6 = word_)) (.ok (Rat.divInt (number_13) ((1 : Int)))) (cond (decide ((number_13, (1 : Int)).1 = (0 : Int))) (.error (.one "NoWish")) (.ok (Rat.divInt (((0 : Int) - (number_13, (1 : Int)).1)) ((number_13, (1 : Int)).2)))))))))))
def ok_read_number (word_ : Str) : Prop :=
  (let plain_1 : Str := word_; ((Txt.startswith word_ (Str.ofString "-")) = true → word_.length ≤ 100000 ∧ (let plain_2 : Str := (cutSt word_ (some (1 : Int)) none); True)) ∧ ((Txt.startswith word_ (Str.ofString "-")) = false → True) ∧ (let j5 : Str := cond (Txt.startswith word_ (Str.ofString "-")) (let plain_2 : Str := (cutSt word_ (some (1 : Int)) none); plain_2) plain_1; let plain_6 : Str := j5; plain_6.length ≤ 100000 ∧ (let p8 : (T3 (Str) (Str) (Str)) := (part3 plain_6 (Str.ofString "/")); let top_9 : Str := p8.a; let slash_10 : Str := p8.b; let bottom_11 : Str := p8.c; ok_whole_by top_9 (6 : Int) ∧ (∀ number_13, (m_whole_by top_9 (6 : Int)) = .ok number_13 → (((!decide (slash_10 = (Str.ofString ""))) = true → ok_whole_by bottom_11 (6 : Int) ∧ (∀ number_15, (m_whole_by bottom_11 (6 : Int)) = .ok number_15 → ((((decide (((number_13, (1 : Int)).1, number_15).2 < (2 : Int))) || (!decide ((m_divisor_of ((number_13, (1 : Int)).1, number_15).1 ((number_13, (1 : Int)).1, number_15).2) = (1 : Int)))) = true → True) ∧ (((decide (((number_13, (1 : Int)).1, number_15).2 < (2 : Int))) || (!decide ((m_divisor_of ((number_13, (1 : Int)).1, number_15).1 ((number_13, (1 : Int)).1, number_15).2) = (1 : Int)))) = false → (((decide (plain_6 = word_)) = true → IsQ ((number_13, (1 : Int)).1) (number_15) ∧ True) ∧ ((decide (plain_6 = word_)) = false → (((decide (((number_13, (1 : Int)).1, number_15).1 = (0 : Int))) = true → True) ∧ ((decide (((number_13, (1 : Int)).1, number_15).1 = (0 : Int))) = false → IsQ (((0 : Int) - ((number_13, (1 : Int)).1, number_15).1)) (((number_13, (1 : Int)).1, number_15).2) ∧ True)))))))) ∧ ((!decide (slash_10 = (Str.ofString ""))) = false → (((decide (plain_6 = word_)) = true → IsQ (number_13) ((1 : Int)) ∧ True) ∧ ((decide (plain_6 = word_)) = false → (((decide ((number_13, (1 : Int)).1 = (0 : Int))) = true → True) ∧ ((decide ((number_13, (1 : Int)).1 = (0 : Int))) = false → IsQ (((0 : Int) - (number_13, (1 : Int)).1)) ((number_13, (1 : Int)).2) ∧ True))))))))))
def m_show_number (number_ : Rat) : Str :=
  (cond (decide (((number_.den : Nat) : Int) = (1 : Int))) (showI number_.num) (((showI number_.num) ++ (Str.ofString "/")) ++ (showI ((number_.den : Nat) : Int))))
def ok_show_number (number_ : Rat) : Prop :=
  (((decide (((number_.den : Nat) : Int) = (1 : Int))) = true → Shown number_.num ∧ True) ∧ ((decide (((number_.den : Nat) : Int) = (1 : Int))) = false → Shown number_.num ∧ StrRoom (showI number_.num) (Str.ofString "/") ∧ Shown ((number_.den : Nat) : Int) ∧ StrRoom ((showI number_.num) ++ (Str.ofString "/")) (showI ((number_.den : Nat) : Int)) ∧ True))
def m_l_cell_at (script_ : List Int) (k_ : Int) : Int :=
  (cond (decide (k_ < (script_.length : Int))) (List.getD script_ (Int.toNat k_) (0 : Int)) (0 : Int))
def ok_l_cell_at (script_ : List Int) (k_ : Int) : Prop :=
  (((decide (k_ < (script_.length : Int))) = true → (0 ≤ k_ ∧ k_ < (script_.length : Int)) ∧ True) ∧ ((decide (k_ < (script_.length : Int))) = false → True))
def m_l_shared (one_ : Int) (other_ : Int) : Int :=
  gcdI one_ other_
def ok_l_shared (one_ : Int) (other_ : Int) : Prop :=
  True
theorem okt_l_shared (one_ : Int) (other_ : Int) : ok_l_shared one_ other_ := by
  unfold ok_l_shared
  simp
def m_l_odd (cell_ : Int) : Str :=
  (let some_1 : List Str := [(Str.ofString ""), (Str.ofString "-"), (Str.ofString "0"), (Str.ofString "-0"), (Str.ofString "00"), (Str.ofString "1/1"), (Str.ofString "2/4"), (Str.ofString "3/"), (Str.ofString "/3"), (Str.ofString "3//2"), (Str.ofString "1/-2"), (Str.ofString "--1"), (Str.ofString "1.5"), (Str.ofString "+1"), (Str.ofString "1_0")]; (let some_2 : List Str := (some_1 ++ [(Str.ofString "1000000"), (Str.ofString "1/1000000"), (Str.ofString "0/5"), (Str.ofString "-3/2"), (Str.ofString "999999/2"), (Str.ofString "1/0"), (Str.ofString "x"), (Str.ofString "1 2"), (Str.ofString "01/2"), (Str.ofString "1/02")]); (List.getD some_2 (Int.toNat (cell_ % (25 : Int))) (Str.ofString ""))))
def ok_l_odd (cell_ : Int) : Prop :=
  (let some_1 : List Str := [(Str.ofString ""), (Str.ofString "-"), (Str.ofString "0"), (Str.ofString "-0"), (Str.ofString "00"), (Str.ofString "1/1"), (Str.ofString "2/4"), (Str.ofString "3/"), (Str.ofString "/3"), (Str.ofString "3//2"), (Str.ofString "1/-2"), (Str.ofString "--1"), (Str.ofString "1.5"), (Str.ofString "+1"), (Str.ofString "1_0")]; some_1.length + [(Str.ofString "1000000"), (Str.ofString "1/1000000"), (Str.ofString "0/5"), (Str.ofString "-3/2"), (Str.ofString "999999/2"), (Str.ofString "1/0"), (Str.ofString "x"), (Str.ofString "1 2"), (Str.ofString "01/2"), (Str.ofString "1/02")].length ≤ 100000 ∧ (let some_2 : List Str := (some_1 ++ [(Str.ofString "1000000"), (Str.ofString "1/1000000"), (Str.ofString "0/5"), (Str.ofString "-3/2"), (Str.ofString "999999/2"), (Str.ofString "1/0"), (Str.ofString "x"), (Str.ofString "1 2"), (Str.ofString "01/2"), (Str.ofString "1/02")]); (0 ≤ (cell_ % (25 : Int)) ∧ (cell_ % (25 : Int)) < (some_2.length : Int)) ∧ True))
def m_l_changed (word_ : Str) (cell_ : Int) : Str :=
  (let at_1 : Int := ((cell_ / (8 : Int)) % ((word_.length : Int) + (1 : Int))); (cond (decide ((cell_ % (8 : Int)) = (1 : Int))) (((cutSt word_ none (some at_1)) ++ (strAt (Str.ofString "0123456789-/+ .") ((cell_ / (64 : Int)) % (15 : Int)))) ++ (cutSt word_ (some at_1) none)) (cond (decide ((cell_ % (8 : Int)) = (2 : Int))) ((cutSt word_ none (some at_1)) ++ (cutSt word_ (some (at_1 + (1 : Int))) none)) (cond (decide ((cell_ % (8 : Int)) = (3 : Int))) ((Str.ofString "0") ++ word_) (cond (decide ((cell_ % (8 : Int)) = (4 : Int))) (((cutSt word_ none (some at_1)) ++ (strAt (Str.ofString "0123456789-/") ((cell_ / (64 : Int)) % (12 : Int)))) ++ (cutSt word_ (some (at_1 + (1 : Int))) none)) (cond (decide ((cell_ % (8 : Int)) = (5 : Int))) ((Str.ofString "-") ++ word_) word_))))))
def ok_l_changed (word_ : Str) (cell_ : Int) : Prop :=
  word_.length ≤ 100000 ∧ 0 < ((word_.length : Int) + (1 : Int)) ∧ (let at_1 : Int := ((cell_ / (8 : Int)) % ((word_.length : Int) + (1 : Int))); (((decide ((cell_ % (8 : Int)) = (1 : Int))) = true → word_.length ≤ 100000 ∧ StrIx (Str.ofString "0123456789-/+ .") ((cell_ / (64 : Int)) % (15 : Int)) ∧ StrRoom (cutSt word_ none (some at_1)) (strAt (Str.ofString "0123456789-/+ .") ((cell_ / (64 : Int)) % (15 : Int))) ∧ word_.length ≤ 100000 ∧ StrRoom ((cutSt word_ none (some at_1)) ++ (strAt (Str.ofString "0123456789-/+ .") ((cell_ / (64 : Int)) % (15 : Int)))) (cutSt word_ (some at_1) none) ∧ True) ∧ ((decide ((cell_ % (8 : Int)) = (1 : Int))) = false → (((decide ((cell_ % (8 : Int)) = (2 : Int))) = true → word_.length ≤ 100000 ∧ word_.length ≤ 100000 ∧ StrRoom (cutSt word_ none (some at_1)) (cutSt word_ (some (at_1 + (1 : Int))) none) ∧ True) ∧ ((decide ((cell_ % (8 : Int)) = (2 : Int))) = false → (((decide ((cell_ % (8 : Int)) = (3 : Int))) = true → StrRoom (Str.ofString "0") word_ ∧ True) ∧ ((decide ((cell_ % (8 : Int)) = (3 : Int))) = false → (((decide ((cell_ % (8 : Int)) = (4 : Int))) = true → word_.length ≤ 100000 ∧ StrIx (Str.ofString "0123456789-/") ((cell_ / (64 : Int)) % (12 : Int)) ∧ StrRoom (cutSt word_ none (some at_1)) (strAt (Str.ofString "0123456789-/") ((cell_ / (64 : Int)) % (12 : Int))) ∧ word_.length ≤ 100000 ∧ StrRoom ((cutSt word_ none (some at_1)) ++ (strAt (Str.ofString "0123456789-/") ((cell_ / (64 : Int)) % (12 : Int)))) (cutSt word_ (some (at_1 + (1 : Int))) none) ∧ True) ∧ ((decide ((cell_ % (8 : Int)) = (4 : Int))) = false → (((decide ((cell_ % (8 : Int)) = (5 : Int))) = true → StrRoom (Str.ofString "-") word_ ∧ True) ∧ ((decide ((cell_ % (8 : Int)) = (5 : Int))) = false → True)))))))))))
def st_l_whole_7  (s8 : Unit) (x9 : Str) : Stp (Unit) (Option (Int)) :=
  ((cond (!strHas (Str.ofString "0123456789") x9) (.ret (none : Option (Int))) (.go ())))
def okb_l_whole_7  (s8 : Unit) (x9 : Str) : Prop :=
  ((((!strHas (Str.ofString "0123456789") x9) = true → True) ∧ ((!strHas (Str.ofString "0123456789") x9) = false → True)))
def m_l_whole (word_ : Str) : Option (Int) :=
  (cond ((decide (word_ = (Str.ofString ""))) || ((decide ((6 : Int) < (word_.length : Int))) || ((decide ((1 : Int) < (word_.length : Int))) && (decide ((strAt word_ (0 : Int)) = (Str.ofString "0")))))) (none : Option (Int)) (Stp.fin (fun (s13 : Unit) => ((some (intT word_)))) (fun r => r) (runL st_l_whole_7 () (R.signs word_))))
def ok_l_whole (word_ : Str) : Prop :=
  ((decide (word_ = (Str.ofString ""))) = false → word_.length ≤ 100000) ∧ ((decide (word_ = (Str.ofString ""))) = false → ((decide ((6 : Int) < (word_.length : Int))) = false → word_.length ≤ 100000)) ∧ ((decide (word_ = (Str.ofString ""))) = false → ((decide ((6 : Int) < (word_.length : Int))) = false → ((decide ((1 : Int) < (word_.length : Int))) = true → StrIx word_ (0 : Int)))) ∧ ((((decide (word_ = (Str.ofString ""))) || ((decide ((6 : Int) < (word_.length : Int))) || ((decide ((1 : Int) < (word_.length : Int))) && (decide ((strAt word_ (0 : Int)) = (Str.ofString "0")))))) = true → True) ∧ (((decide (word_ = (Str.ofString ""))) || ((decide ((6 : Int) < (word_.length : Int))) || ((decide ((1 : Int) < (word_.length : Int))) && (decide ((strAt word_ (0 : Int)) = (Str.ofString "0")))))) = false → okRun okb_l_whole_7 st_l_whole_7 () (R.signs word_) ∧ (∀ (s13 : Unit), ((runL st_l_whole_7 () (R.signs word_)) = .go s13 ∨ (runL st_l_whole_7 () (R.signs word_)) = .brk s13) → (((intText? word_).isSome = true ∧ word_.length ≤ 640) ∧ True))))
def m_l_due (word_ : Str) : Option (Rat) :=
  (let plain_1 : Str := word_; (let j6 : Str := cond (decide ((cutSt word_ none (some (1 : Int))) = (Str.ofString "-"))) (let plain_3 : Str := (cutSt word_ (some (1 : Int)) none); plain_3) plain_1; let plain_7 : Str := j6; (let top_8 : Str := plain_7; (let bottom_9 : Option (Int) := (some (1 : Int)); (cond (strHas plain_7 (Str.ofString "/")) (let at_10 : Int := ((strIx plain_7 (Str.ofString "/") : Nat) : Int); (let top_12 : Str := (cutSt plain_7 none (some at_10)); (let bottom_14 : Option (Int) := (m_l_whole (cutSt plain_7 (some (at_10 + (1 : Int))) none)); (cond ((bottom_14.isNone) || (decide ((bottom_14.getD (0 : Int)) < (2 : Int)))) (none : Option (Rat)) (let top_19 : Option (Int) := (m_l_whole top_12); (cond ((top_19.isNone) || ((!decide ((m_l_shared (top_19.getD (0 : Int)) (bottom_14.getD (0 : Int))) = (1 : Int))) || ((decide ((top_19.getD (0 : Int)) = (0 : Int))) && (!decide (plain_7 = word_))))) (none : Option (Rat)) (let j31 : Option (Int) := cond (!decide (plain_7 = word_)) (let top_28 : Option (Int) := (some ((0 : Int) - (top_19.getD (0 : Int)))); top_28) top_19; let top_32 : Option (Int) := j31; (some (Rat.divInt ((top_32.getD (0 : Int))) ((bottom_14.getD (0 : Int)))))))))))) (let top_38 : Option (Int) := (m_l_whole top_8); (cond ((top_38.isNone) || ((!decide ((m_l_shared (top_38.getD (0 : Int)) (bottom_9.getD (0 : Int))) = (1 : Int))) || ((decide ((top_38.getD (0 : Int)) = (0 : Int))) && (!decide (plain_7 = word_))))) (none : Option (Rat)) (let j50 : Option (Int) := cond (!decide (plain_7 = word_)) (let top_47 : Option (Int) := (some ((0 : Int) - (top_38.getD (0 : Int)))); top_47) top_38; let top_51 : Option (Int) := j50; (some (Rat.divInt ((top_51.getD (0 : Int))) ((bottom_9.getD (0 : Int)))))))))))))
def ok_l_due (word_ : Str) : Prop :=
  (let plain_1 : Str := word_; word_.length ≤ 100000 ∧ ((decide ((cutSt word_ none (some (1 : Int))) = (Str.ofString "-"))) = true → word_.length ≤ 100000 ∧ (let plain_3 : Str := (cutSt word_ (some (1 : Int)) none); True)) ∧ ((decide ((cutSt word_ none (some (1 : Int))) = (Str.ofString "-"))) = false → True) ∧ (let j6 : Str := cond (decide ((cutSt word_ none (some (1 : Int))) = (Str.ofString "-"))) (let plain_3 : Str := (cutSt word_ (some (1 : Int)) none); plain_3) plain_1; let plain_7 : Str := j6; (let top_8 : Str := plain_7; (let bottom_9 : Option (Int) := (some (1 : Int)); (((strHas plain_7 (Str.ofString "/")) = true → strHas plain_7 (Str.ofString "/") = true ∧ (let at_10 : Int := ((strIx plain_7 (Str.ofString "/") : Nat) : Int); plain_7.length ≤ 100000 ∧ (let top_12 : Str := (cutSt plain_7 none (some at_10)); plain_7.length ≤ 100000 ∧ ok_l_whole (cutSt plain_7 (some (at_10 + (1 : Int))) none) ∧ (let bottom_14 : Option (Int) := (m_l_whole (cutSt plain_7 (some (at_10 + (1 : Int))) none)); ((bottom_14.isNone) = false → bottom_14.isSome = true) ∧ ((((bottom_14.isNone) || (decide ((bottom_14.getD (0 : Int)) < (2 : Int)))) = true → True) ∧ (((bottom_14.isNone) || (decide ((bottom_14.getD (0 : Int)) < (2 : Int)))) = false → ok_l_whole top_12 ∧ (let top_19 : Option (Int) := (m_l_whole top_12); ((top_19.isNone) = false → top_19.isSome = true) ∧ ((top_19.isNone) = false → bottom_14.isSome = true) ∧ ((top_19.isNone) = false → ((!decide ((m_l_shared (top_19.getD (0 : Int)) (bottom_14.getD (0 : Int))) = (1 : Int))) = false → top_19.isSome = true)) ∧ ((((top_19.isNone) || ((!decide ((m_l_shared (top_19.getD (0 : Int)) (bottom_14.getD (0 : Int))) = (1 : Int))) || ((decide ((top_19.getD (0 : Int)) = (0 : Int))) && (!decide (plain_7 = word_))))) = true → True) ∧ (((top_19.isNone) || ((!decide ((m_l_shared (top_19.getD (0 : Int)) (bottom_14.getD (0 : Int))) = (1 : Int))) || ((decide ((top_19.getD (0 : Int)) = (0 : Int))) && (!decide (plain_7 = word_))))) = false → ((!decide (plain_7 = word_)) = true → top_19.isSome = true ∧ (let top_28 : Option (Int) := (some ((0 : Int) - (top_19.getD (0 : Int)))); True)) ∧ ((!decide (plain_7 = word_)) = false → True) ∧ (let j31 : Option (Int) := cond (!decide (plain_7 = word_)) (let top_28 : Option (Int) := (some ((0 : Int) - (top_19.getD (0 : Int)))); top_28) top_19; let top_32 : Option (Int) := j31; top_32.isSome = true ∧ bottom_14.isSome = true ∧ IsQ ((top_32.getD (0 : Int))) ((bottom_14.getD (0 : Int))) ∧ True)))))))))) ∧ ((strHas plain_7 (Str.ofString "/")) = false → ok_l_whole top_8 ∧ (let top_38 : Option (Int) := (m_l_whole top_8); ((top_38.isNone) = false → top_38.isSome = true) ∧ ((top_38.isNone) = false → bottom_9.isSome = true) ∧ ((top_38.isNone) = false → ((!decide ((m_l_shared (top_38.getD (0 : Int)) (bottom_9.getD (0 : Int))) = (1 : Int))) = false → top_38.isSome = true)) ∧ ((((top_38.isNone) || ((!decide ((m_l_shared (top_38.getD (0 : Int)) (bottom_9.getD (0 : Int))) = (1 : Int))) || ((decide ((top_38.getD (0 : Int)) = (0 : Int))) && (!decide (plain_7 = word_))))) = true → True) ∧ (((top_38.isNone) || ((!decide ((m_l_shared (top_38.getD (0 : Int)) (bottom_9.getD (0 : Int))) = (1 : Int))) || ((decide ((top_38.getD (0 : Int)) = (0 : Int))) && (!decide (plain_7 = word_))))) = false → ((!decide (plain_7 = word_)) = true → top_38.isSome = true ∧ (let top_47 : Option (Int) := (some ((0 : Int) - (top_38.getD (0 : Int)))); True)) ∧ ((!decide (plain_7 = word_)) = false → True) ∧ (let j50 : Option (Int) := cond (!decide (plain_7 = word_)) (let top_47 : Option (Int) := (some ((0 : Int) - (top_38.getD (0 : Int)))); top_47) top_38; let top_51 : Option (Int) := j50; top_51.isSome = true ∧ bottom_9.isSome = true ∧ IsQ ((top_51.getD (0 : Int))) ((bottom_9.getD (0 : Int))) ∧ True))))))))))
def m_l_told (word_ : Str) : Tld :=
  (let found_1 : Tld := (Tld.refused (false)); (let j11 : Tld := tryV (((m_read_number word_).bind (fun found_3 => (.ok (Tld.told found_3)))) : Except Exn (Tld)) (fun (e5 : Exn) => (let found_7 : Tld := (Tld.refused (((exnIn [("FrameError" : Str), ("NoPart" : Str), ("NoWish" : Str), ("Mixed" : Str), ("NoLine" : Str)] e5) && (!([[("Mixed" : Str)], [("NoLine" : Str)], [("NoPart" : Str)]].any fun s => exnIn s e5))))); found_7)); let found_12 : Tld := j11; found_12))
def ok_l_told (word_ : Str) : Prop :=
  (let found_1 : Tld := (Tld.refused (false)); (∀ e5, (((m_read_number word_).bind (fun found_3 => (.ok (Tld.told found_3)))) : Except Exn (Tld)) = .error e5 → exnIn [("FrameError" : Str), ("NoPart" : Str), ("NoWish" : Str), ("Mixed" : Str), ("NoLine" : Str)] e5 = true ∧ exnIn [("NoWish" : Str)] e5 = true) ∧ (ok_read_number word_ ∧ (∀ found_3, (m_read_number word_) = .ok found_3 → True)) ∧ (∀ e5, (((m_read_number word_).bind (fun found_3 => (.ok (Tld.told found_3)))) : Except Exn (Tld)) = .error e5 → (∃ n, e5 = Exn.one n) ∧ ((exnIn [("FrameError" : Str), ("NoPart" : Str), ("NoWish" : Str), ("Mixed" : Str), ("NoLine" : Str)] e5) = true → (∃ n, e5 = Exn.one n)) ∧ (let found_7 : Tld := (Tld.refused (((exnIn [("FrameError" : Str), ("NoPart" : Str), ("NoWish" : Str), ("Mixed" : Str), ("NoLine" : Str)] e5) && (!([[("Mixed" : Str)], [("NoLine" : Str)], [("NoPart" : Str)]].any fun s => exnIn s e5))))); True)) ∧ (let j11 : Tld := tryV (((m_read_number word_).bind (fun found_3 => (.ok (Tld.told found_3)))) : Except Exn (Tld)) (fun (e5 : Exn) => (let found_7 : Tld := (Tld.refused (((exnIn [("FrameError" : Str), ("NoPart" : Str), ("NoWish" : Str), ("Mixed" : Str), ("NoLine" : Str)] e5) && (!([[("Mixed" : Str)], [("NoLine" : Str)], [("NoPart" : Str)]].any fun s => exnIn s e5))))); found_7)); let found_12 : Tld := j11; True))
def m_l_kinds (one_ : Rat) : Bool :=
  (cond ((!true) || (!decide ((2 : Int) = (2 : Int)))) false ((!false) && (!false)))
def ok_l_kinds (one_ : Rat) : Prop :=
  ((((!true) || (!decide ((2 : Int) = (2 : Int)))) = true → True) ∧ (((!true) || (!decide ((2 : Int) = (2 : Int)))) = false → True))
theorem okt_l_kinds (one_ : Rat) : ok_l_kinds one_ := by
  unfold ok_l_kinds
  simp
def m_l_far (script_ : List Int) : Bool :=
  (let top_1 : Int := (((m_l_cell_at script_ (3 : Int)) % (2000000000000000000000000000001 : Int)) - (1000000000000000000000000000000 : Int)); (let bottom_3 : Int := ((1 : Int) + ((m_l_cell_at script_ (4 : Int)) % (100000000000000000000 : Int))); (let shared_here_5 : Int := (m_l_shared top_1 bottom_3); (let text_6 : Str := (showI (top_1 / shared_here_5)); (let j16 : Str := cond (decide ((1 : Int) < (bottom_3 / shared_here_5))) (let text_10 : Str := ((text_6 ++ (Str.ofString "/")) ++ (showI (bottom_3 / shared_here_5))); text_10) text_6; let text_17 : Str := j16; (decide ((m_show_number (Rat.divInt ((top_1 / shared_here_5)) ((bottom_3 / shared_here_5)))) = text_17)))))))
def ok_l_far (script_ : List Int) : Prop :=
  ok_l_cell_at script_ (3 : Int) ∧ (let top_1 : Int := (((m_l_cell_at script_ (3 : Int)) % (2000000000000000000000000000001 : Int)) - (1000000000000000000000000000000 : Int)); ok_l_cell_at script_ (4 : Int) ∧ (let bottom_3 : Int := ((1 : Int) + ((m_l_cell_at script_ (4 : Int)) % (100000000000000000000 : Int))); (let shared_here_5 : Int := (m_l_shared top_1 bottom_3); CDivW top_1 shared_here_5 ∧ Shown (top_1 / shared_here_5) ∧ (let text_6 : Str := (showI (top_1 / shared_here_5)); CDivW bottom_3 shared_here_5 ∧ ((decide ((1 : Int) < (bottom_3 / shared_here_5))) = true → StrRoom text_6 (Str.ofString "/") ∧ CDivW bottom_3 shared_here_5 ∧ Shown (bottom_3 / shared_here_5) ∧ StrRoom (text_6 ++ (Str.ofString "/")) (showI (bottom_3 / shared_here_5)) ∧ (let text_10 : Str := ((text_6 ++ (Str.ofString "/")) ++ (showI (bottom_3 / shared_here_5))); True)) ∧ ((decide ((1 : Int) < (bottom_3 / shared_here_5))) = false → True) ∧ (let j16 : Str := cond (decide ((1 : Int) < (bottom_3 / shared_here_5))) (let text_10 : Str := ((text_6 ++ (Str.ofString "/")) ++ (showI (bottom_3 / shared_here_5))); text_10) text_6; let text_17 : Str := j16; CDivW top_1 shared_here_5 ∧ CDivW bottom_3 shared_here_5 ∧ IsQ ((top_1 / shared_here_5)) ((bottom_3 / shared_here_5)) ∧ ok_show_number (Rat.divInt ((top_1 / shared_here_5)) ((bottom_3 / shared_here_5))) ∧ True)))))
def m_law (script_ : List Int) : Bool :=
  (let top_1 : Int := (((m_l_cell_at script_ (0 : Int)) % (1999999 : Int)) - (999999 : Int)); (let j6 : Int := cond (decide ((((m_l_cell_at script_ (0 : Int)) / (7 : Int)) % (2 : Int)) = (1 : Int))) (let top_4 : Int := ((top_1 % (41 : Int)) - (20 : Int)); top_4) top_1; let top_7 : Int := j6; (let bottom_8 : Int := ((1 : Int) + (((m_l_cell_at script_ (1 : Int)) / (2 : Int)) % (List.getD [(12 : Int), (999999 : Int)] (Int.toNat ((m_l_cell_at script_ (1 : Int)) % (2 : Int))) (0 : Int)))); (let shared_here_13 : Int := (m_l_shared top_7 bottom_8); (let one_14 : Rat := (Rat.divInt ((top_7 / shared_here_13)) ((bottom_8 / shared_here_13))); (let word_18 : Str := (showI one_14.num); (let j25 : Str := cond (decide ((1 : Int) < ((one_14.den : Nat) : Int))) (let word_20 : Str := ((word_18 ++ (Str.ofString "/")) ++ (showI ((one_14.den : Nat) : Int))); word_20) word_18; let word_26 : Str := j25; (cond ((!decide ((m_show_number one_14) = word_26)) || ((!deq (m_l_told word_26) (Tld.told (one_14))) || (!(m_l_far script_)))) false (let cell_32 : Int := (m_l_cell_at script_ (2 : Int)); (let word_34 : Str := (m_l_changed word_26 cell_32); (let j39 : Str := cond (decide ((5 : Int) < (cell_32 % (8 : Int)))) (let word_36 : Str := (m_l_odd (cell_32 / (8 : Int))); word_36) word_34; let word_40 : Str := j39; (let due_here_41 : Option (Rat) := (m_l_due word_40); (let found_43 : Tld := (m_l_told word_40); (cond (due_here_41.isNone) (deq found_43 (Tld.refused (true))) ((deq found_43 (Tld.told ((due_here_41.getD (0 : Rat))))) && ((m_l_kinds (found_43.val)) && (decide ((m_show_number (due_here_41.getD (0 : Rat))) = word_40))))))))))))))))))
def ok_law (script_ : List Int) : Prop :=
  ok_l_cell_at script_ (0 : Int) ∧ (let top_1 : Int := (((m_l_cell_at script_ (0 : Int)) % (1999999 : Int)) - (999999 : Int)); ok_l_cell_at script_ (0 : Int) ∧ ((decide ((((m_l_cell_at script_ (0 : Int)) / (7 : Int)) % (2 : Int)) = (1 : Int))) = true → (let top_4 : Int := ((top_1 % (41 : Int)) - (20 : Int)); True)) ∧ ((decide ((((m_l_cell_at script_ (0 : Int)) / (7 : Int)) % (2 : Int)) = (1 : Int))) = false → True) ∧ (let j6 : Int := cond (decide ((((m_l_cell_at script_ (0 : Int)) / (7 : Int)) % (2 : Int)) = (1 : Int))) (let top_4 : Int := ((top_1 % (41 : Int)) - (20 : Int)); top_4) top_1; let top_7 : Int := j6; ok_l_cell_at script_ (1 : Int) ∧ ok_l_cell_at script_ (1 : Int) ∧ (0 ≤ ((m_l_cell_at script_ (1 : Int)) % (2 : Int)) ∧ ((m_l_cell_at script_ (1 : Int)) % (2 : Int)) < ([(12 : Int), (999999 : Int)].length : Int)) ∧ 0 < (List.getD [(12 : Int), (999999 : Int)] (Int.toNat ((m_l_cell_at script_ (1 : Int)) % (2 : Int))) (0 : Int)) ∧ (let bottom_8 : Int := ((1 : Int) + (((m_l_cell_at script_ (1 : Int)) / (2 : Int)) % (List.getD [(12 : Int), (999999 : Int)] (Int.toNat ((m_l_cell_at script_ (1 : Int)) % (2 : Int))) (0 : Int)))); (let shared_here_13 : Int := (m_l_shared top_7 bottom_8); CDivW top_7 shared_here_13 ∧ CDivW bottom_8 shared_here_13 ∧ IsQ ((top_7 / shared_here_13)) ((bottom_8 / shared_here_13)) ∧ (let one_14 : Rat := (Rat.divInt ((top_7 / shared_here_13)) ((bottom_8 / shared_here_13))); Shown one_14.num ∧ (let word_18 : Str := (showI one_14.num); ((decide ((1 : Int) < ((one_14.den : Nat) : Int))) = true → StrRoom word_18 (Str.ofString "/") ∧ Shown ((one_14.den : Nat) : Int) ∧ StrRoom (word_18 ++ (Str.ofString "/")) (showI ((one_14.den : Nat) : Int)) ∧ (let word_20 : Str := ((word_18 ++ (Str.ofString "/")) ++ (showI ((one_14.den : Nat) : Int))); True)) ∧ ((decide ((1 : Int) < ((one_14.den : Nat) : Int))) = false → True) ∧ (let j25 : Str := cond (decide ((1 : Int) < ((one_14.den : Nat) : Int))) (let word_20 : Str := ((word_18 ++ (Str.ofString "/")) ++ (showI ((one_14.den : Nat) : Int))); word_20) word_18; let word_26 : Str := j25; ok_show_number one_14 ∧ ((!decide ((m_show_number one_14) = word_26)) = false → ok_l_told word_26) ∧ ((!decide ((m_show_number one_14) = word_26)) = false → ((!deq (m_l_told word_26) (Tld.told (one_14))) = false → ok_l_far script_)) ∧ ((((!decide ((m_show_number one_14) = word_26)) || ((!deq (m_l_told word_26) (Tld.told (one_14))) || (!(m_l_far script_)))) = true → True) ∧ (((!decide ((m_show_number one_14) = word_26)) || ((!deq (m_l_told word_26) (Tld.told (one_14))) || (!(m_l_far script_)))) = false → ok_l_cell_at script_ (2 : Int) ∧ (let cell_32 : Int := (m_l_cell_at script_ (2 : Int)); ok_l_changed word_26 cell_32 ∧ (let word_34 : Str := (m_l_changed word_26 cell_32); ((decide ((5 : Int) < (cell_32 % (8 : Int)))) = true → ok_l_odd (cell_32 / (8 : Int)) ∧ (let word_36 : Str := (m_l_odd (cell_32 / (8 : Int))); True)) ∧ ((decide ((5 : Int) < (cell_32 % (8 : Int)))) = false → True) ∧ (let j39 : Str := cond (decide ((5 : Int) < (cell_32 % (8 : Int)))) (let word_36 : Str := (m_l_odd (cell_32 / (8 : Int))); word_36) word_34; let word_40 : Str := j39; ok_l_due word_40 ∧ (let due_here_41 : Option (Rat) := (m_l_due word_40); ok_l_told word_40 ∧ (let found_43 : Tld := (m_l_told word_40); (((due_here_41.isNone) = true → True) ∧ ((due_here_41.isNone) = false → due_here_41.isSome = true ∧ ((deq found_43 (Tld.told ((due_here_41.getD (0 : Rat))))) = true → found_43.isTold = true) ∧ ((deq found_43 (Tld.told ((due_here_41.getD (0 : Rat))))) = true → ((m_l_kinds (found_43.val)) = true → due_here_41.isSome = true)) ∧ ((deq found_43 (Tld.told ((due_here_41.getD (0 : Rat))))) = true → ((m_l_kinds (found_43.val)) = true → ok_show_number (due_here_41.getD (0 : Rat)))) ∧ True))))))))))))))))
end G
set_option pp.maxSteps 400
set_option maxHeartbeats 40000000
set_option autoImplicit false
namespace G
open PySem PySem.Spec PyProof.Rows L2 R
def topS (i : Nat) : Stmt := PySem.Challenge.pw_springframe_k14_numbers_written.main.body.getD i (.Pass ⟨0, 0, 0, 0⟩)
structure Top (K : PySem.W.Frag) (mg : Str → Option Value) : Prop where
  here : True
  b_abs : mg "abs" = none
  b_all : mg "all" = none
  b_bool : mg "bool" = none
  b_int : mg "int" = none
  b_isinstance : mg "isinstance" = none
  b_len : mg "len" = none
  b_str : mg "str" = none
  b_tuple : mg "tuple" = none
  x_NoWish : ErrC K mg "NoWish"
  g_FIGURES : GC K mg "FIGURES" (Str.ofString "0123456789")
  g_MOST_FIGURES : GC K mg "MOST_FIGURES" (6 : Int)
  c_NoWish : CatC K mg [("FrameError" : Str), ("NoPart" : Str), ("NoWish" : Str), ("Mixed" : Str), ("NoLine" : Str)] [("NoWish" : Str)] "NoWish"
  i_FrameError : IsC K mg [("FrameError" : Str), ("NoPart" : Str), ("NoWish" : Str), ("Mixed" : Str), ("NoLine" : Str)] [("FrameError" : Str), ("NoPart" : Str), ("NoWish" : Str), ("Mixed" : Str), ("NoLine" : Str)] "FrameError"
  i_Mixed : IsC K mg [("FrameError" : Str), ("NoPart" : Str), ("NoWish" : Str), ("Mixed" : Str), ("NoLine" : Str)] [("Mixed" : Str)] "Mixed"
  i_NoLine : IsC K mg [("FrameError" : Str), ("NoPart" : Str), ("NoWish" : Str), ("Mixed" : Str), ("NoLine" : Str)] [("NoLine" : Str)] "NoLine"
  i_NoPart : IsC K mg [("FrameError" : Str), ("NoPart" : Str), ("NoWish" : Str), ("Mixed" : Str), ("NoLine" : Str)] [("NoPart" : Str)] "NoPart"
variable {P : Program} {w : World} {K : PySem.W.Frag} {mg : Str → Option Value} {base : Heap}
def ph_divisor_of : Phi (Int) := fun args Rp Xp => ∃ (one_ : Int) (other_ : Int), args = [.dat one_, .dat other_] ∧ ok_divisor_of one_ other_ ∧ Rp (m_divisor_of one_ other_)
abbrev s_divisor_of : Stmt := topS 7
theorem sc_divisor_of : FnScope ["one", "other"] ["one", "other"] (defScope s_divisor_of) := ⟨rfl, rfl, rfl, by decide +kernel, rfl, by decide +kernel, by decide +kernel⟩
theorem w_divisor_of {f : Addr} {fd : FuncData} (F : Fun K "divisor_of" "divisor_of" s_divisor_of f fd) (T : Top K mg) : FnOk P w K mg base (L2.CX P w) 1 f fd ["one", "other"] (spP K mg 2 ph_divisor_of) := by
  refine fn_ok F sc_divisor_of rfl ?_
  rintro args Rp Xp ⟨one_, other_, rfl, hok, hR⟩ hl cdv A outer s H E W hr tk
  refine sx_set (i := 0) sc_divisor_of.nd (ex_abs T.b_abs (ex_var (i := 0) rfl)) ?_
  refine sx_set (i := 1) sc_divisor_of.nd (ex_abs T.b_abs (ex_var (i := 1) rfl)) ?_
  refine sx_while (S := Int × Int) (fun s => [.dat s.1, .dat s.2]) (fun s => 0 ≤ s.1 ∧ 0 ≤ s.2 ∧ Int.gcd s.1 s.2 = Int.gcd one_ other_) (fun s => s.2.toNat) (fun _ => False) (absI one_, absI other_) (passes_of rfl) (Sub.refl _) ⟨absI_nn _, absI_nn _, by simp only [Int.gcd, absI_nat]⟩ ?_ (fun e h => h.elim)
  rintro ⟨x, y⟩ ⟨h1, h2, h3⟩
  refine ⟨_, et_gt (ex_var (i := 1) rfl) ex_int, fun hk => ?_, fun hk => ?_⟩
  · have hy : 0 < y := by first | exact of_decide_eq_true hk | (simp at hk; have : (0 : Int) ≤ y := h2; omega)
    refine sx_par (i := 0) (j := 1) rfl sc_divisor_of.nd (ea_cons (ex_var (i := 1) rfl) (ea_cons (ex_mod (ex_var (i := 0) rfl) (ex_var (i := 1) rfl) hy) ea_nil)) ?_
    refine sx_nil ⟨(y, x % y), Sub.refl _, ⟨h2, Int.emod_nonneg _ (by omega), ?_⟩, ?_⟩
    · rw [← h3]; exact gcd_turn x y
    · have := Int.emod_lt_of_pos x hy
      have := Int.emod_nonneg x (show y ≠ 0 by omega)
      show (x % y).toNat < y.toNat
      omega
  · have hy : y = 0 := by first | (have : ¬ 0 < y := of_decide_eq_false hk; have : (0 : Int) ≤ y := h2; omega) | simpa using hk
    subst hy
    have e : x = gcdI one_ other_ := by
      unfold gcdI
      rw [← h3]
      simp only [Int.gcd_zero_right]
      have : (0 : Int) ≤ x := h1
      omega
    refine sx_ret (x := gcdI one_ other_) (EX.eq (ex_var (i := 0) rfl) e) ?_
    exact hR
def ph_whole_by : Phi (Int) := fun args Rp Xp => ∃ (word_ : Str) (most_ : Int), args = [.dat word_, .dat most_] ∧ ok_whole_by word_ most_ ∧ outP Rp Xp (m_whole_by word_ most_)
abbrev s_whole_by : Stmt := topS 11
theorem sc_whole_by : FnScope ["word", "most", "sign"] ["word", "most"] (defScope s_whole_by) := ⟨rfl, rfl, rfl, by decide +kernel, rfl, by decide +kernel, by decide +kernel⟩
theorem w_whole_by {f : Addr} {fd : FuncData} (F : Fun K "whole_by" "whole_by" s_whole_by f fd) (T : Top K mg) : FnOk P w K mg base (L2.CX P w) 1 f fd ["word", "most"] (spP K mg 2 ph_whole_by) := by
  refine fn_ok F sc_whole_by rfl ?_
  rintro args Rp Xp ⟨word_, most_, rfl, hok, hR⟩ hl cdv A outer s H E W hr tk
  change SX _ _ _ [Sl.dat word_, Sl.dat most_, _] _
  obtain ⟨v2, v4, v6, hok⟩ := hok
  refine sx_ifr (k := ((decide (word_ = (Str.ofString ""))) || ((decide (most_ < (word_.length : Int))) || ((decide ((1 : Int) < (word_.length : Int))) && (decide ((strAt word_ (0 : Int)) = (Str.ofString "0"))))))) (et_bool (ew_or (et_eq (ex_var (i := 0) (x := word_) rfl) ex_str) (fun hk1 => (ew_or (et_gt (ex_lenS T.b_len (ex_var (i := 0) (x := word_) rfl) (v2 hk1)) (ex_var (i := 1) (x := most_) rfl)) (fun hk3 => (ew_or1 (et_bool (ew_and (et_gt (ex_lenS T.b_len (ex_var (i := 0) (x := word_) rfl) (v4 hk1 hk3)) ex_int) (fun hk5 => (ew_and1 (et_eq (ex_ixS (ex_var (i := 0) (x := word_) rfl) ex_int (v6 hk1 hk3 hk5)) ex_str))))))))))) (fun hk13 => ?_) (fun hk13 => ?_)
  · replace hok := hok.1 hk13
    replace hR := cond_t (P := (outP Rp Xp)) hk13 hR
    change SX _ _ _ [Sl.dat word_, Sl.dat most_, _] _
    refine sx_raise rfl tk T.x_NoWish ?_
    exact hR
  · replace hok := hok.2 hk13
    replace hR := cond_f (P := (outP Rp Xp)) hk13 hR
    change SX _ _ _ [Sl.dat word_, Sl.dat most_, _] _
    obtain ⟨v10, hok⟩ := hok
    refine sx_ifr (k := (!((List.map (fun (x7 : Str) => (strHas (Str.ofString "0123456789") x7)) (R.signs word_)).all id))) (et_not (et_val (ex_all rfl T.b_all (ex_newL (en_all (en_lc (own := [("sign", 2)]) (tt := tYes) (g := (gName 2)) _ (fun (x7 : Str) => (strHas (Str.ofString "0123456789") x7)) (fun (x7 : Str) => true) rfl sc_whole_by.nd (blkOk_by (N := ["word", "most", "sign"]) (sc := defScope s_whole_by) (by decide +kernel)) (ix_str (ex_var (i := 0) (x := word_) rfl)) v10 (tg_name (wipe_1 2)) (hww_1 2) (fun _ _ _ _ _ => pg_name (i := 2) sc_whole_by.nd rfl (Or.inl rfl)) (fun _ _ _ _ _ => pts_nil) (fun _ _ => et_yes) (fun x7 hx8 ht9 => fun _ _ _ _ _ => (ex_inStr (ex_var (i := 2) (x := x7) rfl) (ex_gc T.g_FIGURES))))))))) (fun hk12 => ?_) (fun hk12 => ?_)
    · replace hok := hok.1 hk12
      replace hR := cond_t (P := (outP Rp Xp)) hk12 hR
      change SX _ _ _ [Sl.dat word_, Sl.dat most_, _] _
      refine sx_raise rfl tk T.x_NoWish ?_
      exact hR
    · replace hok := hok.2 hk12
      replace hR := cond_f (P := (outP Rp Xp)) hk12 hR
      change SX _ _ _ [Sl.dat word_, Sl.dat most_, _] _
      obtain ⟨v11, hok⟩ := hok
      refine sx_ret (x := (intT word_)) (ex_intT T.b_int (ex_var (i := 0) (x := word_) rfl) v11) ?_
      exact hR
def ph_read_number : Phi (Rat) := fun args Rp Xp => ∃ (word_ : Str), args = [.dat word_] ∧ ok_read_number word_ ∧ outP Rp Xp (m_read_number word_)
abbrev s_read_number : Stmt := topS 12
theorem sc_read_number : FnScope ["word", "plain", "top", "slash", "bottom", "number"] ["word"] (defScope s_read_number) := ⟨rfl, rfl, rfl, by decide +kernel, rfl, by decide +kernel, by decide +kernel⟩
theorem w_read_number {f : Addr} {fd : FuncData} (F : Fun K "read_number" "read_number" s_read_number f fd) (T : Top K mg) (d_whole_by : DefOk P w K mg base "whole_by" 1 ["word", "most"] [] (spP K mg 2 ph_whole_by)) (d_divisor_of : DefOk P w K mg base "divisor_of" 1 ["one", "other"] [] (spP K mg 2 ph_divisor_of)) : FnOk P w K mg base (L2.CX P w) 2 f fd ["word"] (spP K mg 1 ph_read_number) := by
  refine fn_ok F sc_read_number rfl ?_
  rintro args Rp Xp ⟨word_, rfl, hok, hR⟩ hl cdv A outer s H E W hr tk
  change SX _ _ _ [Sl.dat word_, _, _, _, _, _] _
  let plain_1 : Str := word_
  refine sx_set (i := 1) sc_read_number.nd (x := plain_1) (ex_var (i := 0) (x := word_) rfl) ?_
  change SX _ _ _ [Sl.dat word_, Sl.dat plain_1, _, _, _, _] _
  obtain ⟨hok1, hok2, hok⟩ := hok
  refine sx_ifj' (k := (Txt.startswith word_ (Str.ofString "-"))) (fun (s : Str) (e : Env') => (List.set e 1 (.dat s))) ((let plain_2 : Str := (cutSt word_ (some (1 : Int)) none); plain_2) : Str) (plain_1 : Str) (et_val (ex_starts (ex_var (i := 0) (x := word_) rfl) ex_str)) (fun hk4 => ?_) (fun hk4 => ?_) ?_
  · replace hok := hok1 hk4
    change SX _ _ _ [Sl.dat word_, Sl.dat plain_1, _, _, _, _] _
    obtain ⟨v3, hok⟩ := hok
    let plain_2 : Str := (cutSt word_ (some (1 : Int)) none)
    refine sx_set (i := 1) sc_read_number.nd (x := plain_2) (ex_sliceS (ex_var (i := 0) (x := word_) rfl) (exo_some ex_int) exo_none v3) ?_
    change SX _ _ _ [Sl.dat word_, Sl.dat plain_2, _, _, _, _] _
    exact sx_nil (by repeat' (first | exact trivial | refine ⟨.inr rfl, ?_⟩ | refine ⟨.inl rfl, ?_⟩))
  · replace hok := hok2 hk4
    change SX _ _ _ [Sl.dat word_, Sl.dat plain_1, _, _, _, _] _
    exact sx_nil (by repeat' (first | exact trivial | refine ⟨.inr rfl, ?_⟩ | refine ⟨.inl rfl, ?_⟩))
  let j5 : Str := cond (Txt.startswith word_ (Str.ofString "-")) (let plain_2 : Str := (cutSt word_ (some (1 : Int)) none); plain_2) plain_1
  let plain_6 : Str := j5
  change SX _ _ _ [Sl.dat word_, Sl.dat plain_6, _, _, _, _] _
  obtain ⟨v7, hok⟩ := hok
  let p8 : (T3 (Str) (Str) (Str)) := (part3 plain_6 (Str.ofString "/"))
  let top_9 : Str := p8.a
  let slash_10 : Str := p8.b
  let bottom_11 : Str := p8.c
  refine sx_asg (x := p8) (ex_part (ex_var (i := 1) (x := plain_6) rfl) ex_str v7) (gx_tup (p := p8) rfl (gxs_cons (gx_name (i := 2) (x := top_9) sc_read_number.nd) (gxs_cons (gx_name (i := 3) (x := slash_10) sc_read_number.nd) (gxs_cons (gx_name (i := 4) (x := bottom_11) sc_read_number.nd) gxs_nil)))) ?_
  change SX _ _ _ [Sl.dat word_, Sl.dat plain_6, Sl.dat top_9, Sl.dat slash_10, Sl.dat bottom_11, _] _
  obtain ⟨v12, hok⟩ := hok
  refine sx_setX (i := 5) sc_read_number.nd (exx_pair1 (exx_call (n := "whole_by") tk d_whole_by (hr.mono (by decide)) (@ea_cons _ _ _ _ _ _ _ _ (ex_var (i := 2) (x := top_9) rfl) (@ea_cons _ _ _ _ _ _ _ _ (ex_gc T.g_MOST_FIGURES) ea_nil (star_plain rfl _ _)) (star_plain rfl _ _)) ⟨top_9, (6 : Int), rfl, v12, outP_self⟩) ex_int) (fun r hr => ?_) (fun x hx => ?_)
  · obtain ⟨number_13, hx28, rfl⟩ := hr
    replace hok := hok number_13 hx28
    replace hR := bind_ok hx28 hR
    change SX _ _ _ [Sl.dat word_, Sl.dat plain_6, Sl.dat top_9, Sl.dat slash_10, Sl.dat bottom_11, Sl.dat (number_13, (1 : Int))] _
    refine sx_ifK (k := (!decide (slash_10 = (Str.ofString "")))) (et_ne (ex_var (i := 3) (x := slash_10) rfl) ex_str) (fun hk27 => ?_) (fun hk27 => ?_)
    · replace hok := hok.1 hk27
      replace hR := cond_t (P := (outP Rp Xp)) hk27 hR
      change SX _ _ _ [Sl.dat word_, Sl.dat plain_6, Sl.dat top_9, Sl.dat slash_10, Sl.dat bottom_11, Sl.dat (number_13, (1 : Int))] _
      obtain ⟨v14, hok⟩ := hok
      refine sx_setX (i := 5) sc_read_number.nd (exx_pair2 (ex_ixT (k := 0) (x := (number_13, (1 : Int)).1) (ex_var (i := 5) (x := (number_13, (1 : Int))) rfl) ex_int rfl) (exx_call (n := "whole_by") tk d_whole_by (hr.mono (by decide)) (@ea_cons _ _ _ _ _ _ _ _ (ex_var (i := 4) (x := bottom_11) rfl) (@ea_cons _ _ _ _ _ _ _ _ (ex_gc T.g_MOST_FIGURES) ea_nil (star_plain rfl _ _)) (star_plain rfl _ _)) ⟨bottom_11, (6 : Int), rfl, v14, outP_self⟩)) (fun r hr => ?_) (fun x hx => ?_)
      · obtain ⟨number_15, hx22, rfl⟩ := hr
        replace hok := hok number_15 hx22
        replace hR := bind_ok hx22 hR
        change SX _ _ _ [Sl.dat word_, Sl.dat plain_6, Sl.dat top_9, Sl.dat slash_10, Sl.dat bottom_11, Sl.dat ((number_13, (1 : Int)).1, number_15)] _
        refine sx_ifr (k := ((decide (((number_13, (1 : Int)).1, number_15).2 < (2 : Int))) || (!decide ((m_divisor_of ((number_13, (1 : Int)).1, number_15).1 ((number_13, (1 : Int)).1, number_15).2) = (1 : Int))))) (et_bool (ew_or (et_lt (ex_ixT (k := 1) (x := ((number_13, (1 : Int)).1, number_15).2) (ex_var (i := 5) (x := ((number_13, (1 : Int)).1, number_15)) rfl) ex_int rfl) ex_int) (fun hk16 => (ew_or1 (et_ne (ex_call (n := "divisor_of") d_divisor_of (hr.mono (by decide)) (@ea_cons _ _ _ _ _ _ _ _ (ex_ixT (k := 0) (x := ((number_13, (1 : Int)).1, number_15).1) (ex_var (i := 5) (x := ((number_13, (1 : Int)).1, number_15)) rfl) ex_int rfl) (@ea_cons _ _ _ _ _ _ _ _ (ex_ixT (k := 1) (x := ((number_13, (1 : Int)).1, number_15).2) (ex_var (i := 5) (x := ((number_13, (1 : Int)).1, number_15)) rfl) ex_int rfl) ea_nil (star_plain rfl _ _)) (star_plain rfl _ _)) ⟨((number_13, (1 : Int)).1, number_15).1, ((number_13, (1 : Int)).1, number_15).2, rfl, (okt_divisor_of ((number_13, (1 : Int)).1, number_15).1 ((number_13, (1 : Int)).1, number_15).2), rfl⟩ (dvs := []) (dxs := []) (fun _ => trivial)) ex_int))))) (fun hk21 => ?_) (fun hk21 => ?_)
        · replace hok := hok.1 hk21
          replace hR := cond_t (P := (outP Rp Xp)) hk21 hR
          change SX _ _ _ [Sl.dat word_, Sl.dat plain_6, Sl.dat top_9, Sl.dat slash_10, Sl.dat bottom_11, Sl.dat ((number_13, (1 : Int)).1, number_15)] _
          refine sx_raise rfl tk T.x_NoWish ?_
          exact hR
        · replace hok := hok.2 hk21
          replace hR := cond_f (P := (outP Rp Xp)) hk21 hR
          change SX _ _ _ [Sl.dat word_, Sl.dat plain_6, Sl.dat top_9, Sl.dat slash_10, Sl.dat bottom_11, Sl.dat ((number_13, (1 : Int)).1, number_15)] _
          refine sx_nil ?_
          change SX _ _ _ [Sl.dat word_, Sl.dat plain_6, Sl.dat top_9, Sl.dat slash_10, Sl.dat bottom_11, Sl.dat ((number_13, (1 : Int)).1, number_15)] _
          refine sx_ifr (k := (decide (plain_6 = word_))) (et_eq (ex_var (i := 1) (x := plain_6) rfl) (ex_var (i := 0) (x := word_) rfl)) (fun hk20 => ?_) (fun hk20 => ?_)
          · replace hok := hok.1 hk20
            replace hR := cond_t (P := (outP Rp Xp)) hk20 hR
            change SX _ _ _ [Sl.dat word_, Sl.dat plain_6, Sl.dat top_9, Sl.dat slash_10, Sl.dat bottom_11, Sl.dat ((number_13, (1 : Int)).1, number_15)] _
            obtain ⟨v17, hok⟩ := hok
            refine sx_ret (x := (Rat.divInt ((number_13, (1 : Int)).1) (number_15))) (ex_isQ (ex_var (i := 5) (x := ((number_13, (1 : Int)).1, number_15)) rfl) v17) ?_
            exact hR
          · replace hok := hok.2 hk20
            replace hR := cond_f (P := (outP Rp Xp)) hk20 hR
            change SX _ _ _ [Sl.dat word_, Sl.dat plain_6, Sl.dat top_9, Sl.dat slash_10, Sl.dat bottom_11, Sl.dat ((number_13, (1 : Int)).1, number_15)] _
            refine sx_ifr (k := (decide (((number_13, (1 : Int)).1, number_15).1 = (0 : Int)))) (et_eq (ex_ixT (k := 0) (x := ((number_13, (1 : Int)).1, number_15).1) (ex_var (i := 5) (x := ((number_13, (1 : Int)).1, number_15)) rfl) ex_int rfl) ex_int) (fun hk19 => ?_) (fun hk19 => ?_)
            · replace hok := hok.1 hk19
              replace hR := cond_t (P := (outP Rp Xp)) hk19 hR
              change SX _ _ _ [Sl.dat word_, Sl.dat plain_6, Sl.dat top_9, Sl.dat slash_10, Sl.dat bottom_11, Sl.dat ((number_13, (1 : Int)).1, number_15)] _
              refine sx_raise rfl tk T.x_NoWish ?_
              exact hR
            · replace hok := hok.2 hk19
              replace hR := cond_f (P := (outP Rp Xp)) hk19 hR
              change SX _ _ _ [Sl.dat word_, Sl.dat plain_6, Sl.dat top_9, Sl.dat slash_10, Sl.dat bottom_11, Sl.dat ((number_13, (1 : Int)).1, number_15)] _
              obtain ⟨v18, hok⟩ := hok
              refine sx_ret (x := (Rat.divInt (((0 : Int) - ((number_13, (1 : Int)).1, number_15).1)) (((number_13, (1 : Int)).1, number_15).2))) (ex_isQ (ex_tup (p := (((0 : Int) - ((number_13, (1 : Int)).1, number_15).1), ((number_13, (1 : Int)).1, number_15).2)) (@ea_cons _ _ _ _ _ _ _ _ (ex_sub ex_int (ex_ixT (k := 0) (x := ((number_13, (1 : Int)).1, number_15).1) (ex_var (i := 5) (x := ((number_13, (1 : Int)).1, number_15)) rfl) ex_int rfl)) (@ea_cons _ _ _ _ _ _ _ _ (ex_ixT (k := 1) (x := ((number_13, (1 : Int)).1, number_15).2) (ex_var (i := 5) (x := ((number_13, (1 : Int)).1, number_15)) rfl) ex_int rfl) ea_nil (star_plain rfl _ _)) (star_plain rfl _ _))) v18) ?_
              exact hR
      · exact bind_err hx hR
    · replace hok := hok.2 hk27
      replace hR := cond_f (P := (outP Rp Xp)) hk27 hR
      change SX _ _ _ [Sl.dat word_, Sl.dat plain_6, Sl.dat top_9, Sl.dat slash_10, Sl.dat bottom_11, Sl.dat (number_13, (1 : Int))] _
      refine sx_nil ?_
      change SX _ _ _ [Sl.dat word_, Sl.dat plain_6, Sl.dat top_9, Sl.dat slash_10, Sl.dat bottom_11, Sl.dat (number_13, (1 : Int))] _
      refine sx_ifr (k := (decide (plain_6 = word_))) (et_eq (ex_var (i := 1) (x := plain_6) rfl) (ex_var (i := 0) (x := word_) rfl)) (fun hk26 => ?_) (fun hk26 => ?_)
      · replace hok := hok.1 hk26
        replace hR := cond_t (P := (outP Rp Xp)) hk26 hR
        change SX _ _ _ [Sl.dat word_, Sl.dat plain_6, Sl.dat top_9, Sl.dat slash_10, Sl.dat bottom_11, Sl.dat (number_13, (1 : Int))] _
        obtain ⟨v23, hok⟩ := hok
        refine sx_ret (x := (Rat.divInt (number_13) ((1 : Int)))) (ex_isQ (ex_var (i := 5) (x := (number_13, (1 : Int))) rfl) v23) ?_
        exact hR
      · replace hok := hok.2 hk26
        replace hR := cond_f (P := (outP Rp Xp)) hk26 hR
        change SX _ _ _ [Sl.dat word_, Sl.dat plain_6, Sl.dat top_9, Sl.dat slash_10, Sl.dat bottom_11, Sl.dat (number_13, (1 : Int))] _
        refine sx_ifr (k := (decide ((number_13, (1 : Int)).1 = (0 : Int)))) (et_eq (ex_ixT (k := 0) (x := (number_13, (1 : Int)).1) (ex_var (i := 5) (x := (number_13, (1 : Int))) rfl) ex_int rfl) ex_int) (fun hk25 => ?_) (fun hk25 => ?_)
        · replace hok := hok.1 hk25
          replace hR := cond_t (P := (outP Rp Xp)) hk25 hR
          change SX _ _ _ [Sl.dat word_, Sl.dat plain_6, Sl.dat top_9, Sl.dat slash_10, Sl.dat bottom_11, Sl.dat (number_13, (1 : Int))] _
          refine sx_raise rfl tk T.x_NoWish ?_
          exact hR
        · replace hok := hok.2 hk25
          replace hR := cond_f (P := (outP Rp Xp)) hk25 hR
          change SX _ _ _ [Sl.dat word_, Sl.dat plain_6, Sl.dat top_9, Sl.dat slash_10, Sl.dat bottom_11, Sl.dat (number_13, (1 : Int))] _
          obtain ⟨v24, hok⟩ := hok
          refine sx_ret (x := (Rat.divInt (((0 : Int) - (number_13, (1 : Int)).1)) ((number_13, (1 : Int)).2))) (ex_isQ (ex_tup (p := (((0 : Int) - (number_13, (1 : Int)).1), (number_13, (1 : Int)).2)) (@ea_cons _ _ _ _ _ _ _ _ (ex_sub ex_int (ex_ixT (k := 0) (x := (number_13, (1 : Int)).1) (ex_var (i := 5) (x := (number_13, (1 : Int))) rfl) ex_int rfl)) (@ea_cons _ _ _ _ _ _ _ _ (ex_ixT (k := 1) (x := (number_13, (1 : Int)).2) (ex_var (i := 5) (x := (number_13, (1 : Int))) rfl) ex_int rfl) ea_nil (star_plain rfl _ _)) (star_plain rfl _ _))) v24) ?_
          exact hR
  · exact bind_err hx hR
def ph_show_number : Phi (Str) := fun args Rp Xp => ∃ (number_ : Rat), args = [.dat number_] ∧ ok_show_number number_ ∧ Rp (m_show_number number_)
abbrev s_show_number : Stmt := topS 13
theorem sc_show_number : FnScope ["number"] ["number"] (defScope s_show_number) := ⟨rfl, rfl, rfl, by decide +kernel, rfl, by decide +kernel, by decide +kernel⟩
theorem w_show_number {f : Addr} {fd : FuncData} (F : Fun K "show_number" "show_number" s_show_number f fd) (T : Top K mg) : FnOk P w K mg base (L2.CX P w) 1 f fd ["number"] (spP K mg 1 ph_show_number) := by
  refine fn_ok F sc_show_number rfl ?_
  rintro args Rp Xp ⟨number_, rfl, hok, hR⟩ hl cdv A outer s H E W hr tk
  change SX _ _ _ [Sl.dat number_] _
  refine sx_ifr (k := (decide (((number_.den : Nat) : Int) = (1 : Int)))) (et_eq (ex_ixT (k := 1) (x := ((number_.den : Nat) : Int)) (ex_var (i := 0) (x := number_) rfl) ex_int rfl) ex_int) (fun hk6 => ?_) (fun hk6 => ?_)
  · replace hok := hok.1 hk6
    replace hR := cond_t (P := Rp) hk6 hR
    change SX _ _ _ [Sl.dat number_] _
    obtain ⟨v1, hok⟩ := hok
    refine sx_ret (x := (showI number_.num)) (ex_strI T.b_str (ex_ixT (k := 0) (x := number_.num) (ex_var (i := 0) (x := number_) rfl) ex_int rfl) v1) ?_
    exact hR
  · replace hok := hok.2 hk6
    replace hR := cond_f (P := Rp) hk6 hR
    change SX _ _ _ [Sl.dat number_] _
    obtain ⟨v2, v3, v4, v5, hok⟩ := hok
    refine sx_ret (x := (((showI number_.num) ++ (Str.ofString "/")) ++ (showI ((number_.den : Nat) : Int)))) (ex_addS (ex_addS (ex_strI T.b_str (ex_ixT (k := 0) (x := number_.num) (ex_var (i := 0) (x := number_) rfl) ex_int rfl) v2) ex_str v3) (ex_strI T.b_str (ex_ixT (k := 1) (x := ((number_.den : Nat) : Int)) (ex_var (i := 0) (x := number_) rfl) ex_int rfl) v4) v5) ?_
    exact hR
def ph_l_cell_at : Phi (Int) := fun args Rp Xp => ∃ (script_ : List Int) (k_ : Int), args = [.dat script_, .dat k_] ∧ ok_l_cell_at script_ k_ ∧ Rp (m_l_cell_at script_ k_)
abbrev s_l_cell_at : Stmt := topS 15
theorem sc_l_cell_at : FnScope ["_law_script", "_law_k"] ["_law_script", "_law_k"] (defScope s_l_cell_at) := ⟨rfl, rfl, rfl, by decide +kernel, rfl, by decide +kernel, by decide +kernel⟩
theorem w_l_cell_at {f : Addr} {fd : FuncData} (F : Fun K "_law_cell_at" "_law_cell_at" s_l_cell_at f fd) (T : Top K mg) : FnOk P w K mg base (L2.CX P w) 1 f fd ["_law_script", "_law_k"] (spP K mg 2 ph_l_cell_at) := by
  refine fn_ok F sc_l_cell_at rfl ?_
  rintro args Rp Xp ⟨script_, k_, rfl, hok, hR⟩ hl cdv A outer s H E W hr tk
  change SX _ _ _ [Sl.dat script_, Sl.dat k_] _
  refine sx_ifr (k := (decide (k_ < (script_.length : Int)))) (et_lt (ex_var (i := 1) (x := k_) rfl) (ex_len T.b_len (ex_var (i := 0) (x := script_) rfl))) (fun hk2 => ?_) (fun hk2 => ?_)
  · replace hok := hok.1 hk2
    replace hR := cond_t (P := Rp) hk2 hR
    change SX _ _ _ [Sl.dat script_, Sl.dat k_] _
    obtain ⟨v1, hok⟩ := hok
    refine sx_ret (x := (List.getD script_ (Int.toNat k_) (0 : Int))) (ex_ixD (ex_var (i := 0) (x := script_) rfl) (ex_var (i := 1) (x := k_) rfl) v1) ?_
    exact hR
  · replace hok := hok.2 hk2
    replace hR := cond_f (P := Rp) hk2 hR
    change SX _ _ _ [Sl.dat script_, Sl.dat k_] _
    refine sx_ret (x := (0 : Int)) ex_int ?_
    exact hR
def ph_l_shared : Phi (Int) := fun args Rp Xp => ∃ (one_ : Int) (other_ : Int), args = [.dat one_, .dat other_] ∧ ok_l_shared one_ other_ ∧ Rp (m_l_shared one_ other_)
abbrev s_l_shared : Stmt := topS 16
theorem sc_l_shared : FnScope ["_law_one", "_law_other"] ["_law_one", "_law_other"] (defScope s_l_shared) := ⟨rfl, rfl, rfl, by decide +kernel, rfl, by decide +kernel, by decide +kernel⟩
theorem w_l_shared {f : Addr} {fd : FuncData} (F : Fun K "_law_shared" "_law_shared" s_l_shared f fd) (T : Top K mg) : FnOk P w K mg base (L2.CX P w) 1 f fd ["_law_one", "_law_other"] (spP K mg 2 ph_l_shared) := by
  refine fn_ok F sc_l_shared rfl ?_
  rintro args Rp Xp ⟨one_, other_, rfl, hok, hR⟩ hl cdv A outer s H E W hr tk
  refine sx_set (i := 0) sc_l_shared.nd (ex_abs T.b_abs (ex_var (i := 0) rfl)) ?_
  refine sx_set (i := 1) sc_l_shared.nd (ex_abs T.b_abs (ex_var (i := 1) rfl)) ?_
  refine sx_while (S := Int × Int) (fun s => [.dat s.1, .dat s.2]) (fun s => 0 ≤ s.1 ∧ 0 ≤ s.2 ∧ Int.gcd s.1 s.2 = Int.gcd one_ other_) (fun s => s.2.toNat) (fun _ => False) (absI one_, absI other_) (passes_of rfl) (Sub.refl _) ⟨absI_nn _, absI_nn _, by simp only [Int.gcd, absI_nat]⟩ ?_ (fun e h => h.elim)
  rintro ⟨x, y⟩ ⟨h1, h2, h3⟩
  refine ⟨_, et_ne (ex_var (i := 1) rfl) ex_int, fun hk => ?_, fun hk => ?_⟩
  · have hy : 0 < y := by first | exact of_decide_eq_true hk | (simp at hk; have : (0 : Int) ≤ y := h2; omega)
    refine sx_par (i := 0) (j := 1) rfl sc_l_shared.nd (ea_cons (ex_var (i := 1) rfl) (ea_cons (ex_mod (ex_var (i := 0) rfl) (ex_var (i := 1) rfl) hy) ea_nil)) ?_
    refine sx_nil ⟨(y, x % y), Sub.refl _, ⟨h2, Int.emod_nonneg _ (by omega), ?_⟩, ?_⟩
    · rw [← h3]; exact gcd_turn x y
    · have := Int.emod_lt_of_pos x hy
      have := Int.emod_nonneg x (show y ≠ 0 by omega)
      show (x % y).toNat < y.toNat
      omega
  · have hy : y = 0 := by first | (have : ¬ 0 < y := of_decide_eq_false hk; have : (0 : Int) ≤ y := h2; omega) | simpa using hk
    subst hy
    have e : x = gcdI one_ other_ := by
      unfold gcdI
      rw [← h3]
      simp only [Int.gcd_zero_right]
      have : (0 : Int) ≤ x := h1
      omega
    refine sx_ret (x := gcdI one_ other_) (EX.eq (ex_var (i := 0) rfl) e) ?_
    exact hR
def ph_l_odd : Phi (Str) := fun args Rp Xp => ∃ (cell_ : Int), args = [.dat cell_] ∧ ok_l_odd cell_ ∧ Rp (m_l_odd cell_)
abbrev s_l_odd : Stmt := topS 17
theorem sc_l_odd : FnScope ["_law_cell", "_law_some"] ["_law_cell"] (defScope s_l_odd) := ⟨rfl, rfl, rfl, by decide +kernel, rfl, by decide +kernel, by decide +kernel⟩
theorem w_l_odd {f : Addr} {fd : FuncData} (F : Fun K "_law_odd" "_law_odd" s_l_odd f fd) (T : Top K mg) : FnOk P w K mg base (L2.CX P w) 1 f fd ["_law_cell"] (spP K mg 1 ph_l_odd) := by
  refine fn_ok F sc_l_odd rfl ?_
  rintro args Rp Xp ⟨cell_, rfl, hok, hR⟩ hl cdv A outer s H E W hr tk
  change SX _ _ _ [Sl.dat cell_, _] _
  let some_1 : List Str := [(Str.ofString ""), (Str.ofString "-"), (Str.ofString "0"), (Str.ofString "-0"), (Str.ofString "00"), (Str.ofString "1/1"), (Str.ofString "2/4"), (Str.ofString "3/"), (Str.ofString "/3"), (Str.ofString "3//2"), (Str.ofString "1/-2"), (Str.ofString "--1"), (Str.ofString "1.5"), (Str.ofString "+1"), (Str.ofString "1_0")]
  refine sx_set (i := 1) sc_l_odd.nd (x := some_1) (ex_newL (en_lst (xs := [(Str.ofString ""), (Str.ofString "-"), (Str.ofString "0"), (Str.ofString "-0"), (Str.ofString "00"), (Str.ofString "1/1"), (Str.ofString "2/4"), (Str.ofString "3/"), (Str.ofString "/3"), (Str.ofString "3//2"), (Str.ofString "1/-2"), (Str.ofString "--1"), (Str.ofString "1.5"), (Str.ofString "+1"), (Str.ofString "1_0")]) (@ea_cons _ _ _ _ _ _ _ _ ex_str (@ea_cons _ _ _ _ _ _ _ _ ex_str (@ea_cons _ _ _ _ _ _ _ _ ex_str (@ea_cons _ _ _ _ _ _ _ _ ex_str (@ea_cons _ _ _ _ _ _ _ _ ex_str (@ea_cons _ _ _ _ _ _ _ _ ex_str (@ea_cons _ _ _ _ _ _ _ _ ex_str (@ea_cons _ _ _ _ _ _ _ _ ex_str (@ea_cons _ _ _ _ _ _ _ _ ex_str (@ea_cons _ _ _ _ _ _ _ _ ex_str (@ea_cons _ _ _ _ _ _ _ _ ex_str (@ea_cons _ _ _ _ _ _ _ _ ex_str (@ea_cons _ _ _ _ _ _ _ _ ex_str (@ea_cons _ _ _ _ _ _ _ _ ex_str (@ea_cons _ _ _ _ _ _ _ _ ex_str ea_nil (star_plain rfl _ _)) (star_plain rfl _ _)) (star_plain rfl _ _)) (star_plain rfl _ _)) (star_plain rfl _ _)) (star_plain rfl _ _)) (star_plain rfl _ _)) (star_plain rfl _ _)) (star_plain rfl _ _)) (star_plain rfl _ _)) (star_plain rfl _ _)) (star_plain rfl _ _)) (star_plain rfl _ _)) (star_plain rfl _ _)) (star_plain rfl _ _)))) ?_
  change SX _ _ _ [Sl.dat cell_, Sl.dat some_1] _
  obtain ⟨v3, hok⟩ := hok
  let some_2 : List Str := (some_1 ++ [(Str.ofString "1000000"), (Str.ofString "1/1000000"), (Str.ofString "0/5"), (Str.ofString "-3/2"), (Str.ofString "999999/2"), (Str.ofString "1/0"), (Str.ofString "x"), (Str.ofString "1 2"), (Str.ofString "01/2"), (Str.ofString "1/02")])
  refine sx_set (i := 1) sc_l_odd.nd (x := some_2) (ex_newL (en_cat (ex_var (i := 1) (x := some_1) rfl) (ex_newL (en_lst (xs := [(Str.ofString "1000000"), (Str.ofString "1/1000000"), (Str.ofString "0/5"), (Str.ofString "-3/2"), (Str.ofString "999999/2"), (Str.ofString "1/0"), (Str.ofString "x"), (Str.ofString "1 2"), (Str.ofString "01/2"), (Str.ofString "1/02")]) (@ea_cons _ _ _ _ _ _ _ _ ex_str (@ea_cons _ _ _ _ _ _ _ _ ex_str (@ea_cons _ _ _ _ _ _ _ _ ex_str (@ea_cons _ _ _ _ _ _ _ _ ex_str (@ea_cons _ _ _ _ _ _ _ _ ex_str (@ea_cons _ _ _ _ _ _ _ _ ex_str (@ea_cons _ _ _ _ _ _ _ _ ex_str (@ea_cons _ _ _ _ _ _ _ _ ex_str (@ea_cons _ _ _ _ _ _ _ _ ex_str (@ea_cons _ _ _ _ _ _ _ _ ex_str ea_nil (star_plain rfl _ _)) (star_plain rfl _ _)) (star_plain rfl _ _)) (star_plain rfl _ _)) (star_plain rfl _ _)) (star_plain rfl _ _)) (star_plain rfl _ _)) (star_plain rfl _ _)) (star_plain rfl _ _)) (star_plain rfl _ _)))) v3)) ?_
  change SX _ _ _ [Sl.dat cell_, Sl.dat some_2] _
  obtain ⟨v4, hok⟩ := hok
  refine sx_ret (x := (List.getD some_2 (Int.toNat (cell_ % (25 : Int))) (Str.ofString ""))) (ex_ixD (ex_var (i := 1) (x := some_2) rfl) (ex_mod (ex_var (i := 0) (x := cell_) rfl) ex_int (by decide)) v4) ?_
  exact hR
def ph_l_changed : Phi (Str) := fun args Rp Xp => ∃ (word_ : Str) (cell_ : Int), args = [.dat word_, .dat cell_] ∧ ok_l_changed word_ cell_ ∧ Rp (m_l_changed word_ cell_)
abbrev s_l_changed : Stmt := topS 18
theorem sc_l_changed : FnScope ["_law_word", "_law_cell", "_law_at"] ["_law_word", "_law_cell"] (defScope s_l_changed) := ⟨rfl, rfl, rfl, by decide +kernel, rfl, by decide +kernel, by decide +kernel⟩
theorem w_l_changed {f : Addr} {fd : FuncData} (F : Fun K "_law_changed" "_law_changed" s_l_changed f fd) (T : Top K mg) : FnOk P w K mg base (L2.CX P w) 1 f fd ["_law_word", "_law_cell"] (spP K mg 2 ph_l_changed) := by
  refine fn_ok F sc_l_changed rfl ?_
  rintro args Rp Xp ⟨word_, cell_, rfl, hok, hR⟩ hl cdv A outer s H E W hr tk
  change SX _ _ _ [Sl.dat word_, Sl.dat cell_, _] _
  obtain ⟨v2, v3, hok⟩ := hok
  let at_1 : Int := ((cell_ / (8 : Int)) % ((word_.length : Int) + (1 : Int)))
  refine sx_set (i := 2) sc_l_changed.nd (x := at_1) (ex_mod (ex_fdiv (ex_var (i := 1) (x := cell_) rfl) ex_int ⟨by decide, by decide⟩) (ex_add (ex_lenS T.b_len (ex_var (i := 0) (x := word_) rfl) v2) ex_int) v3) ?_
  change SX _ _ _ [Sl.dat word_, Sl.dat cell_, Sl.dat at_1] _
  refine sx_ifr (k := (decide ((cell_ % (8 : Int)) = (1 : Int)))) (et_eq (ex_mod (ex_var (i := 1) (x := cell_) rfl) ex_int (by decide)) ex_int) (fun hk23 => ?_) (fun hk23 => ?_)
  · replace hok := hok.1 hk23
    replace hR := cond_t (P := Rp) hk23 hR
    change SX _ _ _ [Sl.dat word_, Sl.dat cell_, Sl.dat at_1] _
    obtain ⟨v4, v5, v6, v7, v8, hok⟩ := hok
    refine sx_ret (x := (((cutSt word_ none (some at_1)) ++ (strAt (Str.ofString "0123456789-/+ .") ((cell_ / (64 : Int)) % (15 : Int)))) ++ (cutSt word_ (some at_1) none))) (ex_addS (ex_addS (ex_sliceS (ex_var (i := 0) (x := word_) rfl) exo_none (exo_some (ex_var (i := 2) (x := at_1) rfl)) v4) (ex_ixS ex_str (ex_mod (ex_fdiv (ex_var (i := 1) (x := cell_) rfl) ex_int ⟨by decide, by decide⟩) ex_int (by decide)) v5) v6) (ex_sliceS (ex_var (i := 0) (x := word_) rfl) (exo_some (ex_var (i := 2) (x := at_1) rfl)) exo_none v7) v8) ?_
    exact hR
  · replace hok := hok.2 hk23
    replace hR := cond_f (P := Rp) hk23 hR
    change SX _ _ _ [Sl.dat word_, Sl.dat cell_, Sl.dat at_1] _
    refine sx_ifr (k := (decide ((cell_ % (8 : Int)) = (2 : Int)))) (et_eq (ex_mod (ex_var (i := 1) (x := cell_) rfl) ex_int (by decide)) ex_int) (fun hk22 => ?_) (fun hk22 => ?_)
    · replace hok := hok.1 hk22
      replace hR := cond_t (P := Rp) hk22 hR
      change SX _ _ _ [Sl.dat word_, Sl.dat cell_, Sl.dat at_1] _
      obtain ⟨v9, v10, v11, hok⟩ := hok
      refine sx_ret (x := ((cutSt word_ none (some at_1)) ++ (cutSt word_ (some (at_1 + (1 : Int))) none))) (ex_addS (ex_sliceS (ex_var (i := 0) (x := word_) rfl) exo_none (exo_some (ex_var (i := 2) (x := at_1) rfl)) v9) (ex_sliceS (ex_var (i := 0) (x := word_) rfl) (exo_some (ex_add (ex_var (i := 2) (x := at_1) rfl) ex_int)) exo_none v10) v11) ?_
      exact hR
    · replace hok := hok.2 hk22
      replace hR := cond_f (P := Rp) hk22 hR
      change SX _ _ _ [Sl.dat word_, Sl.dat cell_, Sl.dat at_1] _
      refine sx_ifr (k := (decide ((cell_ % (8 : Int)) = (3 : Int)))) (et_eq (ex_mod (ex_var (i := 1) (x := cell_) rfl) ex_int (by decide)) ex_int) (fun hk21 => ?_) (fun hk21 => ?_)
      · replace hok := hok.1 hk21
        replace hR := cond_t (P := Rp) hk21 hR
        change SX _ _ _ [Sl.dat word_, Sl.dat cell_, Sl.dat at_1] _
        obtain ⟨v12, hok⟩ := hok
        refine sx_ret (x := ((Str.ofString "0") ++ word_)) (ex_addS ex_str (ex_var (i := 0) (x := word_) rfl) v12) ?_
        exact hR
      · replace hok := hok.2 hk21
        replace hR := cond_f (P := Rp) hk21 hR
        change SX _ _ _ [Sl.dat word_, Sl.dat cell_, Sl.dat at_1] _
        refine sx_ifr (k := (decide ((cell_ % (8 : Int)) = (4 : Int)))) (et_eq (ex_mod (ex_var (i := 1) (x := cell_) rfl) ex_int (by decide)) ex_int) (fun hk20 => ?_) (fun hk20 => ?_)
        · replace hok := hok.1 hk20
          replace hR := cond_t (P := Rp) hk20 hR
          change SX _ _ _ [Sl.dat word_, Sl.dat cell_, Sl.dat at_1] _
          obtain ⟨v13, v14, v15, v16, v17, hok⟩ := hok
          refine sx_ret (x := (((cutSt word_ none (some at_1)) ++ (strAt (Str.ofString "0123456789-/") ((cell_ / (64 : Int)) % (12 : Int)))) ++ (cutSt word_ (some (at_1 + (1 : Int))) none))) (ex_addS (ex_addS (ex_sliceS (ex_var (i := 0) (x := word_) rfl) exo_none (exo_some (ex_var (i := 2) (x := at_1) rfl)) v13) (ex_ixS ex_str (ex_mod (ex_fdiv (ex_var (i := 1) (x := cell_) rfl) ex_int ⟨by decide, by decide⟩) ex_int (by decide)) v14) v15) (ex_sliceS (ex_var (i := 0) (x := word_) rfl) (exo_some (ex_add (ex_var (i := 2) (x := at_1) rfl) ex_int)) exo_none v16) v17) ?_
          exact hR
        · replace hok := hok.2 hk20
          replace hR := cond_f (P := Rp) hk20 hR
          change SX _ _ _ [Sl.dat word_, Sl.dat cell_, Sl.dat at_1] _
          refine sx_ifr (k := (decide ((cell_ % (8 : Int)) = (5 : Int)))) (et_eq (ex_mod (ex_var (i := 1) (x := cell_) rfl) ex_int (by decide)) ex_int) (fun hk19 => ?_) (fun hk19 => ?_)
          · replace hok := hok.1 hk19
            replace hR := cond_t (P := Rp) hk19 hR
            change SX _ _ _ [Sl.dat word_, Sl.dat cell_, Sl.dat at_1] _
            obtain ⟨v18, hok⟩ := hok
            refine sx_ret (x := ((Str.ofString "-") ++ word_)) (ex_addS ex_str (ex_var (i := 0) (x := word_) rfl) v18) ?_
            exact hR
          · replace hok := hok.2 hk19
            replace hR := cond_f (P := Rp) hk19 hR
            change SX _ _ _ [Sl.dat word_, Sl.dat cell_, Sl.dat at_1] _
            refine sx_ret (x := word_) (ex_var (i := 0) (x := word_) rfl) ?_
            exact hR
def ph_l_whole : Phi (Option (Int)) := fun args Rp Xp => ∃ (word_ : Str), args = [.dat word_] ∧ ok_l_whole word_ ∧ Rp (m_l_whole word_)
abbrev s_l_whole : Stmt := topS 19
theorem sc_l_whole : FnScope ["_law_word", "_law_sign"] ["_law_word"] (defScope s_l_whole) := ⟨rfl, rfl, rfl, by decide +kernel, rfl, by decide +kernel, by decide +kernel⟩
theorem w_l_whole {f : Addr} {fd : FuncData} (F : Fun K "_law_whole" "_law_whole" s_l_whole f fd) (T : Top K mg) : FnOk P w K mg base (L2.CX P w) 1 f fd ["_law_word"] (spP K mg 1 ph_l_whole) := by
  refine fn_ok F sc_l_whole rfl ?_
  rintro args Rp Xp ⟨word_, rfl, hok, hR⟩ hl cdv A outer s H E W hr tk
  change SX _ _ _ [Sl.dat word_, _] _
  obtain ⟨v2, v4, v6, hok⟩ := hok
  refine sx_ifr (k := ((decide (word_ = (Str.ofString ""))) || ((decide ((6 : Int) < (word_.length : Int))) || ((decide ((1 : Int) < (word_.length : Int))) && (decide ((strAt word_ (0 : Int)) = (Str.ofString "0"))))))) (et_bool (ew_or (et_eq (ex_var (i := 0) (x := word_) rfl) ex_str) (fun hk1 => (ew_or (et_gt (ex_lenS T.b_len (ex_var (i := 0) (x := word_) rfl) (v2 hk1)) ex_int) (fun hk3 => (ew_or1 (et_bool (ew_and (et_gt (ex_lenS T.b_len (ex_var (i := 0) (x := word_) rfl) (v4 hk1 hk3)) ex_int) (fun hk5 => (ew_and1 (et_eq (ex_ixS (ex_var (i := 0) (x := word_) rfl) ex_int (v6 hk1 hk3 hk5)) ex_str))))))))))) (fun hk16 => ?_) (fun hk16 => ?_)
  · replace hok := hok.1 hk16
    replace hR := cond_t (P := Rp) hk16 hR
    change SX _ _ _ [Sl.dat word_, _] _
    refine sx_ret (x := (none : Option (Int))) (ex_noneO (α := Int) ex_non) ?_
    exact hR
  · replace hok := hok.2 hk16
    replace hR := cond_f (P := Rp) hk16 hR
    change SX _ _ _ [Sl.dat word_, _] _
    obtain ⟨hokL, hok'⟩ := hok
    refine sx_forR' (fun (s : Unit) (e : Env') => e) st_l_whole_7 okb_l_whole_7 () rfl (passes_of rfl) (ix_str (ex_var (i := 0) (x := word_) rfl)) (by repeat' (first | exact trivial | refine ⟨.inr rfl, ?_⟩ | refine ⟨.inl rfl, ?_⟩)) hokL (fun x9 x9' s8 hok hrun11 => ?_) (fun s13 hgo14 => ?_)
    · skip
      refine ⟨_, (gx_name (i := 1) (x := x9) sc_l_whole.nd), ?_⟩
      have hRo10 := hR
      have hR : st_l_whole_7 s8 x9 = st_l_whole_7 s8 x9 := rfl
      change SX _ _ _ [Sl.dat word_, Sl.dat x9] _
      refine sx_ifr (k := (!strHas (Str.ofString "0123456789") x9)) (et_notinStr (ex_var (i := 1) (x := x9) rfl) ex_str) (fun hk12 => ?_) (fun hk12 => ?_)
      · replace hok := hok.1 hk12
        replace hR := cond_t (P := (fun o => st_l_whole_7 s8 x9 = o)) hk12 hR
        change SX _ _ _ [Sl.dat word_, Sl.dat x9] _
        refine sx_ret (x := (none : Option (Int))) (ex_noneO (α := Int) ex_non) ?_
        have hR := fin_ret (P := Rp) (run_ret hrun11 hR) hRo10
        exact hR
      · replace hok := hok.2 hk12
        replace hR := cond_f (P := (fun o => st_l_whole_7 s8 x9 = o)) hk12 hR
        change SX _ _ _ [Sl.dat word_, Sl.dat x9] _
        exact sx_nil ⟨_, hR, (by repeat' (first | exact trivial | refine ⟨.inr rfl, ?_⟩ | refine ⟨.inl rfl, ?_⟩))⟩
    · replace hok := hok' s13 hgo14
      clear hok'
      replace hR := fin_go (P := Rp) hgo14 hR
      change SX _ _ _ [Sl.dat word_, _] _
      obtain ⟨v15, hok⟩ := hok
      refine sx_ret (x := (some (intT word_))) (ex_some (ex_intT T.b_int (ex_var (i := 0) (x := word_) rfl) v15)) ?_
      exact hR
def ph_l_due : Phi (Option (Rat)) := fun args Rp Xp => ∃ (word_ : Str), args = [.dat word_] ∧ ok_l_due word_ ∧ Rp (m_l_due word_)
abbrev s_l_due : Stmt := topS 20
theorem sc_l_due : FnScope ["_law_word", "_law_plain", "_law_top", "_law_bottom", "_law_at"] ["_law_word"] (defScope s_l_due) := ⟨rfl, rfl, rfl, by decide +kernel, rfl, by decide +kernel, by decide +kernel⟩
theorem w_l_due {f : Addr} {fd : FuncData} (F : Fun K "_law_due" "_law_due" s_l_due f fd) (T : Top K mg) (d_l_whole : DefOk P w K mg base "_law_whole" 1 ["_law_word"] [] (spP K mg 1 ph_l_whole)) (d_l_shared : DefOk P w K mg base "_law_shared" 1 ["_law_one", "_law_other"] [] (spP K mg 2 ph_l_shared)) : FnOk P w K mg base (L2.CX P w) 2 f fd ["_law_word"] (spP K mg 1 ph_l_due) := by
  refine fn_ok F sc_l_due rfl ?_
  rintro args Rp Xp ⟨word_, rfl, hok, hR⟩ hl cdv A outer s H E W hr tk
  change SX _ _ _ [Sl.dat word_, _, _, _, _] _
  let plain_1 : Str := word_
  refine sx_set (i := 1) sc_l_due.nd (x := plain_1) (ex_var (i := 0) (x := word_) rfl) ?_
  change SX _ _ _ [Sl.dat word_, Sl.dat plain_1, _, _, _] _
  obtain ⟨v2, hok⟩ := hok
  obtain ⟨hok1, hok2, hok⟩ := hok
  refine sx_ifj' (k := (decide ((cutSt word_ none (some (1 : Int))) = (Str.ofString "-")))) (fun (s : Str) (e : Env') => (List.set e 1 (.dat s))) ((let plain_3 : Str := (cutSt word_ (some (1 : Int)) none); plain_3) : Str) (plain_1 : Str) (et_eq (ex_sliceS (ex_var (i := 0) (x := word_) rfl) exo_none (exo_some ex_int) v2) ex_str) (fun hk5 => ?_) (fun hk5 => ?_) ?_
  · replace hok := hok1 hk5
    change SX _ _ _ [Sl.dat word_, Sl.dat plain_1, _, _, _] _
    obtain ⟨v4, hok⟩ := hok
    let plain_3 : Str := (cutSt word_ (some (1 : Int)) none)
    refine sx_set (i := 1) sc_l_due.nd (x := plain_3) (ex_sliceS (ex_var (i := 0) (x := word_) rfl) (exo_some ex_int) exo_none v4) ?_
    change SX _ _ _ [Sl.dat word_, Sl.dat plain_3, _, _, _] _
    exact sx_nil (by repeat' (first | exact trivial | refine ⟨.inr rfl, ?_⟩ | refine ⟨.inl rfl, ?_⟩))
  · replace hok := hok2 hk5
    change SX _ _ _ [Sl.dat word_, Sl.dat plain_1, _, _, _] _
    exact sx_nil (by repeat' (first | exact trivial | refine ⟨.inr rfl, ?_⟩ | refine ⟨.inl rfl, ?_⟩))
  let j6 : Str := cond (decide ((cutSt word_ none (some (1 : Int))) = (Str.ofString "-"))) (let plain_3 : Str := (cutSt word_ (some (1 : Int)) none); plain_3) plain_1
  let plain_7 : Str := j6
  change SX _ _ _ [Sl.dat word_, Sl.dat plain_7, _, _, _] _
  let top_8 : Str := plain_7
  refine sx_set (i := 2) sc_l_due.nd (x := top_8) (ex_var (i := 1) (x := plain_7) rfl) ?_
  change SX _ _ _ [Sl.dat word_, Sl.dat plain_7, Sl.dat top_8, _, _] _
  let bottom_9 : Option (Int) := (some (1 : Int))
  refine sx_set (i := 3) sc_l_due.nd (x := bottom_9) (ex_some ex_int) ?_
  change SX _ _ _ [Sl.dat word_, Sl.dat plain_7, Sl.dat top_8, Sl.dat bottom_9, _] _
  refine sx_ifK (k := (strHas plain_7 (Str.ofString "/"))) (et_inStr ex_str (ex_var (i := 1) (x := plain_7) rfl)) (fun hk56 => ?_) (fun hk56 => ?_)
  · replace hok := hok.1 hk56
    replace hR := cond_t (P := Rp) hk56 hR
    change SX _ _ _ [Sl.dat word_, Sl.dat plain_7, Sl.dat top_8, Sl.dat bottom_9, _] _
    obtain ⟨v11, hok⟩ := hok
    let at_10 : Int := ((strIx plain_7 (Str.ofString "/") : Nat) : Int)
    refine sx_set (i := 4) sc_l_due.nd (x := at_10) (ex_indexS (ex_var (i := 1) (x := plain_7) rfl) ex_str v11) ?_
    change SX _ _ _ [Sl.dat word_, Sl.dat plain_7, Sl.dat top_8, Sl.dat bottom_9, Sl.dat at_10] _
    obtain ⟨v13, hok⟩ := hok
    let top_12 : Str := (cutSt plain_7 none (some at_10))
    refine sx_set (i := 2) sc_l_due.nd (x := top_12) (ex_sliceS (ex_var (i := 1) (x := plain_7) rfl) exo_none (exo_some (ex_var (i := 4) (x := at_10) rfl)) v13) ?_
    change SX _ _ _ [Sl.dat word_, Sl.dat plain_7, Sl.dat top_12, Sl.dat bottom_9, Sl.dat at_10] _
    obtain ⟨v15, v16, hok⟩ := hok
    let bottom_14 : Option (Int) := (m_l_whole (cutSt plain_7 (some (at_10 + (1 : Int))) none))
    refine sx_set (i := 3) sc_l_due.nd (x := bottom_14) (ex_call (n := "_law_whole") d_l_whole (hr.mono (by decide)) (@ea_cons _ _ _ _ _ _ _ _ (ex_sliceS (ex_var (i := 1) (x := plain_7) rfl) (exo_some (ex_add (ex_var (i := 4) (x := at_10) rfl) ex_int)) exo_none v15) ea_nil (star_plain rfl _ _)) ⟨(cutSt plain_7 (some (at_10 + (1 : Int))) none), rfl, v16, rfl⟩ (dvs := []) (dxs := []) (fun _ => trivial)) ?_
    change SX _ _ _ [Sl.dat word_, Sl.dat plain_7, Sl.dat top_12, Sl.dat bottom_14, Sl.dat at_10] _
    obtain ⟨v18, hok⟩ := hok
    refine sx_ifr (k := ((bottom_14.isNone) || (decide ((bottom_14.getD (0 : Int)) < (2 : Int))))) (et_bool (ew_or (xt_isN (ex_var (i := 3) (x := bottom_14) rfl)) (fun hk17 => (ew_or1 (et_lt (ex_getO (x0 := (0 : Int)) (ex_var (i := 3) (x := bottom_14) rfl) (v18 hk17)) ex_int))))) (fun hk37 => ?_) (fun hk37 => ?_)
    · replace hok := hok.1 hk37
      replace hR := cond_t (P := Rp) hk37 hR
      change SX _ _ _ [Sl.dat word_, Sl.dat plain_7, Sl.dat top_12, Sl.dat bottom_14, Sl.dat at_10] _
      refine sx_ret (x := (none : Option (Rat))) (ex_noneO (α := Rat) ex_non) ?_
      exact hR
    · replace hok := hok.2 hk37
      replace hR := cond_f (P := Rp) hk37 hR
      change SX _ _ _ [Sl.dat word_, Sl.dat plain_7, Sl.dat top_12, Sl.dat bottom_14, Sl.dat at_10] _
      refine sx_nil ?_
      change SX _ _ _ [Sl.dat word_, Sl.dat plain_7, Sl.dat top_12, Sl.dat bottom_14, Sl.dat at_10] _
      obtain ⟨v21, hok⟩ := hok
      let top_19 : Option (Int) := (m_l_whole top_12)
      refine sx_set (i := 2) sc_l_due.nd (x := top_19) (ex_call (n := "_law_whole") d_l_whole (hr.mono (by decide)) (@ea_cons _ _ _ _ _ _ _ _ (ex_var (i := 2) (x := top_12) rfl) ea_nil (star_plain rfl _ _)) ⟨top_12, rfl, v21, rfl⟩ (dvs := []) (dxs := []) (fun _ => trivial)) ?_
      change SX _ _ _ [Sl.dat word_, Sl.dat plain_7, Sl.dat top_19, Sl.dat bottom_14, Sl.dat at_10] _
      obtain ⟨v23, v24, v26, hok⟩ := hok
      refine sx_ifr (k := ((top_19.isNone) || ((!decide ((m_l_shared (top_19.getD (0 : Int)) (bottom_14.getD (0 : Int))) = (1 : Int))) || ((decide ((top_19.getD (0 : Int)) = (0 : Int))) && (!decide (plain_7 = word_)))))) (et_bool (ew_or (xt_isN (ex_var (i := 2) (x := top_19) rfl)) (fun hk22 => (ew_or (et_ne (ex_call (n := "_law_shared") d_l_shared (hr.mono (by decide)) (@ea_cons _ _ _ _ _ _ _ _ (ex_getO (x0 := (0 : Int)) (ex_var (i := 2) (x := top_19) rfl) (v23 hk22)) (@ea_cons _ _ _ _ _ _ _ _ (ex_getO (x0 := (0 : Int)) (ex_var (i := 3) (x := bottom_14) rfl) (v24 hk22)) ea_nil (star_plain rfl _ _)) (star_plain rfl _ _)) ⟨(top_19.getD (0 : Int)), (bottom_14.getD (0 : Int)), rfl, (okt_l_shared (top_19.getD (0 : Int)) (bottom_14.getD (0 : Int))), rfl⟩ (dvs := []) (dxs := []) (fun _ => trivial)) ex_int) (fun hk25 => (ew_or1 (et_bool (ew_and (et_eq (ex_getO (x0 := (0 : Int)) (ex_var (i := 2) (x := top_19) rfl) (v26 hk22 hk25)) ex_int) (fun hk27 => (ew_and1 (et_ne (ex_var (i := 1) (x := plain_7) rfl) (ex_var (i := 0) (x := word_) rfl)))))))))))) (fun hk36 => ?_) (fun hk36 => ?_)
      · replace hok := hok.1 hk36
        replace hR := cond_t (P := Rp) hk36 hR
        change SX _ _ _ [Sl.dat word_, Sl.dat plain_7, Sl.dat top_19, Sl.dat bottom_14, Sl.dat at_10] _
        refine sx_ret (x := (none : Option (Rat))) (ex_noneO (α := Rat) ex_non) ?_
        exact hR
      · replace hok := hok.2 hk36
        replace hR := cond_f (P := Rp) hk36 hR
        change SX _ _ _ [Sl.dat word_, Sl.dat plain_7, Sl.dat top_19, Sl.dat bottom_14, Sl.dat at_10] _
        obtain ⟨hok1, hok2, hok⟩ := hok
        refine sx_ifj' (k := (!decide (plain_7 = word_))) (fun (s : Option (Int)) (e : Env') => (List.set e 2 (.dat s))) ((let top_28 : Option (Int) := (some ((0 : Int) - (top_19.getD (0 : Int)))); top_28) : Option (Int)) (top_19 : Option (Int)) (et_ne (ex_var (i := 1) (x := plain_7) rfl) (ex_var (i := 0) (x := word_) rfl)) (fun hk30 => ?_) (fun hk30 => ?_) ?_
        · replace hok := hok1 hk30
          change SX _ _ _ [Sl.dat word_, Sl.dat plain_7, Sl.dat top_19, Sl.dat bottom_14, Sl.dat at_10] _
          obtain ⟨v29, hok⟩ := hok
          let top_28 : Option (Int) := (some ((0 : Int) - (top_19.getD (0 : Int))))
          refine sx_set (i := 2) sc_l_due.nd (x := top_28) (ex_some (ex_sub ex_int (ex_getO (x0 := (0 : Int)) (ex_var (i := 2) (x := top_19) rfl) v29))) ?_
          change SX _ _ _ [Sl.dat word_, Sl.dat plain_7, Sl.dat top_28, Sl.dat bottom_14, Sl.dat at_10] _
          exact sx_nil (by repeat' (first | exact trivial | refine ⟨.inr rfl, ?_⟩ | refine ⟨.inl rfl, ?_⟩))
        · replace hok := hok2 hk30
          change SX _ _ _ [Sl.dat word_, Sl.dat plain_7, Sl.dat top_19, Sl.dat bottom_14, Sl.dat at_10] _
          exact sx_nil (by repeat' (first | exact trivial | refine ⟨.inr rfl, ?_⟩ | refine ⟨.inl rfl, ?_⟩))
        let j31 : Option (Int) := cond (!decide (plain_7 = word_)) (let top_28 : Option (Int) := (some ((0 : Int) - (top_19.getD (0 : Int)))); top_28) top_19
        let top_32 : Option (Int) := j31
        change SX _ _ _ [Sl.dat word_, Sl.dat plain_7, Sl.dat top_32, Sl.dat bottom_14, Sl.dat at_10] _
        obtain ⟨v33, v34, v35, hok⟩ := hok
        refine sx_ret (x := (some (Rat.divInt ((top_32.getD (0 : Int))) ((bottom_14.getD (0 : Int)))))) (ex_some (ex_isQ (ex_tup (p := ((top_32.getD (0 : Int)), (bottom_14.getD (0 : Int)))) (@ea_cons _ _ _ _ _ _ _ _ (ex_getO (x0 := (0 : Int)) (ex_var (i := 2) (x := top_32) rfl) v33) (@ea_cons _ _ _ _ _ _ _ _ (ex_getO (x0 := (0 : Int)) (ex_var (i := 3) (x := bottom_14) rfl) v34) ea_nil (star_plain rfl _ _)) (star_plain rfl _ _))) v35)) ?_
        exact hR
  · replace hok := hok.2 hk56
    replace hR := cond_f (P := Rp) hk56 hR
    change SX _ _ _ [Sl.dat word_, Sl.dat plain_7, Sl.dat top_8, Sl.dat bottom_9, _] _
    refine sx_nil ?_
    change SX _ _ _ [Sl.dat word_, Sl.dat plain_7, Sl.dat top_8, Sl.dat bottom_9, _] _
    obtain ⟨v40, hok⟩ := hok
    let top_38 : Option (Int) := (m_l_whole top_8)
    refine sx_set (i := 2) sc_l_due.nd (x := top_38) (ex_call (n := "_law_whole") d_l_whole (hr.mono (by decide)) (@ea_cons _ _ _ _ _ _ _ _ (ex_var (i := 2) (x := top_8) rfl) ea_nil (star_plain rfl _ _)) ⟨top_8, rfl, v40, rfl⟩ (dvs := []) (dxs := []) (fun _ => trivial)) ?_
    change SX _ _ _ [Sl.dat word_, Sl.dat plain_7, Sl.dat top_38, Sl.dat bottom_9, _] _
    obtain ⟨v42, v43, v45, hok⟩ := hok
    refine sx_ifr (k := ((top_38.isNone) || ((!decide ((m_l_shared (top_38.getD (0 : Int)) (bottom_9.getD (0 : Int))) = (1 : Int))) || ((decide ((top_38.getD (0 : Int)) = (0 : Int))) && (!decide (plain_7 = word_)))))) (et_bool (ew_or (xt_isN (ex_var (i := 2) (x := top_38) rfl)) (fun hk41 => (ew_or (et_ne (ex_call (n := "_law_shared") d_l_shared (hr.mono (by decide)) (@ea_cons _ _ _ _ _ _ _ _ (ex_getO (x0 := (0 : Int)) (ex_var (i := 2) (x := top_38) rfl) (v42 hk41)) (@ea_cons _ _ _ _ _ _ _ _ (ex_getO (x0 := (0 : Int)) (ex_var (i := 3) (x := bottom_9) rfl) (v43 hk41)) ea_nil (star_plain rfl _ _)) (star_plain rfl _ _)) ⟨(top_38.getD (0 : Int)), (bottom_9.getD (0 : Int)), rfl, (okt_l_shared (top_38.getD (0 : Int)) (bottom_9.getD (0 : Int))), rfl⟩ (dvs := []) (dxs := []) (fun _ => trivial)) ex_int) (fun hk44 => (ew_or1 (et_bool (ew_and (et_eq (ex_getO (x0 := (0 : Int)) (ex_var (i := 2) (x := top_38) rfl) (v45 hk41 hk44)) ex_int) (fun hk46 => (ew_and1 (et_ne (ex_var (i := 1) (x := plain_7) rfl) (ex_var (i := 0) (x := word_) rfl)))))))))))) (fun hk55 => ?_) (fun hk55 => ?_)
    · replace hok := hok.1 hk55
      replace hR := cond_t (P := Rp) hk55 hR
      change SX _ _ _ [Sl.dat word_, Sl.dat plain_7, Sl.dat top_38, Sl.dat bottom_9, _] _
      refine sx_ret (x := (none : Option (Rat))) (ex_noneO (α := Rat) ex_non) ?_
      exact hR
    · replace hok := hok.2 hk55
      replace hR := cond_f (P := Rp) hk55 hR
      change SX _ _ _ [Sl.dat word_, Sl.dat plain_7, Sl.dat top_38, Sl.dat bottom_9, _] _
      obtain ⟨hok1, hok2, hok⟩ := hok
      refine sx_ifj' (k := (!decide (plain_7 = word_))) (fun (s : Option (Int)) (e : Env') => (List.set e 2 (.dat s))) ((let top_47 : Option (Int) := (some ((0 : Int) - (top_38.getD (0 : Int)))); top_47) : Option (Int)) (top_38 : Option (Int)) (et_ne (ex_var (i := 1) (x := plain_7) rfl) (ex_var (i := 0) (x := word_) rfl)) (fun hk49 => ?_) (fun hk49 => ?_) ?_
      · replace hok := hok1 hk49
        change SX _ _ _ [Sl.dat word_, Sl.dat plain_7, Sl.dat top_38, Sl.dat bottom_9, _] _
        obtain ⟨v48, hok⟩ := hok
        let top_47 : Option (Int) := (some ((0 : Int) - (top_38.getD (0 : Int))))
        refine sx_set (i := 2) sc_l_due.nd (x := top_47) (ex_some (ex_sub ex_int (ex_getO (x0 := (0 : Int)) (ex_var (i := 2) (x := top_38) rfl) v48))) ?_
        change SX _ _ _ [Sl.dat word_, Sl.dat plain_7, Sl.dat top_47, Sl.dat bottom_9, _] _
        exact sx_nil (by repeat' (first | exact trivial | refine ⟨.inr rfl, ?_⟩ | refine ⟨.inl rfl, ?_⟩))
      · replace hok := hok2 hk49
        change SX _ _ _ [Sl.dat word_, Sl.dat plain_7, Sl.dat top_38, Sl.dat bottom_9, _] _
        exact sx_nil (by repeat' (first | exact trivial | refine ⟨.inr rfl, ?_⟩ | refine ⟨.inl rfl, ?_⟩))
      let j50 : Option (Int) := cond (!decide (plain_7 = word_)) (let top_47 : Option (Int) := (some ((0 : Int) - (top_38.getD (0 : Int)))); top_47) top_38
      let top_51 : Option (Int) := j50
      change SX _ _ _ [Sl.dat word_, Sl.dat plain_7, Sl.dat top_51, Sl.dat bottom_9, _] _
      obtain ⟨v52, v53, v54, hok⟩ := hok
      refine sx_ret (x := (some (Rat.divInt ((top_51.getD (0 : Int))) ((bottom_9.getD (0 : Int)))))) (ex_some (ex_isQ (ex_tup (p := ((top_51.getD (0 : Int)), (bottom_9.getD (0 : Int)))) (@ea_cons _ _ _ _ _ _ _ _ (ex_getO (x0 := (0 : Int)) (ex_var (i := 2) (x := top_51) rfl) v52) (@ea_cons _ _ _ _ _ _ _ _ (ex_getO (x0 := (0 : Int)) (ex_var (i := 3) (x := bottom_9) rfl) v53) ea_nil (star_plain rfl _ _)) (star_plain rfl _ _))) v54)) ?_
      exact hR
def ph_l_told : Phi (Tld) := fun args Rp Xp => ∃ (word_ : Str), args = [.dat word_] ∧ ok_l_told word_ ∧ Rp (m_l_told word_)
abbrev s_l_told : Stmt := topS 21
theorem sc_l_told : FnScope ["_law_word", "_law_found", "e"] ["_law_word"] (defScope s_l_told) := ⟨rfl, rfl, rfl, by decide +kernel, rfl, by decide +kernel, by decide +kernel⟩
theorem w_l_told {f : Addr} {fd : FuncData} (F : Fun K "_law_told" "_law_told" s_l_told f fd) (T : Top K mg) (d_read_number : DefOk P w K mg base "read_number" 2 ["word"] [] (spP K mg 1 ph_read_number)) : FnOk P w K mg base (L2.CX P w) 3 f fd ["_law_word"] (spP K mg 1 ph_l_told) := by
  refine fn_ok F sc_l_told rfl ?_
  rintro args Rp Xp ⟨word_, rfl, hok, hR⟩ hl cdv A outer s H E W hr tk
  change SX _ _ _ [Sl.dat word_, _, _] _
  let found_1 : Tld := (Tld.refused (false))
  refine sx_set (i := 1) sc_l_told.nd (x := found_1) (ex_taR (ex_tup (p := ((Str.ofString "refused"), false)) (@ea_cons _ _ _ _ _ _ _ _ ex_str (@ea_cons _ _ _ _ _ _ _ _ ex_bl ea_nil (star_plain rfl _ _)) (star_plain rfl _ _)))) ?_
  change SX _ _ _ [Sl.dat word_, Sl.dat found_1, _] _
  obtain ⟨hv, hok1, hok2, hok⟩ := hok
  refine sx_tryA' (i := 2) (all := [("FrameError" : Str), ("NoPart" : Str), ("NoWish" : Str), ("Mixed" : Str), ("NoLine" : Str)]) (some' := [("NoWish" : Str)]) (fun (s : Tld) (e : Env') => (List.set e 1 (.dat s))) (((m_read_number word_).bind (fun found_3 => (.ok (Tld.told found_3)))) : Except Exn (Tld)) (fun (e5 : Exn) => (let found_7 : Tld := (Tld.refused (((exnIn [("FrameError" : Str), ("NoPart" : Str), ("NoWish" : Str), ("Mixed" : Str), ("NoLine" : Str)] e5) && (!([[("Mixed" : Str)], [("NoLine" : Str)], [("NoPart" : Str)]].any fun s => exnIn s e5))))); found_7)) sc_l_told.nd rfl rfl T.c_NoWish tk hv (fun W' pn xe tk' hp' => ?_) (fun e5 hm6 ad oe cls d pn Hf hz hfd xa => ?_) (fun _ _ _ h => h) ?_
  · have hok := hok1
    have hR : (outP (fun s => (((m_read_number word_).bind (fun found_3 => (.ok (Tld.told found_3)))) : Except Exn (Tld)) = .ok s) (fun e => (((m_read_number word_).bind (fun found_3 => (.ok (Tld.told found_3)))) : Except Exn (Tld)) = .error e)) (((m_read_number word_).bind (fun found_3 => (.ok (Tld.told found_3)))) : Except Exn (Tld)) := outP_self
    change SX _ _ _ [Sl.dat word_, Sl.dat found_1, _] _
    obtain ⟨v2, hok⟩ := hok
    refine sx_setX (i := 1) sc_l_told.nd (exx_told ex_str (exx_call (n := "read_number") tk' d_read_number (hr.mono (by decide)) (@ea_cons _ _ _ _ _ _ _ _ (ex_var (i := 0) (x := word_) rfl) ea_nil (star_plain rfl _ _)) ⟨word_, rfl, v2, outP_self⟩)) (fun r hr => ?_) (fun x hx => ?_)
    · obtain ⟨found_3, hx4, rfl⟩ := hr
      replace hok := hok found_3 hx4
      replace hR := bind_ok hx4 hR
      change SX _ _ _ [Sl.dat word_, Sl.dat (Tld.told found_3), _] _
      exact sx_nil ⟨_, hR, (by repeat' (first | exact trivial | refine ⟨.inr rfl, ?_⟩ | refine ⟨.inl rfl, ?_⟩))⟩
    · exact ⟨bind_err hx hR, rfl⟩
  · replace hok := hok2 e5 hm6
    change SX _ _ _ [Sl.dat word_, Sl.dat found_1, Sl.dat (ExV.mk ad)] _
    obtain ⟨v8, v10, hok⟩ := hok
    let found_7 : Tld := (Tld.refused (((exnIn [("FrameError" : Str), ("NoPart" : Str), ("NoWish" : Str), ("Mixed" : Str), ("NoLine" : Str)] e5) && (!([[("Mixed" : Str)], [("NoLine" : Str)], [("NoPart" : Str)]].any fun s => exnIn s e5)))))
    refine sx_set (i := 1) sc_l_told.nd (x := found_7) (ex_taR (ex_tup (p := ((Str.ofString "refused"), ((exnIn [("FrameError" : Str), ("NoPart" : Str), ("NoWish" : Str), ("Mixed" : Str), ("NoLine" : Str)] e5) && (!([[("Mixed" : Str)], [("NoLine" : Str)], [("NoPart" : Str)]].any fun s => exnIn s e5))))) (@ea_cons _ _ _ _ _ _ _ _ ex_str (@ea_cons _ _ _ _ _ _ _ _ (ex_and (ex_isE (i := 2) T.i_FrameError T.b_isinstance (hv e5 hm6).1 v8 hz hfd xa rfl) (fun hk9 => (ex_one (ex_not (ex_isPn (i := 2) (.cons T.i_Mixed rfl (by decide) (.cons T.i_NoLine rfl (by decide) (.cons T.i_NoPart rfl (by decide) .nil))) T.b_isinstance (hv e5 hm6).1 (v10 hk9) hz hfd xa List.mem_cons_self rfl))))) ea_nil (star_plain rfl _ _)) (star_plain rfl _ _)))) ?_
    change SX _ _ _ [Sl.dat word_, Sl.dat found_7, Sl.dat (ExV.mk ad)] _
    exact sx_nil (by repeat' (first | exact trivial | refine ⟨.inr rfl, ?_⟩ | refine ⟨.inl rfl, ?_⟩))
  · skip
    let j11 : Tld := tryV (((m_read_number word_).bind (fun found_3 => (.ok (Tld.told found_3)))) : Except Exn (Tld)) (fun (e5 : Exn) => (let found_7 : Tld := (Tld.refused (((exnIn [("FrameError" : Str), ("NoPart" : Str), ("NoWish" : Str), ("Mixed" : Str), ("NoLine" : Str)] e5) && (!([[("Mixed" : Str)], [("NoLine" : Str)], [("NoPart" : Str)]].any fun s => exnIn s e5))))); found_7))
    let found_12 : Tld := j11
    change SX _ _ _ [Sl.dat word_, Sl.dat found_12, _] _
    refine sx_ret (x := found_12) (ex_var (i := 1) (x := found_12) rfl) ?_
    exact hR
def ph_l_kinds : Phi (Bool) := fun args Rp Xp => ∃ (one_ : Rat), args = [.dat one_] ∧ ok_l_kinds one_ ∧ Rp (m_l_kinds one_)
abbrev s_l_kinds : Stmt := topS 22
theorem sc_l_kinds : FnScope ["_law_one"] ["_law_one"] (defScope s_l_kinds) := ⟨rfl, rfl, rfl, by decide +kernel, rfl, by decide +kernel, by decide +kernel⟩
theorem w_l_kinds {f : Addr} {fd : FuncData} (F : Fun K "_law_kinds" "_law_kinds" s_l_kinds f fd) (T : Top K mg) : FnOk P w K mg base (L2.CX P w) 1 f fd ["_law_one"] (spP K mg 1 ph_l_kinds) := by
  refine fn_ok F sc_l_kinds rfl ?_
  rintro args Rp Xp ⟨one_, rfl, hok, hR⟩ hl cdv A outer s H E W hr tk
  change SX _ _ _ [Sl.dat one_] _
  refine sx_ifr (k := ((!true) || (!decide ((2 : Int) = (2 : Int))))) (et_bool (ew_or (et_not (et_val (ex_isi (c := "tuple") (k := true) T.b_isinstance T.b_tuple (ex_var (i := 0) (x := one_) rfl) (by decide +kernel) (by decide +kernel)))) (fun hk1 => (ew_or1 (et_ne (ex_lenT (n := (2 : Int)) T.b_len (ex_var (i := 0) (x := one_) rfl)) ex_int))))) (fun hk3 => ?_) (fun hk3 => ?_)
  · replace hok := hok.1 hk3
    replace hR := cond_t (P := Rp) hk3 hR
    change SX _ _ _ [Sl.dat one_] _
    refine sx_ret (x := false) ex_bl ?_
    exact hR
  · replace hok := hok.2 hk3
    replace hR := cond_f (P := Rp) hk3 hR
    change SX _ _ _ [Sl.dat one_] _
    refine sx_ret (x := ((!false) && (!false))) (ex_and (ex_not (ex_isi (c := "bool") (k := false) T.b_isinstance T.b_bool (ex_ixT (k := 0) (x := one_.num) (ex_var (i := 0) (x := one_) rfl) ex_int rfl) (by decide +kernel) (by decide +kernel))) (fun hk2 => (ex_one (ex_not (ex_isi (c := "bool") (k := false) T.b_isinstance T.b_bool (ex_ixT (k := 1) (x := ((one_.den : Nat) : Int)) (ex_var (i := 0) (x := one_) rfl) ex_int rfl) (by decide +kernel) (by decide +kernel)))))) ?_
    exact hR
def ph_l_far : Phi (Bool) := fun args Rp Xp => ∃ (script_ : List Int), args = [.dat script_] ∧ ok_l_far script_ ∧ Rp (m_l_far script_)
abbrev s_l_far : Stmt := topS 23
theorem sc_l_far : FnScope ["_law_script", "_law_top", "_law_bottom", "_law_shared_here", "_law_text"] ["_law_script"] (defScope s_l_far) := ⟨rfl, rfl, rfl, by decide +kernel, rfl, by decide +kernel, by decide +kernel⟩
theorem w_l_far {f : Addr} {fd : FuncData} (F : Fun K "_law_far" "_law_far" s_l_far f fd) (T : Top K mg) (d_l_shared : DefOk P w K mg base "_law_shared" 1 ["_law_one", "_law_other"] [] (spP K mg 2 ph_l_shared)) (d_show_number : DefOk P w K mg base "show_number" 1 ["number"] [] (spP K mg 1 ph_show_number)) (d_l_cell_at : DefOk P w K mg base "_law_cell_at" 1 ["_law_script", "_law_k"] [] (spP K mg 2 ph_l_cell_at)) : FnOk P w K mg base (L2.CX P w) 2 f fd ["_law_script"] (spP K mg 1 ph_l_far) := by
  refine fn_ok F sc_l_far rfl ?_
  rintro args Rp Xp ⟨script_, rfl, hok, hR⟩ hl cdv A outer s H E W hr tk
  change SX _ _ _ [Sl.dat script_, _, _, _, _] _
  obtain ⟨v2, hok⟩ := hok
  let top_1 : Int := (((m_l_cell_at script_ (3 : Int)) % (2000000000000000000000000000001 : Int)) - (1000000000000000000000000000000 : Int))
  refine sx_set (i := 1) sc_l_far.nd (x := top_1) (ex_sub (ex_mod (ex_call (n := "_law_cell_at") d_l_cell_at (hr.mono (by decide)) (@ea_cons _ _ _ _ _ _ _ _ (ex_var (i := 0) (x := script_) rfl) (@ea_cons _ _ _ _ _ _ _ _ ex_int ea_nil (star_plain rfl _ _)) (star_plain rfl _ _)) ⟨script_, (3 : Int), rfl, v2, rfl⟩ (dvs := []) (dxs := []) (fun _ => trivial)) (EX.eq (x' := (2000000000000000000000000000001 : Int)) (ex_add (ex_mul ex_int (ex_pow ex_int ex_int ⟨by decide, by decide, by decide⟩) (.inl ⟨by decide, by decide⟩)) ex_int) (by decide)) (by decide)) (EX.eq (x' := (1000000000000000000000000000000 : Int)) (ex_pow ex_int ex_int ⟨by decide, by decide, by decide⟩) (by decide))) ?_
  change SX _ _ _ [Sl.dat script_, Sl.dat top_1, _, _, _] _
  obtain ⟨v4, hok⟩ := hok
  let bottom_3 : Int := ((1 : Int) + ((m_l_cell_at script_ (4 : Int)) % (100000000000000000000 : Int)))
  refine sx_set (i := 2) sc_l_far.nd (x := bottom_3) (ex_add ex_int (ex_mod (ex_call (n := "_law_cell_at") d_l_cell_at (hr.mono (by decide)) (@ea_cons _ _ _ _ _ _ _ _ (ex_var (i := 0) (x := script_) rfl) (@ea_cons _ _ _ _ _ _ _ _ ex_int ea_nil (star_plain rfl _ _)) (star_plain rfl _ _)) ⟨script_, (4 : Int), rfl, v4, rfl⟩ (dvs := []) (dxs := []) (fun _ => trivial)) (EX.eq (x' := (100000000000000000000 : Int)) (ex_pow ex_int ex_int ⟨by decide, by decide, by decide⟩) (by decide)) (by decide))) ?_
  change SX _ _ _ [Sl.dat script_, Sl.dat top_1, Sl.dat bottom_3, _, _] _
  let shared_here_5 : Int := (m_l_shared top_1 bottom_3)
  refine sx_set (i := 3) sc_l_far.nd (x := shared_here_5) (ex_call (n := "_law_shared") d_l_shared (hr.mono (by decide)) (@ea_cons _ _ _ _ _ _ _ _ (ex_var (i := 1) (x := top_1) rfl) (@ea_cons _ _ _ _ _ _ _ _ (ex_var (i := 2) (x := bottom_3) rfl) ea_nil (star_plain rfl _ _)) (star_plain rfl _ _)) ⟨top_1, bottom_3, rfl, (okt_l_shared top_1 bottom_3), rfl⟩ (dvs := []) (dxs := []) (fun _ => trivial)) ?_
  change SX _ _ _ [Sl.dat script_, Sl.dat top_1, Sl.dat bottom_3, Sl.dat shared_here_5, _] _
  obtain ⟨v7, v8, hok⟩ := hok
  let text_6 : Str := (showI (top_1 / shared_here_5))
  refine sx_set (i := 4) sc_l_far.nd (x := text_6) (ex_strI T.b_str (ex_fdivW (ex_var (i := 1) (x := top_1) rfl) (ex_var (i := 3) (x := shared_here_5) rfl) v7) v8) ?_
  change SX _ _ _ [Sl.dat script_, Sl.dat top_1, Sl.dat bottom_3, Sl.dat shared_here_5, Sl.dat text_6] _
  obtain ⟨v9, hok⟩ := hok
  obtain ⟨hok1, hok2, hok⟩ := hok
  refine sx_ifj' (k := (decide ((1 : Int) < (bottom_3 / shared_here_5)))) (fun (s : Str) (e : Env') => (List.set e 4 (.dat s))) ((let text_10 : Str := ((text_6 ++ (Str.ofString "/")) ++ (showI (bottom_3 / shared_here_5))); text_10) : Str) (text_6 : Str) (et_gt (ex_fdivW (ex_var (i := 2) (x := bottom_3) rfl) (ex_var (i := 3) (x := shared_here_5) rfl) v9) ex_int) (fun hk15 => ?_) (fun hk15 => ?_) ?_
  · replace hok := hok1 hk15
    change SX _ _ _ [Sl.dat script_, Sl.dat top_1, Sl.dat bottom_3, Sl.dat shared_here_5, Sl.dat text_6] _
    obtain ⟨v11, v12, v13, v14, hok⟩ := hok
    let text_10 : Str := ((text_6 ++ (Str.ofString "/")) ++ (showI (bottom_3 / shared_here_5)))
    refine sx_set (i := 4) sc_l_far.nd (x := text_10) (ex_addS (ex_addS (ex_var (i := 4) (x := text_6) rfl) ex_str v11) (ex_strI T.b_str (ex_fdivW (ex_var (i := 2) (x := bottom_3) rfl) (ex_var (i := 3) (x := shared_here_5) rfl) v12) v13) v14) ?_
    change SX _ _ _ [Sl.dat script_, Sl.dat top_1, Sl.dat bottom_3, Sl.dat shared_here_5, Sl.dat text_10] _
    exact sx_nil (by repeat' (first | exact trivial | refine ⟨.inr rfl, ?_⟩ | refine ⟨.inl rfl, ?_⟩))
  · replace hok := hok2 hk15
    change SX _ _ _ [Sl.dat script_, Sl.dat top_1, Sl.dat bottom_3, Sl.dat shared_here_5, Sl.dat text_6] _
    exact sx_nil (by repeat' (first | exact trivial | refine ⟨.inr rfl, ?_⟩ | refine ⟨.inl rfl, ?_⟩))
  let j16 : Str := cond (decide ((1 : Int) < (bottom_3 / shared_here_5))) (let text_10 : Str := ((text_6 ++ (Str.ofString "/")) ++ (showI (bottom_3 / shared_here_5))); text_10) text_6
  let text_17 : Str := j16
  change SX _ _ _ [Sl.dat script_, Sl.dat top_1, Sl.dat bottom_3, Sl.dat shared_here_5, Sl.dat text_17] _
  obtain ⟨v18, v19, v20, v21, hok⟩ := hok
  refine sx_ret (x := (decide ((m_show_number (Rat.divInt ((top_1 / shared_here_5)) ((bottom_3 / shared_here_5)))) = text_17))) (ex_eq (ex_call (n := "show_number") d_show_number (hr.mono (by decide)) (@ea_cons _ _ _ _ _ _ _ _ (ex_isQ (ex_tup (p := ((top_1 / shared_here_5), (bottom_3 / shared_here_5))) (@ea_cons _ _ _ _ _ _ _ _ (ex_fdivW (ex_var (i := 1) (x := top_1) rfl) (ex_var (i := 3) (x := shared_here_5) rfl) v18) (@ea_cons _ _ _ _ _ _ _ _ (ex_fdivW (ex_var (i := 2) (x := bottom_3) rfl) (ex_var (i := 3) (x := shared_here_5) rfl) v19) ea_nil (star_plain rfl _ _)) (star_plain rfl _ _))) v20) ea_nil (star_plain rfl _ _)) ⟨(Rat.divInt ((top_1 / shared_here_5)) ((bottom_3 / shared_here_5))), rfl, v21, rfl⟩ (dvs := []) (dxs := []) (fun _ => trivial)) (ex_var (i := 4) (x := text_17) rfl)) ?_
  exact hR
def ph_law : Phi (Bool) := fun args Rp Xp => ∃ (script_ : List Int), args = [.dat script_] ∧ ok_law script_ ∧ Rp (m_law script_)
abbrev s_law : Stmt := topS 24
theorem sc_law : FnScope ["_law_script", "_law_top", "_law_bottom", "_law_shared_here", "_law_one", "_law_word", "_law_cell", "_law_due_here", "_law_found"] ["_law_script"] (defScope s_law) := ⟨rfl, rfl, rfl, by decide +kernel, rfl, by decide +kernel, by decide +kernel⟩
theorem w_law {f : Addr} {fd : FuncData} (F : Fun K "law" "law" s_law f fd) (T : Top K mg) (d_l_shared : DefOk P w K mg base "_law_shared" 1 ["_law_one", "_law_other"] [] (spP K mg 2 ph_l_shared)) (d_l_cell_at : DefOk P w K mg base "_law_cell_at" 1 ["_law_script", "_law_k"] [] (spP K mg 2 ph_l_cell_at)) (d_l_changed : DefOk P w K mg base "_law_changed" 1 ["_law_word", "_law_cell"] [] (spP K mg 2 ph_l_changed)) (d_l_due : DefOk P w K mg base "_law_due" 2 ["_law_word"] [] (spP K mg 1 ph_l_due)) (d_l_told : DefOk P w K mg base "_law_told" 3 ["_law_word"] [] (spP K mg 1 ph_l_told)) (d_l_odd : DefOk P w K mg base "_law_odd" 1 ["_law_cell"] [] (spP K mg 1 ph_l_odd)) (d_l_kinds : DefOk P w K mg base "_law_kinds" 1 ["_law_one"] [] (spP K mg 1 ph_l_kinds)) (d_show_number : DefOk P w K mg base "show_number" 1 ["number"] [] (spP K mg 1 ph_show_number)) (d_l_far : DefOk P w K mg base "_law_far" 2 ["_law_script"] [] (spP K mg 1 ph_l_far)) : FnOk P w K mg base (L2.CX P w) 4 f fd ["_law_script"] (spP K mg 1 ph_law) := by
  refine fn_ok F sc_law rfl ?_
  rintro args Rp Xp ⟨script_, rfl, hok, hR⟩ hl cdv A outer s H E W hr tk
  change SX _ _ _ [Sl.dat script_, _, _, _, _, _, _, _, _] _
  obtain ⟨v2, hok⟩ := hok
  let top_1 : Int := (((m_l_cell_at script_ (0 : Int)) % (1999999 : Int)) - (999999 : Int))
  refine sx_set (i := 1) sc_law.nd (x := top_1) (ex_sub (ex_mod (ex_call (n := "_law_cell_at") d_l_cell_at (hr.mono (by decide)) (@ea_cons _ _ _ _ _ _ _ _ (ex_var (i := 0) (x := script_) rfl) (@ea_cons _ _ _ _ _ _ _ _ ex_int ea_nil (star_plain rfl _ _)) (star_plain rfl _ _)) ⟨script_, (0 : Int), rfl, v2, rfl⟩ (dvs := []) (dxs := []) (fun _ => trivial)) ex_int (by decide)) ex_int) ?_
  change SX _ _ _ [Sl.dat script_, Sl.dat top_1, _, _, _, _, _, _, _] _
  obtain ⟨v3, hok⟩ := hok
  obtain ⟨hok1, hok2, hok⟩ := hok
  refine sx_ifj' (k := (decide ((((m_l_cell_at script_ (0 : Int)) / (7 : Int)) % (2 : Int)) = (1 : Int)))) (fun (s : Int) (e : Env') => (List.set e 1 (.dat s))) ((let top_4 : Int := ((top_1 % (41 : Int)) - (20 : Int)); top_4) : Int) (top_1 : Int) (et_eq (ex_mod (ex_fdiv (ex_call (n := "_law_cell_at") d_l_cell_at (hr.mono (by decide)) (@ea_cons _ _ _ _ _ _ _ _ (ex_var (i := 0) (x := script_) rfl) (@ea_cons _ _ _ _ _ _ _ _ ex_int ea_nil (star_plain rfl _ _)) (star_plain rfl _ _)) ⟨script_, (0 : Int), rfl, v3, rfl⟩ (dvs := []) (dxs := []) (fun _ => trivial)) ex_int ⟨by decide, by decide⟩) ex_int (by decide)) ex_int) (fun hk5 => ?_) (fun hk5 => ?_) ?_
  · replace hok := hok1 hk5
    change SX _ _ _ [Sl.dat script_, Sl.dat top_1, _, _, _, _, _, _, _] _
    let top_4 : Int := ((top_1 % (41 : Int)) - (20 : Int))
    refine sx_set (i := 1) sc_law.nd (x := top_4) (ex_sub (ex_mod (ex_var (i := 1) (x := top_1) rfl) ex_int (by decide)) ex_int) ?_
    change SX _ _ _ [Sl.dat script_, Sl.dat top_4, _, _, _, _, _, _, _] _
    exact sx_nil (by repeat' (first | exact trivial | refine ⟨.inr rfl, ?_⟩ | refine ⟨.inl rfl, ?_⟩))
  · replace hok := hok2 hk5
    change SX _ _ _ [Sl.dat script_, Sl.dat top_1, _, _, _, _, _, _, _] _
    exact sx_nil (by repeat' (first | exact trivial | refine ⟨.inr rfl, ?_⟩ | refine ⟨.inl rfl, ?_⟩))
  let j6 : Int := cond (decide ((((m_l_cell_at script_ (0 : Int)) / (7 : Int)) % (2 : Int)) = (1 : Int))) (let top_4 : Int := ((top_1 % (41 : Int)) - (20 : Int)); top_4) top_1
  let top_7 : Int := j6
  change SX _ _ _ [Sl.dat script_, Sl.dat top_7, _, _, _, _, _, _, _] _
  obtain ⟨v9, v10, v11, v12, hok⟩ := hok
  let bottom_8 : Int := ((1 : Int) + (((m_l_cell_at script_ (1 : Int)) / (2 : Int)) % (List.getD [(12 : Int), (999999 : Int)] (Int.toNat ((m_l_cell_at script_ (1 : Int)) % (2 : Int))) (0 : Int))))
  refine sx_set (i := 2) sc_law.nd (x := bottom_8) (ex_add ex_int (ex_mod (ex_fdiv (ex_call (n := "_law_cell_at") d_l_cell_at (hr.mono (by decide)) (@ea_cons _ _ _ _ _ _ _ _ (ex_var (i := 0) (x := script_) rfl) (@ea_cons _ _ _ _ _ _ _ _ ex_int ea_nil (star_plain rfl _ _)) (star_plain rfl _ _)) ⟨script_, (1 : Int), rfl, v9, rfl⟩ (dvs := []) (dxs := []) (fun _ => trivial)) ex_int ⟨by decide, by decide⟩) (ex_ixD (ex_newL (en_lst (xs := [(12 : Int), (999999 : Int)]) (@ea_cons _ _ _ _ _ _ _ _ ex_int (@ea_cons _ _ _ _ _ _ _ _ ex_int ea_nil (star_plain rfl _ _)) (star_plain rfl _ _)))) (ex_mod (ex_call (n := "_law_cell_at") d_l_cell_at (hr.mono (by decide)) (@ea_cons _ _ _ _ _ _ _ _ (ex_var (i := 0) (x := script_) rfl) (@ea_cons _ _ _ _ _ _ _ _ ex_int ea_nil (star_plain rfl _ _)) (star_plain rfl _ _)) ⟨script_, (1 : Int), rfl, v10, rfl⟩ (dvs := []) (dxs := []) (fun _ => trivial)) ex_int (by decide)) v11) v12)) ?_
  change SX _ _ _ [Sl.dat script_, Sl.dat top_7, Sl.dat bottom_8, _, _, _, _, _, _] _
  let shared_here_13 : Int := (m_l_shared top_7 bottom_8)
  refine sx_set (i := 3) sc_law.nd (x := shared_here_13) (ex_call (n := "_law_shared") d_l_shared (hr.mono (by decide)) (@ea_cons _ _ _ _ _ _ _ _ (ex_var (i := 1) (x := top_7) rfl) (@ea_cons _ _ _ _ _ _ _ _ (ex_var (i := 2) (x := bottom_8) rfl) ea_nil (star_plain rfl _ _)) (star_plain rfl _ _)) ⟨top_7, bottom_8, rfl, (okt_l_shared top_7 bottom_8), rfl⟩ (dvs := []) (dxs := []) (fun _ => trivial)) ?_
  change SX _ _ _ [Sl.dat script_, Sl.dat top_7, Sl.dat bottom_8, Sl.dat shared_here_13, _, _, _, _, _] _
  obtain ⟨v15, v16, v17, hok⟩ := hok
  let one_14 : Rat := (Rat.divInt ((top_7 / shared_here_13)) ((bottom_8 / shared_here_13)))
  refine sx_set (i := 4) sc_law.nd (x := one_14) (ex_isQ (ex_tup (p := ((top_7 / shared_here_13), (bottom_8 / shared_here_13))) (@ea_cons _ _ _ _ _ _ _ _ (ex_fdivW (ex_var (i := 1) (x := top_7) rfl) (ex_var (i := 3) (x := shared_here_13) rfl) v15) (@ea_cons _ _ _ _ _ _ _ _ (ex_fdivW (ex_var (i := 2) (x := bottom_8) rfl) (ex_var (i := 3) (x := shared_here_13) rfl) v16) ea_nil (star_plain rfl _ _)) (star_plain rfl _ _))) v17) ?_
  change SX _ _ _ [Sl.dat script_, Sl.dat top_7, Sl.dat bottom_8, Sl.dat shared_here_13, Sl.dat one_14, _, _, _, _] _
  obtain ⟨v19, hok⟩ := hok
  let word_18 : Str := (showI one_14.num)
  refine sx_set (i := 5) sc_law.nd (x := word_18) (ex_strI T.b_str (ex_ixT (k := 0) (x := one_14.num) (ex_var (i := 4) (x := one_14) rfl) ex_int rfl) v19) ?_
  change SX _ _ _ [Sl.dat script_, Sl.dat top_7, Sl.dat bottom_8, Sl.dat shared_here_13, Sl.dat one_14, Sl.dat word_18, _, _, _] _
  obtain ⟨hok1, hok2, hok⟩ := hok
  refine sx_ifj' (k := (decide ((1 : Int) < ((one_14.den : Nat) : Int)))) (fun (s : Str) (e : Env') => (List.set e 5 (.dat s))) ((let word_20 : Str := ((word_18 ++ (Str.ofString "/")) ++ (showI ((one_14.den : Nat) : Int))); word_20) : Str) (word_18 : Str) (et_gt (ex_ixT (k := 1) (x := ((one_14.den : Nat) : Int)) (ex_var (i := 4) (x := one_14) rfl) ex_int rfl) ex_int) (fun hk24 => ?_) (fun hk24 => ?_) ?_
  · replace hok := hok1 hk24
    change SX _ _ _ [Sl.dat script_, Sl.dat top_7, Sl.dat bottom_8, Sl.dat shared_here_13, Sl.dat one_14, Sl.dat word_18, _, _, _] _
    obtain ⟨v21, v22, v23, hok⟩ := hok
    let word_20 : Str := ((word_18 ++ (Str.ofString "/")) ++ (showI ((one_14.den : Nat) : Int)))
    refine sx_set (i := 5) sc_law.nd (x := word_20) (ex_addS (ex_addS (ex_var (i := 5) (x := word_18) rfl) ex_str v21) (ex_strI T.b_str (ex_ixT (k := 1) (x := ((one_14.den : Nat) : Int)) (ex_var (i := 4) (x := one_14) rfl) ex_int rfl) v22) v23) ?_
    change SX _ _ _ [Sl.dat script_, Sl.dat top_7, Sl.dat bottom_8, Sl.dat shared_here_13, Sl.dat one_14, Sl.dat word_20, _, _, _] _
    exact sx_nil (by repeat' (first | exact trivial | refine ⟨.inr rfl, ?_⟩ | refine ⟨.inl rfl, ?_⟩))
  · replace hok := hok2 hk24
    change SX _ _ _ [Sl.dat script_, Sl.dat top_7, Sl.dat bottom_8, Sl.dat shared_here_13, Sl.dat one_14, Sl.dat word_18, _, _, _] _
    exact sx_nil (by repeat' (first | exact trivial | refine ⟨.inr rfl, ?_⟩ | refine ⟨.inl rfl, ?_⟩))
  let j25 : Str := cond (decide ((1 : Int) < ((one_14.den : Nat) : Int))) (let word_20 : Str := ((word_18 ++ (Str.ofString "/")) ++ (showI ((one_14.den : Nat) : Int))); word_20) word_18
  let word_26 : Str := j25
  change SX _ _ _ [Sl.dat script_, Sl.dat top_7, Sl.dat bottom_8, Sl.dat shared_here_13, Sl.dat one_14, Sl.dat word_26, _, _, _] _
  obtain ⟨v27, v29, v31, hok⟩ := hok
  refine sx_ifr (k := ((!decide ((m_show_number one_14) = word_26)) || ((!deq (m_l_told word_26) (Tld.told (one_14))) || (!(m_l_far script_))))) (et_bool (ew_or (et_ne (ex_call (n := "show_number") d_show_number (hr.mono (by decide)) (@ea_cons _ _ _ _ _ _ _ _ (ex_var (i := 4) (x := one_14) rfl) ea_nil (star_plain rfl _ _)) ⟨one_14, rfl, v27, rfl⟩ (dvs := []) (dxs := []) (fun _ => trivial)) (ex_var (i := 5) (x := word_26) rfl)) (fun hk28 => (ew_or (et_neD (hu64 hr) (ex_call (n := "_law_told") d_l_told (hr.mono (by decide)) (@ea_cons _ _ _ _ _ _ _ _ (ex_var (i := 5) (x := word_26) rfl) ea_nil (star_plain rfl _ _)) ⟨word_26, rfl, (v29 hk28), rfl⟩ (dvs := []) (dxs := []) (fun _ => trivial)) (ex_taT (ex_tup (p := ((Str.ofString "told"), one_14)) (@ea_cons _ _ _ _ _ _ _ _ ex_str (@ea_cons _ _ _ _ _ _ _ _ (ex_var (i := 4) (x := one_14) rfl) ea_nil (star_plain rfl _ _)) (star_plain rfl _ _))))) (fun hk30 => (ew_or1 (et_not (et_val (ex_call (n := "_law_far") d_l_far (hr.mono (by decide)) (@ea_cons _ _ _ _ _ _ _ _ (ex_var (i := 0) (x := script_) rfl) ea_nil (star_plain rfl _ _)) ⟨script_, rfl, (v31 hk28 hk30), rfl⟩ (dvs := []) (dxs := []) (fun _ => trivial)))))))))) (fun hk52 => ?_) (fun hk52 => ?_)
  · replace hok := hok.1 hk52
    replace hR := cond_t (P := Rp) hk52 hR
    change SX _ _ _ [Sl.dat script_, Sl.dat top_7, Sl.dat bottom_8, Sl.dat shared_here_13, Sl.dat one_14, Sl.dat word_26, _, _, _] _
    refine sx_ret (x := false) ex_bl ?_
    exact hR
  · replace hok := hok.2 hk52
    replace hR := cond_f (P := Rp) hk52 hR
    change SX _ _ _ [Sl.dat script_, Sl.dat top_7, Sl.dat bottom_8, Sl.dat shared_here_13, Sl.dat one_14, Sl.dat word_26, _, _, _] _
    obtain ⟨v33, hok⟩ := hok
    let cell_32 : Int := (m_l_cell_at script_ (2 : Int))
    refine sx_set (i := 6) sc_law.nd (x := cell_32) (ex_call (n := "_law_cell_at") d_l_cell_at (hr.mono (by decide)) (@ea_cons _ _ _ _ _ _ _ _ (ex_var (i := 0) (x := script_) rfl) (@ea_cons _ _ _ _ _ _ _ _ ex_int ea_nil (star_plain rfl _ _)) (star_plain rfl _ _)) ⟨script_, (2 : Int), rfl, v33, rfl⟩ (dvs := []) (dxs := []) (fun _ => trivial)) ?_
    change SX _ _ _ [Sl.dat script_, Sl.dat top_7, Sl.dat bottom_8, Sl.dat shared_here_13, Sl.dat one_14, Sl.dat word_26, Sl.dat cell_32, _, _] _
    obtain ⟨v35, hok⟩ := hok
    let word_34 : Str := (m_l_changed word_26 cell_32)
    refine sx_set (i := 5) sc_law.nd (x := word_34) (ex_call (n := "_law_changed") d_l_changed (hr.mono (by decide)) (@ea_cons _ _ _ _ _ _ _ _ (ex_var (i := 5) (x := word_26) rfl) (@ea_cons _ _ _ _ _ _ _ _ (ex_var (i := 6) (x := cell_32) rfl) ea_nil (star_plain rfl _ _)) (star_plain rfl _ _)) ⟨word_26, cell_32, rfl, v35, rfl⟩ (dvs := []) (dxs := []) (fun _ => trivial)) ?_
    change SX _ _ _ [Sl.dat script_, Sl.dat top_7, Sl.dat bottom_8, Sl.dat shared_here_13, Sl.dat one_14, Sl.dat word_34, Sl.dat cell_32, _, _] _
    obtain ⟨hok1, hok2, hok⟩ := hok
    refine sx_ifj' (k := (decide ((5 : Int) < (cell_32 % (8 : Int))))) (fun (s : Str) (e : Env') => (List.set e 5 (.dat s))) ((let word_36 : Str := (m_l_odd (cell_32 / (8 : Int))); word_36) : Str) (word_34 : Str) (et_gt (ex_mod (ex_var (i := 6) (x := cell_32) rfl) ex_int (by decide)) ex_int) (fun hk38 => ?_) (fun hk38 => ?_) ?_
    · replace hok := hok1 hk38
      change SX _ _ _ [Sl.dat script_, Sl.dat top_7, Sl.dat bottom_8, Sl.dat shared_here_13, Sl.dat one_14, Sl.dat word_34, Sl.dat cell_32, _, _] _
      obtain ⟨v37, hok⟩ := hok
      let word_36 : Str := (m_l_odd (cell_32 / (8 : Int)))
      refine sx_set (i := 5) sc_law.nd (x := word_36) (ex_call (n := "_law_odd") d_l_odd (hr.mono (by decide)) (@ea_cons _ _ _ _ _ _ _ _ (ex_fdiv (ex_var (i := 6) (x := cell_32) rfl) ex_int ⟨by decide, by decide⟩) ea_nil (star_plain rfl _ _)) ⟨(cell_32 / (8 : Int)), rfl, v37, rfl⟩ (dvs := []) (dxs := []) (fun _ => trivial)) ?_
      change SX _ _ _ [Sl.dat script_, Sl.dat top_7, Sl.dat bottom_8, Sl.dat shared_here_13, Sl.dat one_14, Sl.dat word_36, Sl.dat cell_32, _, _] _
      exact sx_nil (by repeat' (first | exact trivial | refine ⟨.inr rfl, ?_⟩ | refine ⟨.inl rfl, ?_⟩))
    · replace hok := hok2 hk38
      change SX _ _ _ [Sl.dat script_, Sl.dat top_7, Sl.dat bottom_8, Sl.dat shared_here_13, Sl.dat one_14, Sl.dat word_34, Sl.dat cell_32, _, _] _
      exact sx_nil (by repeat' (first | exact trivial | refine ⟨.inr rfl, ?_⟩ | refine ⟨.inl rfl, ?_⟩))
    let j39 : Str := cond (decide ((5 : Int) < (cell_32 % (8 : Int)))) (let word_36 : Str := (m_l_odd (cell_32 / (8 : Int))); word_36) word_34
    let word_40 : Str := j39
    change SX _ _ _ [Sl.dat script_, Sl.dat top_7, Sl.dat bottom_8, Sl.dat shared_here_13, Sl.dat one_14, Sl.dat word_40, Sl.dat cell_32, _, _] _
    obtain ⟨v42, hok⟩ := hok
    let due_here_41 : Option (Rat) := (m_l_due word_40)
    refine sx_set (i := 7) sc_law.nd (x := due_here_41) (ex_call (n := "_law_due") d_l_due (hr.mono (by decide)) (@ea_cons _ _ _ _ _ _ _ _ (ex_var (i := 5) (x := word_40) rfl) ea_nil (star_plain rfl _ _)) ⟨word_40, rfl, v42, rfl⟩ (dvs := []) (dxs := []) (fun _ => trivial)) ?_
    change SX _ _ _ [Sl.dat script_, Sl.dat top_7, Sl.dat bottom_8, Sl.dat shared_here_13, Sl.dat one_14, Sl.dat word_40, Sl.dat cell_32, Sl.dat due_here_41, _] _
    obtain ⟨v44, hok⟩ := hok
    let found_43 : Tld := (m_l_told word_40)
    refine sx_set (i := 8) sc_law.nd (x := found_43) (ex_call (n := "_law_told") d_l_told (hr.mono (by decide)) (@ea_cons _ _ _ _ _ _ _ _ (ex_var (i := 5) (x := word_40) rfl) ea_nil (star_plain rfl _ _)) ⟨word_40, rfl, v44, rfl⟩ (dvs := []) (dxs := []) (fun _ => trivial)) ?_
    change SX _ _ _ [Sl.dat script_, Sl.dat top_7, Sl.dat bottom_8, Sl.dat shared_here_13, Sl.dat one_14, Sl.dat word_40, Sl.dat cell_32, Sl.dat due_here_41, Sl.dat found_43] _
    refine sx_ifr (k := (due_here_41.isNone)) (xt_isN (ex_var (i := 7) (x := due_here_41) rfl)) (fun hk51 => ?_) (fun hk51 => ?_)
    · replace hok := hok.1 hk51
      replace hR := cond_t (P := Rp) hk51 hR
      change SX _ _ _ [Sl.dat script_, Sl.dat top_7, Sl.dat bottom_8, Sl.dat shared_here_13, Sl.dat one_14, Sl.dat word_40, Sl.dat cell_32, Sl.dat due_here_41, Sl.dat found_43] _
      refine sx_ret (x := (deq found_43 (Tld.refused (true)))) (ex_eqD (hu64 hr) (ex_var (i := 8) (x := found_43) rfl) (ex_taR (ex_tup (p := ((Str.ofString "refused"), true)) (@ea_cons _ _ _ _ _ _ _ _ ex_str (@ea_cons _ _ _ _ _ _ _ _ ex_bl ea_nil (star_plain rfl _ _)) (star_plain rfl _ _))))) ?_
      exact hR
    · replace hok := hok.2 hk51
      replace hR := cond_f (P := Rp) hk51 hR
      change SX _ _ _ [Sl.dat script_, Sl.dat top_7, Sl.dat bottom_8, Sl.dat shared_here_13, Sl.dat one_14, Sl.dat word_40, Sl.dat cell_32, Sl.dat due_here_41, Sl.dat found_43] _
      obtain ⟨v45, v47, v49, v50, hok⟩ := hok
      refine sx_ret (x := ((deq found_43 (Tld.told ((due_here_41.getD (0 : Rat))))) && ((m_l_kinds (found_43.val)) && (decide ((m_show_number (due_here_41.getD (0 : Rat))) = word_40))))) (ex_and (ex_eqD (hu64 hr) (ex_var (i := 8) (x := found_43) rfl) (ex_taT (ex_tup (p := ((Str.ofString "told"), (due_here_41.getD (0 : Rat)))) (@ea_cons _ _ _ _ _ _ _ _ ex_str (@ea_cons _ _ _ _ _ _ _ _ (ex_getO (x0 := (0 : Rat)) (ex_var (i := 7) (x := due_here_41) rfl) v45) ea_nil (star_plain rfl _ _)) (star_plain rfl _ _))))) (fun hk46 => (ex_and (ex_call (n := "_law_kinds") d_l_kinds (hr.mono (by decide)) (@ea_cons _ _ _ _ _ _ _ _ (ex_taV (ex_var (i := 8) (x := found_43) rfl) (v47 hk46) ex_int) ea_nil (star_plain rfl _ _)) ⟨(found_43.val), rfl, (okt_l_kinds (found_43.val)), rfl⟩ (dvs := []) (dxs := []) (fun _ => trivial)) (fun hk48 => (ex_one (ex_eq (ex_call (n := "show_number") d_show_number (hr.mono (by decide)) (@ea_cons _ _ _ _ _ _ _ _ (ex_getO (x0 := (0 : Rat)) (ex_var (i := 7) (x := due_here_41) rfl) (v49 hk46 hk48)) ea_nil (star_plain rfl _ _)) ⟨(due_here_41.getD (0 : Rat)), rfl, (v50 hk46 hk48), rfl⟩ (dvs := []) (dxs := []) (fun _ => trivial)) (ex_var (i := 5) (x := word_40) rfl))))))) ?_
      exact hR
end G
set_option maxHeartbeats 400000
set_option autoImplicit false
/-! plain: dicts, loops, fractions -/
namespace R
open PySem PySem.Spec PyProof.Rows L2
section
variable {α : Type}
theorem lookD_cons_eq (p : Str × α) (r : List (Str × α)) (k : Str) (h : p.1 = k) : lookD (p :: r) k = some p.2 := by unfold lookD; rw [List.find?_cons, decide_eq_true h]; rfl
theorem lookD_cons_ne (p : Str × α) (r : List (Str × α)) (k : Str) (h : ¬ p.1 = k) : lookD (p :: r) k = lookD r k := by unfold lookD; rw [List.find?_cons, decide_eq_false h]
theorem lookD_none {kvs : List (Str × α)} {k : Str} : k ∉ kvs.map Prod.fst → lookD kvs k = none := by
  induction kvs with
  | nil => intro _; rfl
  | cons p r ih =>
    intro h
    rw [List.map_cons, List.mem_cons] at h
    rw [lookD_cons_ne _ _ _ (fun e => h (.inl e.symm)), ih fun z => h (.inr z)]
theorem lookD_some {kvs : List (Str × α)} {k : Str} : k ∈ kvs.map Prod.fst → ∃ x, lookD kvs k = some x ∧ (k, x) ∈ kvs := by
  induction kvs with
  | nil => intro h; cases h
  | cons p r ih =>
    intro h
    by_cases e : p.1 = k
    · exact ⟨p.2, lookD_cons_eq _ _ _ e, by rw [← e]; exact List.mem_cons_self⟩
    · rw [lookD_cons_ne _ _ _ e]
      rw [List.map_cons, List.mem_cons] at h
      obtain ⟨x, h1, h2⟩ := ih (h.resolve_left fun z => e z.symm)
      exact ⟨x, h1, List.mem_cons_of_mem _ h2⟩
theorem lookD_app {kvs ls : List (Str × α)} {k : Str} : lookD (kvs ++ ls) k = (lookD kvs k).or (lookD ls k) := by
  induction kvs with
  | nil => rfl
  | cons p r ih =>
    by_cases e : p.1 = k
    · rw [List.cons_append, lookD_cons_eq _ _ _ e, lookD_cons_eq _ _ _ e]; rfl
    · rw [List.cons_append, lookD_cons_ne _ _ _ e, lookD_cons_ne _ _ _ e, ih]
theorem any_keys (kvs : List (Str × α)) (k : Str) : (kvs.any fun p => decide (p.1 = k)) = true ↔ k ∈ kvs.map Prod.fst := by
  rw [List.any_eq_true, List.mem_map]
  constructor
  · rintro ⟨p, h1, h2⟩; exact ⟨p, h1, of_decide_eq_true h2⟩
  · rintro ⟨p, h1, h2⟩; exact ⟨p, h1, decide_eq_true h2⟩
theorem putD_new {kvs : List (Str × α)} {k : Str} {x : α} (h : k ∉ kvs.map Prod.fst) : putD kvs k x = kvs ++ [(k, x)] := by
  unfold putD
  rw [if_neg fun z => h ((any_keys kvs k).mp z)]
theorem putD_keys (kvs : List (Str × α)) (k : Str) (x : α) : (putD kvs k x).map Prod.fst = if k ∈ kvs.map Prod.fst then kvs.map Prod.fst else kvs.map Prod.fst ++ [k] := by
  unfold putD
  by_cases h : k ∈ kvs.map Prod.fst
  · rw [if_pos ((any_keys kvs k).mpr h), if_pos h, List.map_map]
    refine List.map_congr_left fun p _ => ?_
    show (if p.1 = k then (p.1, x) else p).1 = p.1
    split <;> rfl
  · rw [if_neg fun z => h ((any_keys kvs k).mp z), if_neg h, List.map_append]; rfl
theorem putD_nodup {kvs : List (Str × α)} {k : Str} {x : α} (h : (kvs.map Prod.fst).Nodup) : ((putD kvs k x).map Prod.fst).Nodup := by
  rw [putD_keys]
  split
  · exact h
  · rename_i n
    rw [List.nodup_append]
    exact ⟨h, by simp, fun a ha b hb e => by rw [List.mem_singleton] at hb; subst hb; subst e; exact n ha⟩
theorem lookD_put_same {kvs : List (Str × α)} {k : Str} {x : α} : lookD (putD kvs k x) k = some x := by
  unfold putD
  by_cases h : k ∈ kvs.map Prod.fst
  · rw [if_pos ((any_keys kvs k).mpr h)]
    induction kvs with
    | nil => cases h
    | cons p r ih =>
      rw [List.map_cons]
      by_cases e : p.1 = k
      · rw [if_pos e]; exact lookD_cons_eq _ _ _ e
      · rw [if_neg e, lookD_cons_ne _ _ _ e]
        rw [List.map_cons, List.mem_cons] at h
        exact ih (h.resolve_left fun z => e z.symm)
  · rw [if_neg fun z => h ((any_keys kvs k).mp z), lookD_app, lookD_none h]
    exact lookD_cons_eq _ _ _ rfl
theorem lookD_put_ne {kvs : List (Str × α)} {k j : Str} {x : α} (hj : j ≠ k) : lookD (putD kvs k x) j = lookD kvs j := by
  unfold putD
  by_cases h : k ∈ kvs.map Prod.fst
  · rw [if_pos ((any_keys kvs k).mpr h)]
    clear h
    induction kvs with
    | nil => rfl
    | cons p r ih =>
      rw [List.map_cons]
      by_cases e : p.1 = k
      · rw [if_pos e, lookD_cons_ne (p.1, x) _ _ (fun z => hj (z.symm.trans e)), lookD_cons_ne _ _ _ (fun z => hj (z.symm.trans e)), ih]
      · rw [if_neg e]
        by_cases e2 : p.1 = j
        · rw [lookD_cons_eq _ _ _ e2, lookD_cons_eq _ _ _ e2]
        · rw [lookD_cons_ne _ _ _ e2, lookD_cons_ne _ _ _ e2, ih]
  · rw [if_neg fun z => h ((any_keys kvs k).mp z), lookD_app, lookD_cons_ne _ _ _ (fun z => hj z.symm)]
    show (lookD kvs j).or none = _
    cases lookD kvs j <;> rfl
theorem eqD_refl [Dat α] [DEq α] (hr : ∀ x : α, DEq.eqv x x = true) {kvs : List (Str × α)} (h : (kvs.map Prod.fst).Nodup) : eqD kvs kvs = true := by
  unfold eqD
  rw [beq_self_eq_true, Bool.true_and, List.all_eq_true]
  intro p hp
  unfold hitE
  rw [lookD_mem h hp]
  exact hr p.2
theorem deq_rat (x y : Rat) : deq x y = decide (x = y) := rfl
theorem deq_dict {x y : Dc α} [Dat α] [DEq α] : deq x y = eqD x.kvs y.kvs := rfl
end
section
variable {S τ : Type}
theorem fold_inv (I : List τ → S → Prop) {okb : S → τ → Prop} {step : S → τ → S} (h : ∀ x r s, I (x :: r) s → okb s x ∧ I r (step s x)) : ∀ (xs : List τ) (s : S), I xs s → okFold okb step s xs ∧ I [] (xs.foldl step s)
  | [], s, i => ⟨trivial, i⟩
  | x :: r, s, i => by
    obtain ⟨h1, h2⟩ := h x r s i
    obtain ⟨h3, h4⟩ := fold_inv I h r (step s x) h2
    exact ⟨⟨h1, h3⟩, h4⟩
theorem fold_range (I : Nat → S → Prop) {okb : S → Int → Prop} {step : S → Int → S} {n : Int} {s : S} (h0 : I 0 s) (h : ∀ (i : Nat) s, (i : Int) < n → I i s → okb s (i : Int) ∧ I (i + 1) (step s (i : Int))) : okFold okb step s (rangeI n) ∧ I n.toNat ((rangeI n).foldl step s) := by
  have key := fold_inv (fun (r : List Int) s => ∃ i, i ≤ n.toNat ∧ r = (rangeI n).drop i ∧ I i s) (okb := okb) (step := step) (fun x r s ⟨i, hi, hr, hI⟩ => by
    obtain ⟨g1, g2, g3⟩ := drop_cons hr.symm
    have hl : (rangeI n).length = n.toNat := by unfold rangeI; simp
    have hx : x = (i : Int) := by
      unfold rangeI at g1
      rw [List.getElem?_map, List.getElem?_range (by omega)] at g1
      exact (Option.some.inj g1).symm
    subst hx
    obtain ⟨k1, k2⟩ := h i s (by omega) hI
    exact ⟨k1, i + 1, by omega, g2.symm, k2⟩) (rangeI n) s ⟨0, Nat.zero_le _, rfl, h0⟩
  obtain ⟨k1, i, hi, hr, hI⟩ := key
  have hl : (rangeI n).length = n.toNat := by unfold rangeI; simp
  have : i = n.toNat := by
    have := congrArg List.length hr
    rw [List.length_drop, hl] at this
    simp at this
    omega
  subst this
  exact ⟨k1, hI⟩
theorem run_inv {ρ : Type} (I : List τ → S → Prop) {okb : S → τ → Prop} {step : S → τ → Stp S ρ} (h : ∀ x r s, I (x :: r) s → okb s x ∧ ∃ s', step s x = .go s' ∧ I r s') : ∀ (xs : List τ) (s : S), I xs s → okRun okb step s xs ∧ ∃ s', runL step s xs = .go s' ∧ I [] s'
  | [], s, i => ⟨trivial, s, rfl, i⟩
  | x :: r, s, i => by
    obtain ⟨h1, s', h2, h3⟩ := h x r s i
    obtain ⟨h4, s2, h5, h6⟩ := run_inv I h r s' h3
    refine ⟨⟨h1, ?_⟩, s2, ?_, h6⟩
    · rw [h2]; exact h4
    · show (match step s x with | .go s' => runL step s' r | .brk s' => .brk s' | .ret r => .ret r) = _
      rw [h2]; exact h5
end
/-! fractions by their parts -/
theorem divInt_pos {t b : Int} (hb : 0 < b) : 0 < (Rat.divInt t b).num ↔ 0 < t := by
  have e := divInt_cross (t := t) (Int.ne_of_gt hb)
  have hd := den_pos (Rat.divInt t b)
  constructor
  · intro h
    have h1 : 0 < (Rat.divInt t b).num * b := Int.mul_pos h hb
    rw [e] at h1
    exact Int.pos_of_mul_pos_right h1 hd
  · intro h
    have h1 : 0 < (((Rat.divInt t b).den : Nat) : Int) * t := Int.mul_pos hd h
    rw [← e] at h1
    exact Int.pos_of_mul_pos_left h1 hb
theorem absI_eq (i : Int) : absI i = (i.natAbs : Int) := by unfold absI; split <;> omega
theorem isQ_abs {t b : Int} (h : IsQ t b) : IsQ (absI t) b := ⟨h.1, by rw [← h.2]; unfold Int.gcd; rw [absI_nat]⟩
theorem divInt_own (q : Rat) : Rat.divInt q.num ((q.den : Nat) : Int) = q := Rat.num_divInt_den q
theorem divInt_abs {t b : Int} (hb : 0 < b) : Rat.divInt (absI (Rat.divInt t b).num) (((Rat.divInt t b).den : Nat) : Int) = Rat.divInt (absI t) b := by
  rw [Rat.divInt_eq_divInt_iff (Int.ne_of_gt (den_pos _)) (Int.ne_of_gt hb), absI_eq, absI_eq]
  have e := congrArg Int.natAbs (divInt_cross (t := t) (Int.ne_of_gt hb))
  rw [Int.natAbs_mul, Int.natAbs_mul, Int.natAbs_natCast] at e
  have eb : b = (b.natAbs : Int) := by omega
  rw [eb]
  have e2 : (((Rat.divInt t b).num.natAbs * b.natAbs : Nat) : Int) = (((Rat.divInt t b).den * t.natAbs : Nat) : Int) := congrArg Int.ofNat e
  rw [Int.natCast_mul, Int.natCast_mul] at e2
  rw [← eb]
  rw [← eb] at e2
  rw [e2, Int.mul_comm]
end R
set_option maxHeartbeats 1000000
set_option autoImplicit false
/-! plain: texts, parts of lists -/
namespace R
open PySem PySem.Spec PyProof.Rows L2
theorem sl_app (a b : Str) : (a ++ b).length = a.length + b.length := Str.length_append a b
theorem sl_at (x : Str) (i : Int) : (strAt x i).length = 1 := rfl
theorem sl_cut (x : Str) (lo hi : Option Int) : (cutSt x lo hi).length ≤ x.length := by
  unfold cutSt cutS
  show Array.size _ ≤ _
  rw [List.size_toArray, List.length_take, List.length_drop]
  have : x.cps.toList.length = x.length := by rw [Array.length_toList]; rfl
  omega
theorem sl_rep (x : Str) (n : Int) : (repS x n).length = n.toNat * x.length := by
  unfold repS
  show Array.size _ = _
  generalize n.toNat = m
  have : ∀ (m : Nat) (a : Array Nat), ((List.replicate m x.cps).foldl (· ++ ·) a).size = a.size + m * x.length := by
    intro m
    induction m with
    | zero => intro a; simp
    | succ m ih =>
      intro a
      rw [List.replicate_succ, List.foldl_cons, ih, Array.size_append, Nat.add_mul]
      show a.size + x.length + _ = _
      omega
  rw [this]
  simp
theorem sl_show {i : Int} {k : Nat} (hk : 0 < k) (h : i.natAbs < 2 ^ k) : (showI i).length ≤ k + 1 := by
  unfold showI
  rw [PySem.ofString_length]
  refine int_text_length_le hk ?_
  by_cases z : i.natAbs = 0
  · rw [z]; simpa using hk
  · exact (Nat.log2_lt z).mpr h
theorem shown {i : Int} {k : Nat} (h : i.natAbs < 2 ^ k) (hk : 0 < k) (hk2 : k ≤ 1920) : Shown i := by
  unfold Shown
  refine Nat.lt_of_lt_of_le ?_ hk2
  by_cases z : i.natAbs = 0
  · rw [z]; simpa using hk
  · exact (Nat.log2_lt z).mpr h
theorem cutL_from {τ : Type} (xs : List τ) (a : Nat) : cutL xs (some (a : Int)) none = xs.drop a := by
  unfold cutL
  rw [HT.sIx_nat, HT.sIx_none]
  by_cases h : a ≤ xs.length
  · rw [Nat.min_eq_left h, List.take_of_length_le (by rw [List.length_drop]; exact Nat.le_refl _)]
  · rw [Nat.min_eq_right (by omega), List.drop_of_length_le (Nat.le_refl _), List.drop_of_length_le (by omega)]; simp
theorem cutL_to {τ : Type} (xs : List τ) (b : Nat) : cutL xs none (some (b : Int)) = xs.take b := by
  unfold cutL
  rw [HT.sIx_nat, HT.sIx_none, List.drop_zero, Nat.sub_zero]
  by_cases h : b ≤ xs.length
  · rw [Nat.min_eq_left h]
  · rw [Nat.min_eq_right (by omega), List.take_of_length_le (Nat.le_refl _), List.take_of_length_le (by omega)]
theorem cutL_ab {τ : Type} (xs : List τ) (a b : Nat) : cutL xs (some (a : Int)) (some (b : Int)) = (xs.drop a).take (b - a) := by
  unfold cutL
  rw [HT.sIx_nat, HT.sIx_nat]
  by_cases h : a ≤ xs.length
  · rw [Nat.min_eq_left h]
    by_cases h2 : b ≤ xs.length
    · rw [Nat.min_eq_left h2]
    · rw [Nat.min_eq_right (by omega), List.take_of_length_le (by rw [List.length_drop]; exact Nat.le_refl _), List.take_of_length_le (by rw [List.length_drop]; omega)]
  · rw [List.drop_of_length_le (show xs.length ≤ min a xs.length by omega), List.drop_of_length_le (show xs.length ≤ a by omega)]; simp
theorem cutL_len {τ : Type} (xs : List τ) (lo hi : Option Int) : (cutL xs lo hi).length ≤ xs.length := by
  unfold cutL
  rw [List.length_take, List.length_drop]
  omega
theorem cutL_mem {τ : Type} {xs : List τ} {lo hi : Option Int} {x : τ} (h : x ∈ cutL xs lo hi) : x ∈ xs := List.mem_of_mem_drop (List.mem_of_mem_take h)
theorem getD_mem {τ : Type} {xs : List τ} {d : τ} {i : Nat} (h : i < xs.length) : xs.getD i d ∈ xs := by
  rw [List.getD_eq_getElem?_getD, List.getElem?_eq_getElem h]
  exact List.getElem_mem h
theorem deq_str (x y : Str) : deq x y = decide (x = y) := rfl
theorem mem_rangeI {n x : Int} : x ∈ rangeI n ↔ 0 ≤ x ∧ x < n := by
  unfold rangeI
  rw [List.mem_map]
  constructor
  · rintro ⟨k, h1, h2⟩
    rw [List.mem_range] at h1
    have : (k : Int) = x := h2
    omega
  · intro h
    exact ⟨x.toNat, List.mem_range.mpr (by omega), by show ((x.toNat : Nat) : Int) = x; omega⟩
theorem mem_rangeAB {a b x : Int} : x ∈ rangeAB a b ↔ a ≤ x ∧ x < b := by
  unfold rangeAB
  rw [List.mem_map]
  constructor
  · rintro ⟨k, h1, h2⟩
    rw [List.mem_range] at h1
    omega
  · intro h
    exact ⟨(x - a).toNat, List.mem_range.mpr (by omega), by omega⟩
theorem len_rangeI (n : Int) : (rangeI n).length = n.toNat := by unfold rangeI; simp
theorem len_rangeAB (a b : Int) : (rangeAB a b).length = (b - a).toNat := by unfold rangeAB; simp
/-- a loop that appends is a map -/
theorem fold_app {σ τ : Type} {okb : List τ → σ → Prop} {step : List τ → σ → List τ} (f : σ → List τ) (N : Nat) : ∀ (xs : List σ) (acc : List τ), (∀ x ∈ xs, (f x).length ≤ N) → (∀ acc x, x ∈ xs → acc.length < 100000 - N → okb acc x ∧ step acc x = acc ++ f x) → acc.length + xs.length * N < 100000 - N → okFold okb step acc xs ∧ xs.foldl step acc = acc ++ xs.flatMap f
  | [], acc, _, _, _ => ⟨trivial, by simp⟩
  | x :: r, acc, hN, h, hl => by
    rw [List.length_cons, Nat.add_mul] at hl
    obtain ⟨h1, h2⟩ := h acc x List.mem_cons_self (by omega)
    have hx := hN x List.mem_cons_self
    obtain ⟨h3, h4⟩ := fold_app f N r (step acc x) (fun y hy => hN y (List.mem_cons_of_mem _ hy)) (fun a y hy => h a y (List.mem_cons_of_mem _ hy)) (by rw [h2, List.length_append]; omega)
    exact ⟨⟨h1, h3⟩, by rw [List.foldl_cons, h4, h2, List.flatMap_cons, List.append_assoc]⟩
/-- a test in a loop that always goes on -/
theorem run_all {σ τ : Type} {okb : Unit → σ → Prop} {step : Unit → σ → Stp Unit τ} : ∀ (xs : List σ), (∀ x ∈ xs, okb () x ∧ step () x = .go ()) → okRun okb step () xs ∧ runL step () xs = .go ()
  | [], _ => ⟨trivial, rfl⟩
  | x :: r, h => by
    obtain ⟨h1, h2⟩ := h x List.mem_cons_self
    obtain ⟨h3, h4⟩ := run_all (okb := okb) (step := step) r fun y hy => h y (List.mem_cons_of_mem _ hy)
    refine ⟨⟨h1, by rw [h2]; exact h3⟩, ?_⟩
    unfold runL
    rw [h2]; exact h4
theorem fin_eq {S ρ τ : Type} {o : Stp S ρ} {k : S → τ} {h : ρ → τ} {s : S} (e : o = .go s) : o.fin k h = k s := by rw [e]; rfl
theorem go_inj {S ρ : Type} {o : Stp S ρ} {s s' : S} (e : o = .go s) (h : o = .go s' ∨ o = .brk s') : s' = s := by
  rw [e] at h
  rcases h with h | h
  · cases h; rfl
  · cases h
theorem eqL_refl {α : Type} [Dat α] [DEq α] (hr : ∀ x : α, DEq.eqv x x = true) : ∀ xs : List α, eqL xs xs = true
  | [] => rfl
  | x :: xs => by
    show (DEq.eqv x x && eqL xs xs) = true
    rw [hr, eqL_refl hr xs]; rfl
theorem deq_ls (xs : List Str) : deq xs xs = true := eqL_refl (fun x => decide_eq_true rfl) xs
end R
set_option maxHeartbeats 1000000
set_option autoImplicit false
/-! plain: sums of fractions -/
namespace R
open PySem PySem.Spec PyProof.Rows L2
def sumQ : List Rat → Rat
  | [] => 0
  | x :: r => x + sumQ r
theorem sumQ_app : ∀ xs ys : List Rat, sumQ (xs ++ ys) = sumQ xs + sumQ ys
  | [], ys => by show sumQ ys = 0 + sumQ ys; rw [Rat.zero_add]
  | x :: r, ys => by show x + sumQ (r ++ ys) = x + sumQ r + sumQ ys; rw [sumQ_app r ys, Rat.add_assoc]
theorem sumQ_one (x : Rat) : sumQ [x] = x := Rat.add_zero x
theorem sumQ_filter {τ : Type} (p : τ → Bool) (f : τ → Rat) : ∀ xs : List τ, sumQ ((xs.filter p).map f) = sumQ (xs.map fun x => if p x = true then f x else 0)
  | [] => rfl
  | x :: r => by
    rw [List.filter_cons, List.map_cons]
    show _ = (if p x = true then f x else 0) + sumQ _
    rw [← sumQ_filter p f r]
    split
    · rfl
    · rw [Rat.zero_add]
theorem sumQ_congr {τ : Type} {f g : τ → Rat} {xs : List τ} (h : ∀ x ∈ xs, f x = g x) : sumQ (xs.map f) = sumQ (xs.map g) := by
  rw [List.map_congr_left h]
theorem sumQ_neg {τ : Type} (f : τ → Rat) : ∀ xs : List τ, sumQ (xs.map fun x => - f x) = - sumQ (xs.map f)
  | [] => by show (0 : Rat) = -0; rw [Rat.neg_zero]
  | x :: r => by
    show - f x + sumQ _ = - (f x + sumQ _)
    rw [sumQ_neg f r]; grind
theorem sumQ_mulr {τ : Type} (f : τ → Rat) (c : Rat) : ∀ xs : List τ, sumQ (xs.map fun x => f x * c) = sumQ (xs.map f) * c
  | [] => by show (0 : Rat) = 0 * c; rw [Rat.zero_mul]
  | x :: r => by
    show f x * c + sumQ _ = (f x + sumQ _) * c
    rw [sumQ_mulr f c r]; grind
theorem fold_qsum {τ : Type} {okb : Rat → τ → Prop} {step : Rat → τ → Rat} (g : τ → Rat) (w N : Nat) : ∀ (xs : List τ) (b : Nat) (s : Rat), QB b s → (∀ x ∈ xs, QB w (g x)) → (∀ x ∈ xs, ∀ n s, QB n s → 0 < n → n ≤ N → okb s x ∧ step s x = s + g x) → 0 < b → b + xs.length * (w + 1) ≤ N →
    okFold okb step s xs ∧ xs.foldl step s = s + sumQ (xs.map g) ∧ QB (b + xs.length * (w + 1)) (s + sumQ (xs.map g))
  | [], b, s, hs, _, _, _, _ => ⟨trivial, by show s = s + 0; rw [Rat.add_zero], by show QB _ (s + 0); rw [Rat.add_zero]; exact hs.mono (by simp)⟩
  | x :: r, b, s, hs, hw, h, hb, hl => by
    rw [List.length_cons, Nat.add_mul] at hl
    obtain ⟨h1, h2⟩ := h x List.mem_cons_self b s hs hb (by omega)
    have hq : QB (b + w + 1) (s + g x) := hs.add (hw x List.mem_cons_self)
    obtain ⟨k1, k2, k3⟩ := fold_qsum (okb := okb) (step := step) g w N r (b + w + 1) (s + g x) hq (fun y hy => hw y (List.mem_cons_of_mem _ hy)) (fun y hy => h y (List.mem_cons_of_mem _ hy)) (by omega) (by omega)
    have e : s + sumQ ((x :: r).map g) = s + g x + sumQ (r.map g) := by
      show s + (g x + sumQ _) = _
      rw [Rat.add_assoc]
    refine ⟨⟨h1, by rw [h2]; exact k1⟩, by rw [List.foldl_cons, h2, k2, e], ?_⟩
    rw [e]
    refine k3.mono ?_
    rw [List.length_cons, Nat.add_mul]
    omega
theorem okFold_app {S τ : Type} {okb : S → τ → Prop} {step : S → τ → S} : ∀ {xs ys : List τ} {s : S}, okFold okb step s xs → okFold okb step (xs.foldl step s) ys → okFold okb step s (xs ++ ys)
  | [], _, _, _, h => h
  | _ :: _, _, _, h, g => ⟨h.1, okFold_app h.2 g⟩
theorem zip_map_get {α β : Type} {xs : List α} {d : α} {g : α → Int → β} {n : Int} (h : n = (xs.length : Int)) {x : α × β} (hx : x ∈ List.zip xs (List.map (fun k : Int => g (xs.getD k.toNat d) k) (rangeI n))) : x.1 ∈ xs ∧ ∃ k, x.2 = g x.1 k := by
  subst h
  obtain ⟨i, hi⟩ := List.getElem?_of_mem hx
  obtain ⟨x1, x2⟩ := x
  rw [List.getElem?_zip_eq_some] at hi
  obtain ⟨h1, h2⟩ := hi
  have hl : i < xs.length := (List.getElem?_eq_some_iff.mp h1).1
  refine ⟨List.mem_of_getElem? h1, (i : Int), ?_⟩
  unfold rangeI at h2
  rw [Int.toNat_natCast, List.map_map, List.getElem?_map, List.getElem?_range hl] at h2
  have h2 : g (xs.getD ((i : Int)).toNat d) (i : Int) = x2 := Option.some.inj h2
  rw [Int.toNat_natCast, List.getD_eq_getElem?_getD, h1] at h2
  exact h2.symm
theorem cutL_nodup {τ : Type} {xs : List τ} (h : xs.Nodup) (lo hi : Option Int) : (cutL xs lo hi).Nodup := h.sublist ((List.take_sublist _ _).trans (List.drop_sublist _ _))
theorem sumQ_qb {τ : Type} (g : τ → Rat) (w : Nat) : ∀ (xs : List τ) (b : Nat) (s : Rat), QB b s → (∀ x ∈ xs, QB w (g x)) → QB (b + xs.length * (w + 1)) (s + sumQ (xs.map g))
  | [], b, s, hs, _ => by show QB _ (s + 0); rw [Rat.add_zero]; exact hs.mono (by simp)
  | x :: r, b, s, hs, hw => by
    have k := sumQ_qb g w r (b + w + 1) (s + g x) (hs.add (hw x List.mem_cons_self)) fun y hy => hw y (List.mem_cons_of_mem _ hy)
    have e : s + sumQ ((x :: r).map g) = s + g x + sumQ (r.map g) := by
      show s + (g x + sumQ _) = _
      rw [Rat.add_assoc]
    rw [e]
    refine k.mono ?_
    rw [List.length_cons, Nat.add_mul]
    omega
theorem QB.one' {n : Nat} (h : 0 < n) : QB n (1 : Rat) := QB.one.mono h
theorem QB.zero' {n : Nat} (h : 0 < n) : QB n (0 : Rat) := QB.zero.mono h
/-- what a table has at a name -/
def cfD (d : Dc Rat) (k : Str) : Rat := (d.look k).getD 0
theorem cfD_no {d : Dc Rat} {k : Str} (h : d.has k = false) : cfD d k = 0 := by
  unfold cfD Dc.look
  unfold Dc.has at h
  cases e : lookD d.kvs k with
  | none => rfl
  | some x => rw [e] at h; cases h
theorem has_some {d : Dc Rat} {k : Str} (h : d.has k = true) : (d.look k).isSome = true := h
theorem look_mem {α : Type} {kvs : List (Str × α)} {k : Str} {x : α} (h : lookD kvs k = some x) : (k, x) ∈ kvs := by
  have hk : k ∈ kvs.map Prod.fst := by
    by_cases z : k ∈ kvs.map Prod.fst
    · exact z
    · rw [lookD_none z] at h; cases h
  obtain ⟨y, h1, h2⟩ := lookD_some hk
  rw [h] at h1
  cases h1
  exact h2
theorem cfD_qb {d : Dc Rat} {n : Nat} (h : ∀ p ∈ d.kvs, QB n p.2) (hn : 0 < n) (k : Str) : QB n (cfD d k) := by
  unfold cfD Dc.look
  cases e : lookD d.kvs k with
  | none => exact QB.zero' hn
  | some x => exact h _ (look_mem e)
theorem lt_sub {x y : Rat} : x < y ↔ 0 < y - x := by
  constructor
  · intro h; grind
  · intro h; grind
theorem numz {x : Rat} (h : x.num = 0) : x = 0 := by
  have := divInt_own x
  rw [h, Rat.zero_divInt] at this
  exact this.symm
theorem num_pos {x : Rat} : 0 < x.num ↔ 0 < x := by
  constructor
  · intro h
    have h1 : 0 ≤ x := Rat.num_nonneg.mp (by omega)
    have h2 : x ≠ 0 := fun z => by subst z; exact absurd h (by decide)
    grind
  · intro h
    have h1 : 0 ≤ x.num := Rat.num_nonneg.mpr (by grind)
    have h2 : x.num ≠ 0 := fun z => by rw [numz z] at h; exact absurd h (by decide)
    omega
theorem num_neg' {x : Rat} : x.num < 0 ↔ x < 0 := by
  constructor
  · intro h
    by_cases z : x < 0
    · exact z
    · have : 0 ≤ x := by grind
      have := Rat.num_nonneg.mpr this
      omega
  · intro h
    by_cases z : x.num < 0
    · exact z
    · have : 0 ≤ x := Rat.num_nonneg.mp (by omega)
      grind
theorem fold_enum {σ τ : Type} {okb : σ → Int × τ → Prop} {step : σ → Int × τ → σ} (I : Nat → σ → Prop) (xs : List τ) (d : τ) {s : σ} (h0 : I 0 s) (h : ∀ (i : Nat) s, i < xs.length → I i s → okb s ((i : Int), xs.getD i d) ∧ I (i + 1) (step s ((i : Int), xs.getD i d))) : okFold okb step s (enumI xs) ∧ I xs.length ((enumI xs).foldl step s) := by
  have hl : (enumI xs).length = xs.length := by unfold enumI; simp
  have key := fold_inv (fun (r : List (Int × τ)) s => ∃ i, i ≤ xs.length ∧ r = (enumI xs).drop i ∧ I i s) (okb := okb) (step := step) (fun x r s ⟨i, hi, hr, hI⟩ => by
    obtain ⟨g1, g2, g3⟩ := drop_cons hr.symm
    rw [hl] at g3
    have hx : x = ((i : Int), xs.getD i d) := by
      unfold enumI at g1
      rw [List.getElem?_mapIdx, List.getElem?_eq_getElem g3] at g1
      have := Option.some.inj g1
      rw [← this, List.getD_eq_getElem?_getD, List.getElem?_eq_getElem g3]
      rfl
    subst hx
    obtain ⟨k1, k2⟩ := h i s g3 hI
    exact ⟨k1, i + 1, by omega, g2.symm, k2⟩) (enumI xs) s ⟨0, Nat.zero_le _, rfl, h0⟩
  obtain ⟨k1, i, hi, hr, hI⟩ := key
  have : i = xs.length := by
    have := congrArg List.length hr
    rw [List.length_drop, hl] at this
    simp at this
    omega
  subst this
  exact ⟨k1, hI⟩
theorem mem_put' {α : Type} {kvs : List (Str × α)} {k : Str} {x : α} {p : Str × α} (h : p ∈ putD kvs k x) : p = (k, x) ∨ p ∈ kvs := by
  unfold putD at h
  split at h
  · obtain ⟨q, h1, h2⟩ := List.mem_map.mp h
    split at h2
    · rename_i e; exact .inl (by rw [← h2, e])
    · exact .inr (by rw [← h2]; exact h1)
  · rcases List.mem_append.mp h with h | h
    · exact .inr h
    · exact .inl (List.mem_singleton.mp h)
/-! rows compared with themselves -/
theorem deq_refl_dc (d : Dc Rat) (h : (d.kvs.map Prod.fst).Nodup) : deq d d = true := eqD_refl (fun x => decide_eq_true rfl) h
theorem deq_refl_l {α : Type} [Dat α] [DEq α] : ∀ xs : List α, (∀ x ∈ xs, DEq.eqv x x = true) → deq xs xs = true := fun xs h => by
  show eqL xs xs = true
  induction xs with
  | nil => rfl
  | cons x r ih =>
    show (DEq.eqv x x && eqL r r) = true
    rw [h x List.mem_cons_self, ih fun y hy => h y (List.mem_cons_of_mem _ hy)]; rfl
theorem deq_refl_row {one : T5 (Dc Rat) Str Rat Int Int} (h : (one.a.kvs.map Prod.fst).Nodup) : DEq.eqv one one = true := by
  show (DEq.eqv one.a one.a && (decide (one.b = one.b) && (decide (one.c = one.c) && (decide (one.d = one.d) && decide (one.e = one.e))))) = true
  rw [show DEq.eqv one.a one.a = true from deq_refl_dc one.a h]
  simp
end R
set_option maxHeartbeats 1000000
set_option autoImplicit false
/-! plain: texts by their signs -/
namespace R
open PySem PySem.Spec PyProof.Rows L2 TL
theorem sl_tl (x : Str) : x.length = (tl x).length := len_tl x
theorem tl_cut (x : Str) (lo hi : Option Int) : tl (cutSt x lo hi) = cutL (tl x) lo hi := by
  unfold cutSt cutS cutL
  rw [sl_tl]
theorem tl_at {x : Str} {i : Nat} (h : i < x.length) : tl (strAt x (i : Int)) = [(tl x).getD i 0] := by
  unfold strAt
  rw [Int.toNat_natCast]
theorem tl_one (c : Nat) : tl ⟨#[c]⟩ = [c] := rfl
theorem one_iff {x : Str} {c : Nat} : x = ⟨#[c]⟩ ↔ tl x = [c] := ⟨fun h => by rw [h], fun h => ext_tl h⟩
theorem tl_slash : tl (Str.ofString "/") = [47] := by decide +kernel
theorem tl_minus : tl (Str.ofString "-") = [45] := by decide +kernel
theorem tl_zero : tl (Str.ofString "0") = [48] := by decide +kernel
theorem tl_empty : tl (Str.ofString "") = [] := by decide +kernel
theorem tl_digits : tl (Str.ofString "0123456789") = [48, 49, 50, 51, 52, 53, 54, 55, 56, 57] := by decide +kernel
theorem of_one {s : String} {c : Nat} (h : tl (Str.ofString s) = [c]) : Str.ofString s = ⟨#[c]⟩ := one_iff.mpr h
theorem eq_tl {x y : Str} : x = y ↔ tl x = tl y := ⟨fun h => by rw [h], fun h => ext_tl h⟩
theorem dec_tl {x y : Str} : decide (x = y) = decide (tl x = tl y) := by
  by_cases h : x = y
  · rw [decide_eq_true h, decide_eq_true (eq_tl.mp h)]
  · rw [decide_eq_false h, decide_eq_false fun z => h (eq_tl.mpr z)]
theorem has_one (x : Str) (c : Nat) : strHas x ⟨#[c]⟩ = decide (c ∈ tl x) := PySem.StrLaws.found_one x c
theorem slash_or (c : Nat) (l : List Nat) : c ∉ l ∨ ∃ a b, l = a ++ c :: b ∧ c ∉ a := by
  induction l with
  | nil => exact .inl List.not_mem_nil
  | cons d l ih =>
    by_cases e : d = c
    · subst e; exact .inr ⟨[], l, rfl, List.not_mem_nil⟩
    · rcases ih with h | ⟨a, b, h1, h2⟩
      · exact .inl fun z => (List.mem_cons.mp z).elim (fun y => e y.symm) h
      · exact .inr ⟨d :: a, b, by rw [h1]; rfl, fun z => (List.mem_cons.mp z).elim (fun y => e y.symm) h2⟩
theorem ix_one {x : Str} {c : Nat} {a b : List Nat} (h : tl x = a ++ c :: b) (hn : c ∉ a) : strIx x ⟨#[c]⟩ = a.length := by
  unfold strIx
  have g : ∀ i, PySem.StrLaws.At x ⟨#[c]⟩ x.length i → (tl x)[i]? = some c := fun i hi => (PySem.StrLaws.subAt_one x c i).mp hi
  have g2 : PySem.StrLaws.At x ⟨#[c]⟩ x.length a.length := by
    refine (PySem.StrLaws.subAt_one x c a.length).mpr ?_
    show (tl x)[a.length]? = some c
    rw [h, List.getElem?_append_right (Nat.le_refl _), Nat.sub_self]; rfl
  rcases PySem.StrLaws.occ_head x ⟨#[c]⟩ 1 (Nat.le_refl 1) with ⟨_, h0⟩ | ⟨i, r, h0, h1, h2⟩
  · exact absurd g2 (h0 _)
  · rw [h0]
    show i = a.length
    rcases Nat.lt_trichotomy i a.length with z | z | z
    · have q := g i h1
      rw [h, List.getElem?_append_left z] at q
      exact absurd (List.mem_of_getElem? q) hn
    · exact z
    · exact absurd g2 (h2 _ z)
theorem part_app {x : Str} {c : Nat} {a b : List Nat} (h : tl x = a ++ c :: b) (hn : c ∉ a) : part3 x ⟨#[c]⟩ = ⟨⟨a.toArray⟩, ⟨#[c]⟩, ⟨b.toArray⟩⟩ := by
  have hx : x = (⟨a.toArray⟩ : Str) ++ ⟨#[c]⟩ ++ ⟨b.toArray⟩ := ext_tl (by rw [tl_append, tl_append, h, List.append_assoc]; rfl)
  unfold part3
  rw [hx, partition_app (y := ⟨#[c]⟩) (s := c) (S := []) rfl (by rw [tl_mk]; exact hn)]
theorem part_no {x : Str} {c : Nat} (hn : c ∉ tl x) : part3 x ⟨#[c]⟩ = ⟨x, Str.empty, Str.empty⟩ := by
  unfold part3
  rw [partition_none (y := ⟨#[c]⟩) (s := c) (S := []) rfl hn]
theorem starts_one (x : Str) (c : Nat) : Txt.startswith x ⟨#[c]⟩ = decide ((tl x).head? = some c) := by
  unfold Txt.startswith
  have h := PySem.StrLaws.subAt_one x c 0
  have h2 : (tl x)[0]? = (tl x).head? := by cases tl x <;> rfl
  by_cases z : (tl x).head? = some c
  · have q := h.mpr (h2.trans z)
    rw [decide_eq_true z, q.2, Bool.and_true]
    exact decide_eq_true q.1
  · rw [decide_eq_false z]
    cases q : (decide (0 + (⟨#[c]⟩ : Str).length ≤ x.length) && Builtin.Str.subAt x ⟨#[c]⟩ 0) with
    | false => rfl
    | true =>
      rw [Bool.and_eq_true] at q
      exact absurd (h2.symm.trans (h.mp ⟨of_decide_eq_true q.1, q.2⟩)) z
theorem tl_signs (x : Str) : R.signs x = (tl x).map fun c => ⟨#[c]⟩ := rfl
/-! whole numbers as texts -/
theorem ofString_app (a b : String) : Str.ofString (a ++ b) = Str.ofString a ++ Str.ofString b := by
  refine ext_tl ?_
  rw [tl_append]
  rw [Str.ofString_eq_toList, Str.ofString_eq_toList, Str.ofString_eq_toList, tl_mk, tl_mk, tl_mk, String.toList_append, List.map_append]
theorem tl_show (n : Nat) : tl (showI (n : Int)) = numL n := tl_num n
theorem tl_showN (n : Nat) (h : 0 < n) : tl (showI (-(n : Int))) = 45 :: numL n := by
  have e : showI (-(n : Int)) = Str.ofString "-" ++ showI (n : Int) := by
    unfold showI
    cases n with
    | zero => omega
    | succ m =>
      have e : (-((m + 1 : Nat) : Int)) = Int.negSucc m := rfl
      rw [e]
      exact ofString_app "-" _
  rw [e, tl_append, tl_minus, tl_show]; rfl
/-! a whole number by figures -/
theorem digit_mem {c : Nat} : c ∈ tl (Str.ofString "0123456789") ↔ 48 ≤ c ∧ c ≤ 57 := by
  rw [tl_digits]
  simp only [List.mem_cons, List.not_mem_nil, or_false]
  omega
theorem has_digit (c : Nat) : strHas (Str.ofString "0123456789") ⟨#[c]⟩ = decide (48 ≤ c ∧ c ≤ 57) := by
  rw [has_one]
  by_cases h : 48 ≤ c ∧ c ≤ 57
  · rw [decide_eq_true h, decide_eq_true (digit_mem.mpr h)]
  · rw [decide_eq_false h, decide_eq_false fun z => h (digit_mem.mp z)]
def digB (c : Nat) : Bool := decide (48 ≤ c ∧ c ≤ 57)
/-- whole_by, by signs -/
def numW (n : Nat) (cs : List Nat) : Option Nat := if cs = [] ∨ n < cs.length ∨ (1 < cs.length ∧ cs.head? = some 48) then none else if cs.all digB then some (NumText.digitsVal cs) else none
theorem all_dig {cs : List Nat} : cs.all digB = true ↔ NumText.AllDigits cs := by
  rw [List.all_eq_true]
  exact ⟨fun h c hc => of_decide_eq_true (h c hc), fun h c hc => decide_eq_true (h c hc)⟩
theorem empty_iff (w : Str) : (w = Str.ofString "") = (tl w = []) := by rw [eq_tl, tl_empty]
theorem head_at {w : Str} (h : 1 < w.length) : (strAt w 0 = Str.ofString "0") = ((tl w).head? = some 48) := by
  have h0 := tl_at (x := w) (i := 0) (by omega)
  have e0 : strAt w ((0 : Nat) : Int) = strAt w 0 := rfl
  rw [e0] at h0
  rw [eq_tl, tl_zero, h0]
  cases e : tl w with
  | nil => rw [sl_tl, e] at h; cases h
  | cons a l => simp
theorem int_dig {w : Str} (h : (tl w).all digB = true) (hn : tl w ≠ []) (hl : w.length ≤ 640) : intText? w = some ((NumText.digitsVal (tl w) : Nat) : Int) := PySem.intText_digits (all_dig.mp h) hn (by omega)
/-- what a word of figures is worth is shown as that word -/
theorem val_snoc (cs : List Nat) (c : Nat) : NumText.digitsVal (cs ++ [c]) = NumText.digitsVal cs * 10 + (c - 48) := by
  unfold NumText.digitsVal
  rw [List.foldl_append]; rfl
theorem val_pos : ∀ (cs : List Nat), NumText.AllDigits cs → cs ≠ [] → cs.head? ≠ some 48 → 10 ^ (cs.length - 1) ≤ NumText.digitsVal cs := by
  intro cs
  induction h : cs.length generalizing cs with
  | zero => intro _ hn; exact absurd (List.length_eq_zero_iff.mp h) hn
  | succ n ih =>
    intro hd hn hh
    obtain ⟨l, c, rfl⟩ : ∃ l c, cs = l ++ [c] := ⟨cs.dropLast, cs.getLast hn, (List.dropLast_concat_getLast hn).symm⟩
    rw [List.length_append, List.length_singleton] at h
    have hl : l.length = n := by omega
    rw [val_snoc]
    by_cases z : l = []
    · subst z
      have hc := hd c (by simp)
      have : c ≠ 48 := fun e => hh (by rw [e]; rfl)
      cases hl
      show 1 ≤ _
      omega
    · have hh' : l.head? ≠ some 48 := fun e => hh (by
        cases l with
        | nil => exact absurd rfl z
        | cons a r => exact e)
      have := ih l hl (fun x hx => hd x (List.mem_append_left _ hx)) z hh'
      have hp : 1 ≤ n := by
        have := List.length_pos_iff.mpr z
        omega
      have e : n + 1 - 1 = (n - 1) + 1 := by omega
      rw [e, Nat.pow_succ]
      omega
theorem numL_of : ∀ (cs : List Nat), NumText.AllDigits cs → cs ≠ [] → (cs.length = 1 ∨ cs.head? ≠ some 48) → numL (NumText.digitsVal cs) = cs := by
  intro cs
  induction h : cs.length generalizing cs with
  | zero => intro _ hn; exact absurd (List.length_eq_zero_iff.mp h) hn
  | succ n ih =>
    intro hd hn hh
    obtain ⟨l, c, rfl⟩ : ∃ l c, cs = l ++ [c] := ⟨cs.dropLast, cs.getLast hn, (List.dropLast_concat_getLast hn).symm⟩
    rw [List.length_append, List.length_singleton] at h
    have hl : l.length = n := by omega
    have hc := hd c (by simp)
    rw [val_snoc]
    by_cases z : l = []
    · subst z
      show numL (0 * 10 + (c - 48)) = [c]
      rw [numL_lt (by omega)]
      have : 48 + (0 * 10 + (c - 48)) = c := by omega
      rw [this]
    · have hh' : l.head? ≠ some 48 := fun e => by
        rcases hh with q | q
        · have := List.length_pos_iff.mpr z
          omega
        · exact q (by
            cases l with
            | nil => exact absurd rfl z
            | cons a r => exact e)
      have hv := val_pos l (fun x hx => hd x (List.mem_append_left _ hx)) z hh'
      have hv1 : 1 ≤ NumText.digitsVal l := Nat.le_trans (Nat.pow_pos (by decide)) hv
      have i1 := ih l hl (fun x hx => hd x (List.mem_append_left _ hx)) z (.inr hh')
      rw [numL_step (by omega)]
      have e1 : (NumText.digitsVal l * 10 + (c - 48)) / 10 = NumText.digitsVal l := by omega
      have e2 : (NumText.digitsVal l * 10 + (c - 48)) % 10 = c - 48 := by omega
      rw [e1, e2, i1]
      have : 48 + (c - 48) = c := by omega
      rw [this]
theorem numL_head {n : Nat} (h : 0 < n) : (numL n).head? ≠ some 48 := by
  induction n using Nat.strongRecOn with
  | ind n ih =>
    by_cases z : n < 10
    · rw [numL_lt z]
      intro e
      have : 48 + n = 48 := Option.some.inj e
      omega
    · rw [numL_step (by omega)]
      have i := ih (n / 10) (by omega) (by omega)
      have ne := numL_ne (n / 10)
      cases e : numL (n / 10) with
      | nil => exact absurd e ne
      | cons a r => rw [e] at i; exact i
/-- a number's text, read back -/
theorem numW_num {n k : Nat} (hk : 0 < k) (h : n < 10 ^ k) : numW k (numL n) = some n := by
  unfold numW
  have hl := numL_len hk h
  rw [if_neg, if_pos (all_dig.mpr (numL_digits n)), numL_val]
  rintro (z | z | ⟨z, y⟩)
  · exact numL_ne n z
  · omega
  · by_cases p : 0 < n
    · exact numL_head p y
    · have : n = 0 := by omega
      subst this
      rw [numL_lt (by decide)] at z
      exact absurd z (by decide)
theorem numW_some {k n : Nat} {cs : List Nat} (h : numW k cs = some n) : numL n = cs ∧ NumText.AllDigits cs ∧ cs ≠ [] ∧ cs.length ≤ k := by
  unfold numW at h
  split at h
  · cases h
  · rename_i z
    split at h
    · rename_i y
      cases h
      have hd := all_dig.mp y
      have hn : cs ≠ [] := fun e => z (.inl e)
      refine ⟨numL_of cs hd hn ?_, hd, hn, by omega⟩
      by_cases q : cs.length = 1
      · exact .inl q
      · refine .inr fun e => z (.inr (.inr ⟨?_, e⟩))
        have := List.length_pos_iff.mpr hn
        omega
    · cases h
/-- a loop that leaves at the first hit -/
theorem run_testT {σ T : Type} {okb : Unit → σ → Prop} {step : Unit → σ → Stp Unit T} (r : T) (t : σ → Bool) : ∀ xs : List σ, (∀ x ∈ xs, okb () x ∧ step () x = cond (t x) (.ret r) (.go ())) → okRun okb step () xs ∧ runL step () xs = cond (xs.any t) (.ret r) (.go ())
  | [], _ => ⟨trivial, rfl⟩
  | x :: xs, h => by
    obtain ⟨h1, h2⟩ := h x List.mem_cons_self
    obtain ⟨i1, i2⟩ := run_testT r t xs fun y hy => h y (List.mem_cons_of_mem _ hy)
    refine ⟨⟨h1, ?_⟩, ?_⟩
    · rw [h2]
      cases t x with
      | true => exact trivial
      | false => exact i1
    · rw [runL, h2, List.any_cons]
      cases t x with
      | true => rfl
      | false => exact i2
end R
set_option maxHeartbeats 1000000
set_option autoImplicit false
namespace G
open PySem PySem.Spec PyProof.Rows L2 TL R
theorem okt_cell (s : List Int) (k : Int) (h : 0 ≤ k) : ok_l_cell_at s k := ⟨fun q => ⟨⟨h, of_decide_eq_true q⟩, trivial⟩, fun _ => trivial⟩
theorem sl_len (n : Nat) : n ≤ 100 → n ≤ 100000 := fun h => by omega
def cutC (c : Nat) : List Nat → Option (List Nat × List Nat)
  | [] => none
  | d :: l => if d = c then some ([], l) else (cutC c l).map fun p => (d :: p.1, p.2)
theorem cutC_none {c : Nat} : ∀ {l : List Nat}, c ∉ l → cutC c l = none
  | [], _ => rfl
  | d :: l, h => by
    unfold cutC
    rw [if_neg fun e => h (by rw [e]; exact List.mem_cons_self), cutC_none fun z => h (List.mem_cons_of_mem _ z)]
    rfl
theorem cutC_some {c : Nat} : ∀ {a b : List Nat}, c ∉ a → cutC c (a ++ c :: b) = some (a, b)
  | [], b, _ => by show cutC c (c :: b) = _; unfold cutC; rw [if_pos rfl]
  | d :: a, b, h => by
    show cutC c (d :: (a ++ c :: b)) = _
    unfold cutC
    rw [if_neg fun e => h (by rw [e]; exact List.mem_cons_self), cutC_some fun z => h (List.mem_cons_of_mem _ z)]
    rfl
def fracL (l : List Nat) : Option (Nat × Nat) := match cutC 47 l with
  | none => (numW 6 l).map fun n => (n, 1)
  | some (a, b) => match numW 6 a, numW 6 b with
    | some n, some d => if d < 2 ∨ Nat.gcd n d ≠ 1 then none else some (n, d)
    | _, _ => none
def readL (cs : List Nat) : Option Rat := if cs.head? = some 45 then (match fracL (cs.drop 1) with
    | some (n, d) => if n = 0 then none else some (Rat.divInt (0 - (n : Int)) (d : Int))
    | none => none)
  else (fracL cs).map fun p => Rat.divInt (p.1 : Int) (p.2 : Int)
/-! a word of figures -/
theorem any_sign (w : Str) : (List.map (fun (x7 : Str) => strHas (Str.ofString "0123456789") x7) (R.signs w)).all id = (tl w).all digB := by
  rw [tl_signs, List.map_map, List.all_map]
  congr 1
  funext c
  exact has_digit c
theorem bad_iff (w : Str) (n : Nat) : ((decide (w = (Str.ofString ""))) || ((decide ((n : Int) < (w.length : Int))) || ((decide ((1 : Int) < (w.length : Int))) && (decide ((strAt w (0 : Int)) = (Str.ofString "0")))))) = decide (tl w = [] ∨ n < (tl w).length ∨ (1 < (tl w).length ∧ (tl w).head? = some 48)) := by
  rw [Bool.eq_iff_iff, Bool.or_eq_true, Bool.or_eq_true, Bool.and_eq_true, decide_eq_true_iff, decide_eq_true_iff, decide_eq_true_iff, decide_eq_true_iff, decide_eq_true_iff, empty_iff, ← sl_tl]
  constructor
  · rintro (h | h | ⟨h, g⟩)
    · exact .inl h
    · exact .inr (.inl (by omega))
    · have h1 : 1 < w.length := by omega
      rw [head_at h1] at g
      exact .inr (.inr ⟨h1, g⟩)
  · rintro (h | h | ⟨h, g⟩)
    · exact .inl h
    · exact .inr (.inl (by omega))
    · have h1 : 1 < w.length := h
      refine .inr (.inr ⟨by omega, ?_⟩)
      rw [head_at h1]; exact g
theorem ix0 {w : Str} (hl : w.length ≤ 100) (h : decide ((1 : Int) < (w.length : Int)) = true) : StrIx w (0 : Int) := ⟨by omega, by have := of_decide_eq_true h; omega, by omega⟩
theorem p_whole_by (w : Str) (hl : w.length ≤ 100) : ok_whole_by w 6 ∧ m_whole_by w 6 = match numW 6 (tl w) with | some n => .ok (n : Int) | none => .error (.one "NoWish") := by
  have hb := bad_iff w 6
  rw [show ((6 : Nat) : Int) = 6 from rfl] at hb
  unfold ok_whole_by m_whole_by numW
  rw [hb, any_sign]
  by_cases c : tl w = [] ∨ 6 < (tl w).length ∨ (1 < (tl w).length ∧ (tl w).head? = some 48)
  · rw [decide_eq_true c, if_pos c]
    exact ⟨⟨fun _ => sl_len _ hl, fun _ _ => sl_len _ hl, fun _ _ => ix0 hl, fun _ => trivial, fun h => by cases h⟩, rfl⟩
  · rw [decide_eq_false c, if_neg c]
    have sz : (R.signs w).length ≤ 100000 := by rw [tl_signs, List.length_map, ← sl_tl]; omega
    cases e : (tl w).all digB with
    | true =>
      have hi := int_dig e (fun z => c (.inl z)) (by omega)
      refine ⟨⟨fun _ => sl_len _ hl, fun _ _ => sl_len _ hl, fun _ _ => ix0 hl, (fun h => by cases h), fun _ => ⟨sz, fun _ => trivial, fun _ => ⟨⟨by rw [hi]; rfl, by omega⟩, trivial⟩⟩⟩, ?_⟩
      show Except.ok (intT w) = _
      unfold intT
      rw [hi]; rfl
    | false => exact ⟨⟨fun _ => sl_len _ hl, fun _ _ => sl_len _ hl, fun _ _ => ix0 hl, (fun h => by cases h), fun _ => ⟨sz, fun _ => trivial, fun h => by cases h⟩⟩, rfl⟩
theorem run_digits (w : Str) : okRun okb_l_whole_7 st_l_whole_7 () (R.signs w) ∧ runL st_l_whole_7 () (R.signs w) = cond ((tl w).all digB) (.go ()) (.ret none) := by
  obtain ⟨h1, h2⟩ := run_testT (okb := okb_l_whole_7) (step := st_l_whole_7) (none : Option Int) (fun x : Str => !strHas (Str.ofString "0123456789") x) (R.signs w) fun x _ => ⟨⟨fun _ => trivial, fun _ => trivial⟩, rfl⟩
  refine ⟨h1, h2.trans ?_⟩
  have e : (R.signs w).any (fun x : Str => !strHas (Str.ofString "0123456789") x) = !((tl w).all digB) := by
    rw [← any_sign, List.all_map, List.any_eq_not_all_not]
    congr 1
    congr 1
    funext x
    simp
  rw [e]
  cases (tl w).all digB <;> rfl
theorem p_whole (w : Str) (hl : w.length ≤ 100) : ok_l_whole w ∧ m_l_whole w = (numW 6 (tl w)).map (fun (n : Nat) => (n : Int)) := by
  have hb := bad_iff w 6
  rw [show ((6 : Nat) : Int) = 6 from rfl] at hb
  obtain ⟨r1, r2⟩ := run_digits w
  unfold ok_l_whole m_l_whole numW
  rw [hb, r2]
  by_cases c : tl w = [] ∨ 6 < (tl w).length ∨ (1 < (tl w).length ∧ (tl w).head? = some 48)
  · rw [decide_eq_true c, if_pos c]
    exact ⟨⟨fun _ => sl_len _ hl, fun _ _ => sl_len _ hl, fun _ _ => ix0 hl, fun _ => trivial, fun h => by cases h⟩, rfl⟩
  · rw [decide_eq_false c, if_neg c]
    cases e : (tl w).all digB with
    | true =>
      have hi := int_dig e (fun z => c (.inl z)) (by omega)
      refine ⟨⟨fun _ => sl_len _ hl, fun _ _ => sl_len _ hl, fun _ _ => ix0 hl, (fun h => by cases h), fun _ => ⟨r1, fun _ _ => ⟨⟨by rw [hi]; rfl, by omega⟩, trivial⟩⟩⟩, ?_⟩
      show some (intT w) = _
      unfold intT
      rw [hi]; rfl
    | false => exact ⟨⟨fun _ => sl_len _ hl, fun _ _ => sl_len _ hl, fun _ _ => ix0 hl, (fun h => by cases h), fun _ => ⟨r1, fun _ h => (h.elim (fun z => by cases z) fun z => by cases z)⟩⟩, rfl⟩
theorem minus_one : Str.ofString "-" = ⟨#[45]⟩ := of_one tl_minus
theorem slash_one : Str.ofString "/" = ⟨#[47]⟩ := of_one tl_slash
theorem tl_cut1 (w : Str) : tl (cutSt w (some 1) none) = (tl w).drop 1 := by
  rw [tl_cut]
  exact cutL_from (tl w) 1
theorem cut_len (w : Str) (lo hi : Option Int) {n : Nat} (h : w.length ≤ n) : (cutSt w lo hi).length ≤ n := Nat.le_trans (sl_cut w lo hi) h
/-- the word without its sign -/
def plainW (w : Str) : Str := cond (decide ((tl w).head? = some 45)) (cutSt w (some 1) none) w
theorem plain_tl (w : Str) : tl (plainW w) = if (tl w).head? = some 45 then (tl w).drop 1 else tl w := by
  unfold plainW
  by_cases h : (tl w).head? = some 45
  · rw [decide_eq_true h, if_pos h]; exact tl_cut1 w
  · rw [decide_eq_false h, if_neg h]; rfl
theorem plain_is (w : Str) : decide (plainW w = w) = !decide ((tl w).head? = some 45) := by
  unfold plainW
  by_cases h : (tl w).head? = some 45
  · rw [decide_eq_true h]
    show decide (cutSt w (some 1) none = w) = false
    rw [decide_eq_false]
    intro e
    have := congrArg (fun x => (tl x).length) e
    simp only [tl_cut1, List.length_drop] at this
    cases q : tl w with
    | nil => rw [q] at h; cases h
    | cons a l => rw [q] at this; simp at this
  · rw [decide_eq_false h]
    exact decide_eq_true rfl
theorem plain_len {w : Str} {n : Nat} (h : w.length ≤ n) : (plainW w).length ≤ n := by
  unfold plainW
  cases decide ((tl w).head? = some 45)
  · exact h
  · exact cut_len w _ _ h
theorem empty_dec : decide (Str.empty = Str.ofString "") = true := decide_eq_true (by decide +kernel)
theorem slash_dec : decide ((⟨#[47]⟩ : Str) = Str.ofString "") = false := decide_eq_false (by decide +kernel)
theorem mk_len (a : List Nat) : (⟨a.toArray⟩ : Str).length = a.length := by rw [sl_tl]
theorem gcd_nat (n d : Nat) : gcdI (n : Int) (d : Int) = ((Nat.gcd n d : Nat) : Int) := rfl
theorem dec_gcd (n d : Nat) : (!decide (gcdI (n : Int) (d : Int) = 1)) = decide (Nat.gcd n d ≠ 1) := by
  rw [gcd_nat]
  by_cases h : Nat.gcd n d = 1
  · rw [decide_eq_false (fun z : Nat.gcd n d ≠ 1 => z h), decide_eq_true (show ((Nat.gcd n d : Nat) : Int) = 1 by omega)]; rfl
  · rw [decide_eq_true (show Nat.gcd n d ≠ 1 from h), decide_eq_false (show ¬ ((Nat.gcd n d : Nat) : Int) = 1 by omega)]; rfl
theorem dec_two (d : Nat) : decide ((d : Int) < 2) = decide (d < 2) := by
  by_cases h : d < 2
  · rw [decide_eq_true h, decide_eq_true (by omega)]
  · rw [decide_eq_false h, decide_eq_false (by omega)]
theorem dec_zero (n : Nat) : decide ((n : Int) = 0) = decide (n = 0) := by
  by_cases h : n = 0
  · rw [decide_eq_true h, decide_eq_true (by omega)]
  · rw [decide_eq_false h, decide_eq_false (by omega)]
theorem isq_nat {n d : Nat} (h : ¬ d < 2) (g : Nat.gcd n d = 1) : IsQ (n : Int) (d : Int) := ⟨by omega, by show Int.gcd (n : Int) (d : Int) = 1; exact g⟩
theorem isq_neg {n d : Nat} (h : ¬ d < 2) (g : Nat.gcd n d = 1) : IsQ (0 - (n : Int)) (d : Int) := isQ_neg (isq_nat h g)
theorem isq1 (t : Int) : IsQ t 1 := ⟨by decide, Int.gcd_one⟩
theorem p_read (w : Str) (hl : w.length ≤ 100) : ok_read_number w ∧ m_read_number w = match readL (tl w) with | some q => .ok q | none => .error (.one "NoWish") := by
  have hp := plain_len hl
  have hi := plain_is w
  have ht := plain_tl w
  unfold ok_read_number m_read_number readL
  dsimp only
  rw [minus_one, slash_one, starts_one]
  have e : (bif decide ((tl w).head? = some 45) then cutSt w (some 1) none else w) = plainW w := rfl
  rw [e, hi]
  have ht2 : ∀ h : (tl w).head? = some 45, tl (plainW w) = (tl w).drop 1 := fun h => by rw [ht, if_pos h]
  have ht3 : ∀ h : ¬ (tl w).head? = some 45, tl (plainW w) = tl w := fun h => by rw [ht, if_neg h]
  clear ht hi e
  generalize plainW w = p at *
  unfold fracL
  rcases slash_or 47 (tl p) with hn | ⟨a, b, e1, hn⟩
  · obtain ⟨k1, k2⟩ := p_whole_by p hp
    rw [part_no hn, k2]
    dsimp only
    rw [empty_dec]
    by_cases h : (tl w).head? = some 45
    · rw [ht2 h] at hn k2 ⊢
      rw [decide_eq_true h, if_pos h, cutC_none hn]
      dsimp only
      cases numW 6 ((tl w).drop 1) with
      | none => exact ⟨⟨fun _ => ⟨sl_len _ hl, trivial⟩, (fun z => by cases z), sl_len _ hp, k1, fun n q => by cases q⟩, rfl⟩
      | some n =>
        have d0 := dec_zero n
        refine ⟨⟨fun _ => ⟨sl_len _ hl, trivial⟩, (fun z => by cases z), sl_len _ hp, k1, fun n' q => ?_⟩, ?_⟩
        · cases q
          exact ⟨(fun z => by cases z), fun _ => ⟨(fun z => by cases z), fun _ => ⟨fun _ => trivial, fun _ => ⟨isq1 _, trivial⟩⟩⟩⟩
        · show cond (decide ((n : Int) = 0)) _ _ = _
          rw [d0]
          by_cases z : n = 0
          · subst z; rfl
          · rw [decide_eq_false z]
            show _ = (match (if n = 0 then none else some (Rat.divInt (0 - (n : Int)) ((1 : Nat) : Int)) : Option Rat) with | some q => Except.ok q | none => Except.error (Exn.one "NoWish"))
            rw [if_neg z]; rfl
    · rw [ht3 h] at hn k2 ⊢
      rw [decide_eq_false h, if_neg h, cutC_none hn]
      dsimp only
      cases numW 6 (tl w) with
      | none => exact ⟨⟨(fun z => by cases z), fun _ => trivial, sl_len _ hp, k1, fun n q => by cases q⟩, rfl⟩
      | some n =>
        refine ⟨⟨(fun z => by cases z), fun _ => trivial, sl_len _ hp, k1, fun n' q => ?_⟩, rfl⟩
        cases q
        exact ⟨(fun z => by cases z), fun _ => ⟨fun _ => ⟨isq1 _, trivial⟩, fun z => by cases z⟩⟩
  · have la : (⟨a.toArray⟩ : Str).length ≤ 100 := by rw [mk_len]; rw [sl_tl, e1, List.length_append, List.length_cons] at hp; omega
    have lb : (⟨b.toArray⟩ : Str).length ≤ 100 := by rw [mk_len]; rw [sl_tl, e1, List.length_append, List.length_cons] at hp; omega
    obtain ⟨k1, k2⟩ := p_whole_by ⟨a.toArray⟩ la
    obtain ⟨j1, j2⟩ := p_whole_by ⟨b.toArray⟩ lb
    rw [tl_mk] at k2 j2
    rw [part_app e1 hn]
    dsimp only
    rw [k2, j2, slash_dec]
    by_cases h : (tl w).head? = some 45
    · rw [ht2 h] at e1
      rw [decide_eq_true h, if_pos h, e1, cutC_some hn]
      dsimp only
      cases numW 6 a with
      | none => exact ⟨⟨fun _ => ⟨sl_len _ hl, trivial⟩, (fun z => by cases z), sl_len _ hp, k1, fun n q => by cases q⟩, rfl⟩
      | some n =>
        cases numW 6 b with
        | none =>
          refine ⟨⟨fun _ => ⟨sl_len _ hl, trivial⟩, (fun z => by cases z), sl_len _ hp, k1, fun n' q => ?_⟩, rfl⟩
          cases q
          exact ⟨fun _ => ⟨j1, fun _ z => by cases z⟩, fun z => by cases z⟩
        | some d =>
          have d0 := dec_zero n
          have d1 := dec_gcd n d
          have d2 := dec_two d
          refine ⟨⟨fun _ => ⟨sl_len _ hl, trivial⟩, (fun z => by cases z), sl_len _ hp, k1, fun n' q => ?_⟩, ?_⟩
          · cases q
            refine ⟨fun _ => ⟨j1, fun d' q => ?_⟩, fun z => by cases z⟩
            cases q
            refine ⟨fun _ => trivial, fun z => ⟨(fun z => by cases z), fun _ => ⟨fun _ => trivial, fun _ => ⟨?_, trivial⟩⟩⟩⟩
            have z : (decide ((d : Int) < 2) || !decide (gcdI (n : Int) (d : Int) = 1)) = false := z
            rw [d1, d2, Bool.or_eq_false_iff] at z
            exact isq_neg (of_decide_eq_false z.1) (by have := of_decide_eq_false z.2; omega)
          · show cond (decide ((d : Int) < 2) || !decide (gcdI (n : Int) (d : Int) = 1)) (Except.error (Exn.one "NoWish")) (cond (decide ((n : Int) = 0)) (Except.error (Exn.one "NoWish")) (Except.ok (Rat.divInt (0 - (n : Int)) (d : Int)))) = _
            rw [d0, d1, d2]
            dsimp only
            by_cases c : d < 2 ∨ Nat.gcd n d ≠ 1
            · rw [if_pos c, ← Bool.decide_or, decide_eq_true c]; rfl
            · rw [if_neg c, ← Bool.decide_or, decide_eq_false c]
              by_cases z : n = 0
              · subst z; rfl
              · rw [decide_eq_false z]
                show _ = (match (if n = 0 then none else some (Rat.divInt (0 - (n : Int)) (d : Int)) : Option Rat) with | some q => Except.ok q | none => Except.error (Exn.one "NoWish"))
                rw [if_neg z]; rfl
    · rw [ht3 h] at e1
      rw [decide_eq_false h, if_neg h, e1, cutC_some hn]
      dsimp only
      cases numW 6 a with
      | none => exact ⟨⟨(fun z => by cases z), fun _ => trivial, sl_len _ hp, k1, fun n q => by cases q⟩, rfl⟩
      | some n =>
        cases numW 6 b with
        | none =>
          refine ⟨⟨(fun z => by cases z), fun _ => trivial, sl_len _ hp, k1, fun n' q => ?_⟩, rfl⟩
          cases q
          exact ⟨fun _ => ⟨j1, fun _ z => by cases z⟩, fun z => by cases z⟩
        | some d =>
          have d1 := dec_gcd n d
          have d2 := dec_two d
          refine ⟨⟨(fun z => by cases z), fun _ => trivial, sl_len _ hp, k1, fun n' q => ?_⟩, ?_⟩
          · cases q
            refine ⟨fun _ => ⟨j1, fun d' q => ?_⟩, fun z => by cases z⟩
            cases q
            refine ⟨fun _ => trivial, fun z => ⟨fun _ => ⟨?_, trivial⟩, fun z => by cases z⟩⟩
            have z : (decide ((d : Int) < 2) || !decide (gcdI (n : Int) (d : Int) = 1)) = false := z
            rw [d1, d2, Bool.or_eq_false_iff] at z
            exact isq_nat (of_decide_eq_false z.1) (by have := of_decide_eq_false z.2; omega)
          · show cond (decide ((d : Int) < 2) || !decide (gcdI (n : Int) (d : Int) = 1)) (Except.error (Exn.one "NoWish")) (Except.ok (Rat.divInt (n : Int) (d : Int))) = _
            rw [d1, d2]
            dsimp only
            by_cases c : d < 2 ∨ Nat.gcd n d ≠ 1
            · rw [if_pos c, ← Bool.decide_or, decide_eq_true c]; rfl
            · rw [if_neg c, ← Bool.decide_or, decide_eq_false c]; rfl
theorem neg_dec (w : Str) : decide (cutSt w none (some 1) = Str.ofString "-") = decide ((tl w).head? = some 45) := by
  have e : tl (cutSt w none (some 1)) = (tl w).take 1 := by rw [tl_cut]; exact cutL_to (tl w) 1
  rw [dec_tl, tl_minus, e]
  cases tl w with
  | nil => rfl
  | cons c l =>
    show decide ([c] = [45]) = decide (some c = some 45)
    by_cases z : c = 45
    · subst z; rfl
    · rw [decide_eq_false (fun y => z (List.cons.inj y).1), decide_eq_false (fun y => z (Option.some.inj y))]
theorem p_due (w : Str) (hl : w.length ≤ 100) : ok_l_due w ∧ m_l_due w = readL (tl w) := by
  have hp := plain_len hl
  have hi := plain_is w
  have ht := plain_tl w
  unfold ok_l_due m_l_due readL m_l_shared
  dsimp only
  rw [neg_dec, slash_one]
  have e : (bif decide ((tl w).head? = some 45) then cutSt w (some 1) none else w) = plainW w := rfl
  rw [e, hi, has_one]
  have ht2 : ∀ h : (tl w).head? = some 45, tl (plainW w) = (tl w).drop 1 := fun h => by rw [ht, if_pos h]
  have ht3 : ∀ h : ¬ (tl w).head? = some 45, tl (plainW w) = tl w := fun h => by rw [ht, if_neg h]
  clear ht hi e
  generalize plainW w = p at *
  unfold fracL
  have g1 : ∀ n : Nat, (!decide (gcdI (n : Int) 1 = 1)) = false := fun n => by
    have : gcdI (n : Int) 1 = 1 := by show ((Nat.gcd n 1 : Nat) : Int) = 1; rw [Nat.gcd_one_right]; rfl
    rw [this]; rfl
  rcases slash_or 47 (tl p) with hn | ⟨a, b, e1, hn⟩
  · obtain ⟨k1, k2⟩ := p_whole p hp
    rw [decide_eq_false hn, k2]
    by_cases h : (tl w).head? = some 45
    · rw [ht2 h] at hn k2 ⊢
      rw [decide_eq_true h, if_pos h, cutC_none hn]
      dsimp only
      cases numW 6 ((tl w).drop 1) with
      | none => exact ⟨⟨sl_len _ hl, fun _ => ⟨sl_len _ hl, trivial⟩, (fun z => by cases z), (fun z => by cases z), fun _ => ⟨k1, (fun z => by cases z), fun _ => rfl, (fun z => by cases z), fun _ => trivial, fun z => by cases z⟩⟩, rfl⟩
      | some n =>
        have d0 := dec_zero n
        show (_ ∧ _ ∧ _ ∧ _) ∧ cond (false || ((!decide (gcdI (n : Int) 1 = 1)) || (decide ((n : Int) = 0) && (!!true)))) none (some (Rat.divInt (0 - (n : Int)) 1)) = _
        rw [g1, d0]
        by_cases z : n = 0
        · subst z
          refine ⟨⟨sl_len _ hl, fun _ => ⟨sl_len _ hl, trivial⟩, (fun z => by cases z), (fun z => by cases z), fun _ => ⟨k1, fun _ => rfl, fun _ => rfl, fun _ _ => rfl, fun _ => trivial, fun z => ?_⟩⟩, rfl⟩
          have z : (false || ((!decide (gcdI ((0 : Nat) : Int) 1 = 1)) || (decide (((0 : Nat) : Int) = 0) && (!!true)))) = false := z
          rw [g1] at z
          cases z
        · refine ⟨⟨sl_len _ hl, fun _ => ⟨sl_len _ hl, trivial⟩, (fun z => by cases z), (fun z => by cases z), fun _ => ⟨k1, fun _ => rfl, fun _ => rfl, fun _ _ => rfl, fun _ => trivial, fun _ => ⟨fun _ => ⟨rfl, trivial⟩, (fun z => by cases z), rfl, rfl, isq1 _, trivial⟩⟩⟩, ?_⟩
          rw [decide_eq_false z]
          show _ = (if n = 0 then none else some (Rat.divInt (0 - (n : Int)) ((1 : Nat) : Int)))
          rw [if_neg z]; rfl
    · rw [ht3 h] at hn k2 ⊢
      rw [decide_eq_false h, if_neg h, cutC_none hn]
      dsimp only
      cases numW 6 (tl w) with
      | none => exact ⟨⟨sl_len _ hl, (fun z => by cases z), fun _ => trivial, (fun z => by cases z), fun _ => ⟨k1, (fun z => by cases z), fun _ => rfl, (fun z => by cases z), fun _ => trivial, fun z => by cases z⟩⟩, rfl⟩
      | some n =>
        show (_ ∧ _ ∧ _ ∧ _) ∧ cond (false || ((!decide (gcdI (n : Int) 1 = 1)) || (decide ((n : Int) = 0) && (!!false)))) none (some (Rat.divInt (n : Int) 1)) = _
        rw [g1, show (decide ((n : Int) = 0) && (!!false)) = false from Bool.and_false _]
        exact ⟨⟨sl_len _ hl, (fun z => by cases z), fun _ => trivial, (fun z => by cases z), fun _ => ⟨k1, fun _ => rfl, fun _ => rfl, fun _ _ => rfl, fun _ => trivial, fun _ => ⟨(fun z => by cases z), fun _ => trivial, rfl, rfl, isq1 _, trivial⟩⟩⟩, rfl⟩
  · have la : (⟨a.toArray⟩ : Str).length ≤ 100 := by rw [mk_len]; rw [sl_tl, e1, List.length_append, List.length_cons] at hp; omega
    have lb : (⟨b.toArray⟩ : Str).length ≤ 100 := by rw [mk_len]; rw [sl_tl, e1, List.length_append, List.length_cons] at hp; omega
    obtain ⟨k1, k2⟩ := p_whole ⟨a.toArray⟩ la
    obtain ⟨j1, j2⟩ := p_whole ⟨b.toArray⟩ lb
    rw [tl_mk] at k2 j2
    have hm : (47 : Nat) ∈ tl p := by rw [e1]; simp
    have c1 : cutSt p none (some ((strIx p ⟨#[47]⟩ : Nat) : Int)) = ⟨a.toArray⟩ := ext_tl (by
      rw [tl_cut, cutL_to, ix_one e1 hn, e1, tl_mk, List.take_left'] <;> rfl)
    have c2 : cutSt p (some (((strIx p ⟨#[47]⟩ : Nat) : Int) + 1)) none = ⟨b.toArray⟩ := ext_tl (by
      rw [tl_cut, show (((strIx p ⟨#[47]⟩ : Nat) : Int) + 1) = ((strIx p ⟨#[47]⟩ + 1 : Nat) : Int) by omega, cutL_from, ix_one e1 hn, e1, tl_mk, show a ++ 47 :: b = (a ++ [47]) ++ b by simp, List.drop_left']
      simp)
    rw [decide_eq_true hm, c1, c2, k2, j2]
    have fin : ∀ (neg : Bool) (N : Option Nat) (D : Option Nat), (∀ n d, N = some n → D = some d → True) → True := fun _ _ _ _ => trivial
    cases nb : numW 6 b with
    | none =>
      have rr : readL (tl w) = none := by
        unfold readL fracL
        by_cases h : (tl w).head? = some 45
        · rw [ht2 h] at e1
          rw [if_pos h, e1, cutC_some hn]; dsimp only; rw [nb]
          cases numW 6 a <;> rfl
        · rw [ht3 h] at e1
          rw [if_neg h, e1, cutC_some hn]; dsimp only; rw [nb]
          cases numW 6 a <;> rfl
      unfold readL fracL at rr
      rw [rr]
      exact ⟨⟨sl_len _ hl, fun _ => ⟨sl_len _ hl, trivial⟩, fun _ => trivial, fun _ => ⟨rfl, sl_len _ hp, sl_len _ hp, j1, (fun z => by cases z), fun _ => trivial, fun z => by cases z⟩, fun z => by cases z⟩, rfl⟩
    | some d =>
      have d2 := dec_two d
      cases na : numW 6 a with
      | none =>
        have rr : readL (tl w) = none := by
          unfold readL fracL
          by_cases h : (tl w).head? = some 45
          · rw [ht2 h] at e1
            rw [if_pos h, e1, cutC_some hn]; dsimp only; rw [na]
          · rw [ht3 h] at e1
            rw [if_neg h, e1, cutC_some hn]; dsimp only; rw [na]; rfl
        unfold readL fracL at rr
        rw [rr]
        refine ⟨⟨sl_len _ hl, fun _ => ⟨sl_len _ hl, trivial⟩, fun _ => trivial, fun _ => ⟨rfl, sl_len _ hp, sl_len _ hp, j1, fun _ => rfl, fun _ => trivial, fun _ => ⟨k1, (fun z => by cases z), (fun z => by cases z), (fun z => by cases z), fun _ => trivial, fun z => by cases z⟩⟩, fun z => by cases z⟩, ?_⟩
        show cond (false || decide ((d : Int) < 2)) none none = none
        cases (false || decide ((d : Int) < 2)) <;> rfl
      | some n =>
        have d0 := dec_zero n
        have d1 := dec_gcd n d
        have ok0 : ∀ z : (false || decide ((d : Int) < 2)) = false, ∀ y : (false || ((!decide (gcdI (n : Int) (d : Int) = 1)) || (decide ((n : Int) = 0) && (!!decide ((tl w).head? = some 45))))) = false, IsQ (n : Int) (d : Int) := fun z y => by
          rw [Bool.false_or, d2] at z
          rw [Bool.false_or, Bool.or_eq_false_iff, d1] at y
          exact isq_nat (of_decide_eq_false z) (by have := of_decide_eq_false y.1; omega)
        refine ⟨⟨sl_len _ hl, fun _ => ⟨sl_len _ hl, trivial⟩, fun _ => trivial, fun _ => ⟨rfl, sl_len _ hp, sl_len _ hp, j1, fun _ => rfl, fun _ => trivial, fun z => ⟨k1, fun _ => rfl, fun _ => rfl, fun _ _ => rfl, fun _ => trivial, fun y => ⟨fun _ => ⟨rfl, trivial⟩, fun _ => trivial, ?_⟩⟩⟩, fun z => by cases z⟩, ?_⟩
        · have q := ok0 z y
          cases (!!decide ((tl w).head? = some 45)) with
          | true => exact ⟨rfl, rfl, isQ_neg q, trivial⟩
          | false => exact ⟨rfl, rfl, q, trivial⟩
        · show cond (false || decide ((d : Int) < 2)) none (cond (false || ((!decide (gcdI (n : Int) (d : Int) = 1)) || (decide ((n : Int) = 0) && (!!decide ((tl w).head? = some 45))))) none (some (Rat.divInt ((cond (!!decide ((tl w).head? = some 45)) (some (0 - (n : Int))) (some (n : Int))).getD 0) (d : Int)))) = _
          rw [d0, d1, d2, Bool.not_not]
          by_cases h : (tl w).head? = some 45
          · rw [ht2 h] at e1
            rw [decide_eq_true h, if_pos h, e1, cutC_some hn]
            dsimp only
            rw [na, nb]
            dsimp only
            by_cases c : d < 2
            · rw [decide_eq_true c, if_pos (.inl c)]; rfl
            · by_cases c' : Nat.gcd n d ≠ 1
              · rw [decide_eq_false c, decide_eq_true c', if_pos (.inr c')]; rfl
              · rw [decide_eq_false c, decide_eq_false c', if_neg (fun z => z.elim c c')]
                by_cases z : n = 0
                · subst z; rfl
                · rw [decide_eq_false z]
                  show _ = (if n = 0 then none else some (Rat.divInt (0 - (n : Int)) (d : Int)))
                  rw [if_neg z]; rfl
          · rw [ht3 h] at e1
            rw [decide_eq_false h, if_neg h, e1, cutC_some hn, Bool.and_false]
            dsimp only
            rw [na, nb]
            dsimp only
            by_cases c : d < 2
            · rw [decide_eq_true c, if_pos (.inl c)]; rfl
            · by_cases c' : Nat.gcd n d ≠ 1
              · rw [decide_eq_false c, decide_eq_true c', if_pos (.inr c')]; rfl
              · rw [decide_eq_false c, decide_eq_false c', if_neg (fun z => z.elim c c')]; rfl
/-! a fraction's text -/
theorem val_lt (cs : List Nat) (h : NumText.AllDigits cs) : NumText.digitsVal cs < 10 ^ cs.length := by
  induction e : cs.length generalizing cs with
  | zero => rw [List.length_eq_zero_iff.mp e]; decide
  | succ n ih =>
    have hn : cs ≠ [] := fun z => by rw [z] at e; cases e
    obtain ⟨l, c, rfl⟩ : ∃ l c, cs = l ++ [c] := ⟨cs.dropLast, cs.getLast hn, (List.dropLast_concat_getLast hn).symm⟩
    rw [List.length_append, List.length_singleton] at e
    have i := ih l (fun x hx => h x (List.mem_append_left _ hx)) (by omega)
    have hc := h c (by simp)
    rw [val_snoc, Nat.pow_succ]
    omega
theorem numW_lt {k n : Nat} {cs : List Nat} (h : numW k cs = some n) : n < 10 ^ k := by
  obtain ⟨h1, h2, h3, h4⟩ := numW_some h
  have := val_lt cs h2
  rw [← h1, numL_val] at this
  exact Nat.lt_of_lt_of_le this (Nat.pow_le_pow_right (by decide) (by rw [h1]; exact h4))
def restL (d : Nat) : List Nat := if d = 1 then [] else 47 :: numL d
def showL (q : Rat) : List Nat := (if q.num < 0 then [45] else []) ++ (numL q.num.natAbs ++ restL q.den)
theorem tl_showI (i : Int) : tl (showI i) = (if i < 0 then [45] else []) ++ numL i.natAbs := by
  by_cases h : i < 0
  · have := tl_showN i.natAbs (by omega)
    rw [show -((i.natAbs : Nat) : Int) = i by omega] at this
    rw [this, if_pos h]; rfl
  · have := tl_show i.natAbs
    rw [show ((i.natAbs : Nat) : Int) = i by omega] at this
    rw [this, if_neg h]; rfl
theorem tl_shown (q : Rat) : tl (m_show_number q) = showL q := by
  unfold m_show_number showL restL
  by_cases h : q.den = 1
  · rw [decide_eq_true (show ((q.den : Nat) : Int) = 1 by omega), if_pos h, List.append_nil]
    exact tl_showI _
  · rw [decide_eq_false (show ¬ ((q.den : Nat) : Int) = 1 by omega), if_neg h]
    show tl (showI q.num ++ Str.ofString "/" ++ showI ((q.den : Nat) : Int)) = _
    rw [tl_append, tl_append, tl_showI, tl_slash, tl_show, List.append_assoc, List.append_assoc]; rfl
theorem fracL_some {l : List Nat} {n d : Nat} (h : fracL l = some (n, d)) : l = numL n ++ restL d ∧ 0 < d ∧ Nat.gcd n d = 1 ∧ n < 10 ^ 6 ∧ d < 10 ^ 6 := by
  unfold fracL at h
  rcases slash_or 47 l with hn | ⟨a, b, e, hn⟩
  · rw [cutC_none hn] at h
    cases e : numW 6 l with
    | none => rw [e] at h; cases h
    | some m =>
      rw [e] at h
      cases h
      refine ⟨?_, by decide, Nat.gcd_one_right _, numW_lt e, by decide⟩
      unfold restL
      rw [if_pos rfl, List.append_nil, (numW_some e).1]
  · rw [e, cutC_some hn] at h
    dsimp only at h
    cases ea : numW 6 a with
    | none => rw [ea] at h; cases h
    | some m =>
      cases eb : numW 6 b with
      | none => rw [ea, eb] at h; cases h
      | some k =>
        rw [ea, eb] at h
        dsimp only at h
        split at h
        · cases h
        · rename_i z
          cases h
          refine ⟨?_, by omega, by omega, numW_lt ea, numW_lt eb⟩
          unfold restL
          rw [if_neg (by omega), e, (numW_some ea).1, (numW_some eb).1]
theorem numL_no {c : Nat} (h : c = 45 ∨ c = 47) (n : Nat) : c ∉ numL n := numL_free (by omega)
theorem fracL_num {n d : Nat} (hn : n < 10 ^ 6) (hd : d < 10 ^ 6) (h0 : 0 < d) (hg : Nat.gcd n d = 1) : fracL (numL n ++ restL d) = some (n, d) := by
  unfold fracL restL
  by_cases e : d = 1
  · subst e
    rw [if_pos rfl, List.append_nil, cutC_none (numL_no (.inr rfl) n)]
    dsimp only
    rw [numW_num (by decide) hn]; rfl
  · rw [if_neg e, cutC_some (numL_no (.inr rfl) n)]
    dsimp only
    rw [numW_num (by decide) hn, numW_num (by decide) hd]
    dsimp only
    rw [if_neg (by omega)]
theorem num_head (n : Nat) (r : List Nat) : (numL n ++ r).head? ≠ some 45 := fun e => by
  cases h : numL n with
  | nil => exact numL_ne n h
  | cons a l =>
    rw [h] at e
    have : a = 45 := Option.some.inj e
    exact numL_no (.inl rfl) n (by rw [h, this]; exact List.mem_cons_self)
structure Small (q : Rat) : Prop where
  n : q.num.natAbs < 10 ^ 6
  d : q.den < 10 ^ 6
theorem rat_red (q : Rat) : Nat.gcd q.num.natAbs q.den = 1 := q.reduced
theorem read_show {q : Rat} (S : Small q) : readL (showL q) = some q := by
  unfold readL showL
  by_cases h : q.num < 0
  · rw [if_pos h]
    have e1 : (([45] ++ (numL q.num.natAbs ++ restL q.den)) : List Nat).head? = some 45 := rfl
    have e2 : (([45] ++ (numL q.num.natAbs ++ restL q.den)) : List Nat).drop 1 = numL q.num.natAbs ++ restL q.den := rfl
    rw [if_pos e1, e2, fracL_num S.n S.d q.den_pos (rat_red q)]
    dsimp only
    rw [if_neg (by omega), show (0 - (q.num.natAbs : Int)) = q.num by omega, divInt_own]
  · rw [if_neg h, List.nil_append, if_neg (num_head _ _), fracL_num S.n S.d q.den_pos (rat_red q)]
    show some (Rat.divInt (q.num.natAbs : Int) (q.den : Int)) = some q
    rw [show (q.num.natAbs : Int) = q.num by omega, divInt_own]
theorem of_isq {t b : Int} (h : IsQ t b) : (Rat.divInt t b).num = t ∧ (((Rat.divInt t b).den : Nat) : Int) = b := by
  have g : gcdI t b = 1 := by unfold gcdI; rw [h.2]; rfl
  have h1 := divInt_num (t := t) h.1
  have h2 := divInt_den (t := t) h.1
  rw [g, Int.ediv_one] at h1 h2
  exact ⟨h1, h2⟩
theorem read_some {cs : List Nat} {q : Rat} (h : readL cs = some q) : showL q = cs ∧ Small q := by
  unfold readL at h
  by_cases c : cs.head? = some 45
  · rw [if_pos c] at h
    cases f : fracL (cs.drop 1) with
    | none => rw [f] at h; cases h
    | some p =>
      obtain ⟨n, d⟩ := p
      rw [f] at h
      dsimp only at h
      split at h
      · cases h
      · rename_i nz
        obtain ⟨f1, f2, f3, f4, f5⟩ := fracL_some f
        have iq : IsQ (0 - (n : Int)) (d : Int) := isQ_neg ⟨by omega, by show Int.gcd (n : Int) (d : Int) = 1; exact f3⟩
        obtain ⟨k1, k2⟩ := of_isq iq
        have hq : Rat.divInt (0 - (n : Int)) (d : Int) = q := Option.some.inj h
        rw [hq] at k1 k2
        have k3 : q.den = d := by omega
        refine ⟨?_, by omega, by omega⟩
        unfold showL
        rw [if_pos (by omega), k3, show q.num.natAbs = n by omega, ← f1]
        cases cs with
        | nil => cases c
        | cons a l => cases c; rfl
  · rw [if_neg c] at h
    cases f : fracL cs with
    | none => rw [f] at h; cases h
    | some p =>
      obtain ⟨n, d⟩ := p
      rw [f] at h
      obtain ⟨f1, f2, f3, f4, f5⟩ := fracL_some f
      have iq : IsQ (n : Int) (d : Int) := ⟨by omega, by show Int.gcd (n : Int) (d : Int) = 1; exact f3⟩
      obtain ⟨k1, k2⟩ := of_isq iq
      have hq : Rat.divInt (n : Int) (d : Int) = q := Option.some.inj h
      rw [hq] at k1 k2
      have k3 : q.den = d := by omega
      refine ⟨?_, by omega, by omega⟩
      unfold showL
      rw [if_neg (by omega), k3, show q.num.natAbs = n by omega, ← f1]; rfl
theorem pow20 : 10 ^ 6 < 2 ^ 20 := by decide
theorem Small.qb {q : Rat} (S : Small q) : QB 20 q := ⟨Nat.lt_trans S.n pow20, Nat.lt_trans S.d pow20⟩
theorem ok_show {q : Rat} {k : Nat} (h : QB k q) (h0 : 0 < k) (hk : k ≤ 1000) : ok_show_number q := by
  have s1 : Shown q.num := shown h.1 h0 (by omega)
  have s2 : Shown ((q.den : Nat) : Int) := shown h.den' h0 (by omega)
  have l1 := sl_show h0 h.1
  have l2 := sl_show h0 h.den'
  have l3 : (Str.ofString "/").length = 1 := by decide +kernel
  refine ⟨fun _ => ⟨s1, trivial⟩, fun _ => ⟨s1, ?_, s2, ?_, trivial⟩⟩
  · unfold StrRoom; omega
  · unfold StrRoom; rw [sl_app]; omega
theorem show_len {q : Rat} (S : Small q) : (m_show_number q).length ≤ 43 := by
  rw [sl_tl, tl_shown]
  unfold showL restL
  have h1 := numL_len (k := 6) (by decide) S.n
  have h2 := numL_len (k := 6) (by decide) S.d
  rw [List.length_append, List.length_append]
  by_cases a : q.num < 0 <;> by_cases b : q.den = 1 <;> simp only [if_pos, if_neg, a, b, List.length_cons, List.length_nil, if_true, if_false] <;> omega
theorem p_told (w : Str) (hl : w.length ≤ 100) : ok_l_told w ∧ m_l_told w = match readL (tl w) with | some q => .told q | none => .refused true := by
  obtain ⟨h1, h2⟩ := p_read w hl
  unfold ok_l_told m_l_told
  dsimp only
  rw [h2]
  cases readL (tl w) with
  | some q => exact ⟨⟨(fun e h => by cases h), ⟨h1, fun _ _ => trivial⟩, (fun e h => by cases h), trivial⟩, rfl⟩
  | none =>
    have e : (exnIn [("FrameError" : Str), ("NoPart" : Str), ("NoWish" : Str), ("Mixed" : Str), ("NoLine" : Str)] (.one "NoWish") && (!([[("Mixed" : Str)], [("NoLine" : Str)], [("NoPart" : Str)]].any fun s => exnIn s (.one "NoWish")))) = true := by decide
    refine ⟨⟨fun e h => ?_, ⟨h1, fun _ _ => trivial⟩, fun e h => ?_, trivial⟩, ?_⟩
    · cases h; exact ⟨by decide, by decide⟩
    · cases h; exact ⟨⟨_, rfl⟩, fun _ => ⟨_, rfl⟩, trivial⟩
    · show Tld.refused _ = _
      rw [e]
theorem alt (q : Rat) : cond (decide ((1 : Int) < ((q.den : Nat) : Int))) ((showI q.num ++ Str.ofString "/") ++ showI ((q.den : Nat) : Int)) (showI q.num) = m_show_number q := by
  unfold m_show_number
  have := q.den_pos
  by_cases h : q.den = 1
  · rw [decide_eq_false (show ¬ (1 : Int) < ((q.den : Nat) : Int) by omega), decide_eq_true (show ((q.den : Nat) : Int) = 1 by omega)]; rfl
  · rw [decide_eq_true (show (1 : Int) < ((q.den : Nat) : Int) by omega), decide_eq_false (show ¬ ((q.den : Nat) : Int) = 1 by omega)]; rfl
theorem room_show {q : Rat} {k : Nat} (h : QB k q) (h0 : 0 < k) (hk : k ≤ 1000) : StrRoom (showI q.num) (Str.ofString "/") ∧ StrRoom (showI q.num ++ Str.ofString "/") (showI ((q.den : Nat) : Int)) := by
  have l1 := sl_show h0 h.1
  have l2 := sl_show h0 h.den'
  have l3 : (Str.ofString "/").length = 1 := by decide +kernel
  unfold StrRoom
  rw [sl_app]
  omega
theorem p_far (ns : List Int) : ok_l_far ns ∧ m_l_far ns = true := by
  unfold ok_l_far m_l_far
  dsimp only
  have c3 := okt_cell ns 3 (by decide)
  have c4 := okt_cell ns 4 (by decide)
  have z1 : (m_l_cell_at ns 3 % 2000000000000000000000000000001 - 1000000000000000000000000000000).natAbs < 2 ^ 200 := Nat.lt_trans (show _ < 1000000000000000000000000000001 by omega) (by decide)
  have z2 : (1 + m_l_cell_at ns 4 % 100000000000000000000).natAbs < 2 ^ 200 := Nat.lt_trans (show _ < 100000000000000000001 by omega) (by decide)
  have hb : 0 < 1 + m_l_cell_at ns 4 % 100000000000000000000 := by omega
  generalize m_l_cell_at ns 3 % 2000000000000000000000000000001 - 1000000000000000000000000000000 = t at *
  generalize 1 + m_l_cell_at ns 4 % 100000000000000000000 = b at *
  have qb : QB 200 (Rat.divInt t b) := .divInt z1 z2 (by omega)
  have iq := isQ_low (t := t) hb
  have lw := divInt_low (t := t) hb
  have n1 := divInt_num (t := t) hb
  have n2 := divInt_den (t := t) hb
  have d1 : CDivW t (gcdI t b) := cdiv_gcd (by omega) (nb_mono z2 (by decide))
  have d2 : CDivW b (gcdI t b) := cdiv_gcd (by omega) (nb_mono z2 (by decide))
  unfold m_l_shared
  rw [lw, ← n1, ← n2, alt]
  rw [← n1, ← n2] at iq
  generalize Rat.divInt t b = q at *
  have s1 : Shown q.num := shown qb.1 (by decide) (by decide)
  have s2 : Shown ((q.den : Nat) : Int) := shown qb.den' (by decide) (by decide)
  obtain ⟨r1, r2⟩ := room_show qb (by decide) (by decide)
  exact ⟨⟨c3, c4, d1, s1, d2, fun _ => ⟨r1, d2, s2, r2, trivial⟩, fun _ => trivial, d1, d2, iq, ok_show qb (by decide) (by decide), trivial⟩, decide_eq_true rfl⟩
theorem at_len {x : Str} {i : Int} (k : Int) (h : 0 ≤ i ∧ i < k) (hk : (x.length : Int) = k) (hl : x.length ≤ 100) : StrIx x i := ⟨h.1, by omega, by omega⟩
theorem p_changed (w : Str) (c : Int) (hl : w.length ≤ 45) : ok_l_changed w c ∧ (m_l_changed w c).length ≤ 100 := by
  unfold ok_l_changed m_l_changed
  dsimp only
  generalize c / 8 % ((w.length : Int) + 1) = a
  have L : ∀ lo hi, (cutSt w lo hi).length ≤ 45 := fun lo hi => cut_len w lo hi hl
  have A1 : ∀ (s : Str) (i : Int), (strAt s i).length = 1 := fun s i => sl_at s i
  have e1 : ((Str.ofString "0123456789-/+ .").length : Int) = 15 := by decide +kernel
  have e2 : ((Str.ofString "0123456789-/").length : Int) = 12 := by decide +kernel
  have e3 : (Str.ofString "0").length = 1 := by decide +kernel
  have e4 : (Str.ofString "-").length = 1 := by decide +kernel
  have hl5 : w.length ≤ 100000 := by omega
  have i1 : StrIx (Str.ofString "0123456789-/+ .") (c / 64 % 15) := at_len 15 (by omega) e1 (by omega)
  have i2 : StrIx (Str.ofString "0123456789-/") (c / 64 % 12) := at_len 12 (by omega) e2 (by omega)
  have l1 := L none (some a)
  have l2 := L (some a) none
  have l3 := L (some (a + 1)) none
  have a1 := A1 (Str.ofString "0123456789-/+ .") (c / 64 % 15)
  have a2 := A1 (Str.ofString "0123456789-/") (c / 64 % 12)
  refine ⟨⟨hl5, by omega, fun _ => ⟨hl5, i1, ?_, hl5, ?_, trivial⟩, fun _ => ⟨fun _ => ⟨hl5, hl5, ?_, trivial⟩, fun _ => ⟨fun _ => ⟨?_, trivial⟩, fun _ => ⟨fun _ => ⟨hl5, i2, ?_, hl5, ?_, trivial⟩, fun _ => ⟨fun _ => ⟨?_, trivial⟩, fun _ => trivial⟩⟩⟩⟩⟩, ?_⟩
  all_goals try (unfold StrRoom; (try rw [sl_app]); omega)
  cases decide (c % 8 = 1)
  · cases decide (c % 8 = 2)
    · cases decide (c % 8 = 3)
      · cases decide (c % 8 = 4)
        · cases decide (c % 8 = 5)
          · show w.length ≤ 100; omega
          · show (Str.ofString "-" ++ w).length ≤ 100; rw [sl_app]; omega
        · show (_ ++ _ ++ _ : Str).length ≤ 100; rw [sl_app, sl_app]; omega
      · show (Str.ofString "0" ++ w).length ≤ 100; rw [sl_app]; omega
    · show (_ ++ _ : Str).length ≤ 100; rw [sl_app]; omega
  · show (_ ++ _ ++ _ : Str).length ≤ 100; rw [sl_app, sl_app]; omega
theorem odd_len : ∀ x ∈ ([(Str.ofString ""), (Str.ofString "-"), (Str.ofString "0"), (Str.ofString "-0"), (Str.ofString "00"), (Str.ofString "1/1"), (Str.ofString "2/4"), (Str.ofString "3/"), (Str.ofString "/3"), (Str.ofString "3//2"), (Str.ofString "1/-2"), (Str.ofString "--1"), (Str.ofString "1.5"), (Str.ofString "+1"), (Str.ofString "1_0")] ++ [(Str.ofString "1000000"), (Str.ofString "1/1000000"), (Str.ofString "0/5"), (Str.ofString "-3/2"), (Str.ofString "999999/2"), (Str.ofString "1/0"), (Str.ofString "x"), (Str.ofString "1 2"), (Str.ofString "01/2"), (Str.ofString "1/02")] : List Str), x.length ≤ 100 := by decide +kernel
theorem p_odd (c : Int) : ok_l_odd c ∧ (m_l_odd c).length ≤ 100 := by
  unfold ok_l_odd m_l_odd
  dsimp only
  have h := odd_len
  have hl : ([(Str.ofString ""), (Str.ofString "-"), (Str.ofString "0"), (Str.ofString "-0"), (Str.ofString "00"), (Str.ofString "1/1"), (Str.ofString "2/4"), (Str.ofString "3/"), (Str.ofString "/3"), (Str.ofString "3//2"), (Str.ofString "1/-2"), (Str.ofString "--1"), (Str.ofString "1.5"), (Str.ofString "+1"), (Str.ofString "1_0")] ++ [(Str.ofString "1000000"), (Str.ofString "1/1000000"), (Str.ofString "0/5"), (Str.ofString "-3/2"), (Str.ofString "999999/2"), (Str.ofString "1/0"), (Str.ofString "x"), (Str.ofString "1 2"), (Str.ofString "01/2"), (Str.ofString "1/02")] : List Str).length = 25 := rfl
  have hs : ([(Str.ofString ""), (Str.ofString "-"), (Str.ofString "0"), (Str.ofString "-0"), (Str.ofString "00"), (Str.ofString "1/1"), (Str.ofString "2/4"), (Str.ofString "3/"), (Str.ofString "/3"), (Str.ofString "3//2"), (Str.ofString "1/-2"), (Str.ofString "--1"), (Str.ofString "1.5"), (Str.ofString "+1"), (Str.ofString "1_0")] : List Str).length + ([(Str.ofString "1000000"), (Str.ofString "1/1000000"), (Str.ofString "0/5"), (Str.ofString "-3/2"), (Str.ofString "999999/2"), (Str.ofString "1/0"), (Str.ofString "x"), (Str.ofString "1 2"), (Str.ofString "01/2"), (Str.ofString "1/02")] : List Str).length ≤ 100000 := Nat.le_of_ble_eq_true rfl
  generalize ([(Str.ofString ""), (Str.ofString "-"), (Str.ofString "0"), (Str.ofString "-0"), (Str.ofString "00"), (Str.ofString "1/1"), (Str.ofString "2/4"), (Str.ofString "3/"), (Str.ofString "/3"), (Str.ofString "3//2"), (Str.ofString "1/-2"), (Str.ofString "--1"), (Str.ofString "1.5"), (Str.ofString "+1"), (Str.ofString "1_0")] ++ [(Str.ofString "1000000"), (Str.ofString "1/1000000"), (Str.ofString "0/5"), (Str.ofString "-3/2"), (Str.ofString "999999/2"), (Str.ofString "1/0"), (Str.ofString "x"), (Str.ofString "1 2"), (Str.ofString "01/2"), (Str.ofString "1/02")] : List Str) = l at *
  exact ⟨⟨hs, ⟨by omega, by omega⟩, trivial⟩, h _ (R.getD_mem (by omega))⟩
theorem kinds_t (q : Rat) : m_l_kinds q = true := rfl
theorem tail_ok (ns : List Int) (w : Str) (hl : w.length ≤ 45) :
    (ok_l_cell_at ns 2 ∧ ok_l_changed w (m_l_cell_at ns 2) ∧ ((decide ((5 : Int) < (m_l_cell_at ns 2 % 8))) = true → ok_l_odd (m_l_cell_at ns 2 / 8) ∧ True) ∧ ((decide ((5 : Int) < (m_l_cell_at ns 2 % 8))) = false → True) ∧
      ∀ w4, w4 = cond (decide ((5 : Int) < (m_l_cell_at ns 2 % 8))) (m_l_odd (m_l_cell_at ns 2 / 8)) (m_l_changed w (m_l_cell_at ns 2)) → (ok_l_due w4 ∧ ok_l_told w4 ∧ ((m_l_due w4).isNone = true → True) ∧ ((m_l_due w4).isNone = false → (m_l_due w4).isSome = true ∧ (deq (m_l_told w4) (Tld.told ((m_l_due w4).getD 0)) = true → (m_l_told w4).isTold = true) ∧ (deq (m_l_told w4) (Tld.told ((m_l_due w4).getD 0)) = true → (m_l_kinds (m_l_told w4).val = true → (m_l_due w4).isSome = true)) ∧ (deq (m_l_told w4) (Tld.told ((m_l_due w4).getD 0)) = true → (m_l_kinds (m_l_told w4).val = true → ok_show_number ((m_l_due w4).getD 0))) ∧ True)) ∧
        cond (m_l_due w4).isNone (deq (m_l_told w4) (Tld.refused true)) (deq (m_l_told w4) (Tld.told ((m_l_due w4).getD 0)) && (m_l_kinds (m_l_told w4).val && decide (m_show_number ((m_l_due w4).getD 0) = w4))) = true) := by
  obtain ⟨c1, c2⟩ := p_changed w (m_l_cell_at ns 2) hl
  obtain ⟨o1, o2⟩ := p_odd (m_l_cell_at ns 2 / 8)
  refine ⟨okt_cell ns 2 (by decide), c1, fun _ => ⟨o1, trivial⟩, fun _ => trivial, fun w4 hw => ?_⟩
  have hl4 : w4.length ≤ 100 := by
    rw [hw]
    cases decide ((5 : Int) < (m_l_cell_at ns 2 % 8))
    · exact c2
    · exact o2
  clear hw
  obtain ⟨d1, d2⟩ := p_due w4 hl4
  obtain ⟨t1, t2⟩ := p_told w4 hl4
  rw [d2, t2]
  cases hr : readL (tl w4) with
  | none => exact ⟨⟨d1, t1, fun _ => trivial, (fun h => by cases h)⟩, rfl⟩
  | some q =>
    obtain ⟨s1, s2⟩ := read_some hr
    refine ⟨⟨d1, t1, fun _ => trivial, fun _ => ⟨rfl, fun _ => rfl, fun _ _ => rfl, fun _ _ => ok_show s2.qb (by decide) (by decide), trivial⟩⟩, ?_⟩
    have e1 : deq (Tld.told q) (Tld.told q) = true := decide_eq_true rfl
    have e2 : decide (m_show_number q = w4) = true := decide_eq_true (ext_tl (by rw [tl_shown]; exact s1))
    show (deq (Tld.told q) (Tld.told q) && (m_l_kinds q && decide (m_show_number q = w4))) = true
    rw [e1, e2, kinds_t]; rfl
theorem plain_law (ns : List Int) (hns : ns.length ≤ 63) : ok_law ns ∧ m_law ns = true := by
  have cell := fun k : Int => fun h : 0 ≤ k => okt_cell ns k h
  unfold ok_law m_law
  dsimp only
  have c0 := cell 0 (by decide)
  have c1 := cell 1 (by decide)
  have ht : (cond (decide (m_l_cell_at ns 0 / 7 % 2 = 1)) ((m_l_cell_at ns 0 % 1999999 - 999999) % 41 - 20) (m_l_cell_at ns 0 % 1999999 - 999999)).natAbs ≤ 999999 := by
    cases decide (m_l_cell_at ns 0 / 7 % 2 = 1)
    · show (m_l_cell_at ns 0 % 1999999 - 999999).natAbs ≤ _; omega
    · show ((m_l_cell_at ns 0 % 1999999 - 999999) % 41 - 20).natAbs ≤ _; omega
  generalize (cond (decide (m_l_cell_at ns 0 / 7 % 2 = 1)) ((m_l_cell_at ns 0 % 1999999 - 999999) % 41 - 20) (m_l_cell_at ns 0 % 1999999 - 999999)) = t at *
  have h2 : m_l_cell_at ns 1 % 2 = 0 ∨ m_l_cell_at ns 1 % 2 = 1 := by omega
  have hm : List.getD [(12 : Int), 999999] (Int.toNat (m_l_cell_at ns 1 % 2)) 0 = 12 ∨ List.getD [(12 : Int), 999999] (Int.toNat (m_l_cell_at ns 1 % 2)) 0 = 999999 := by
    rcases h2 with e | e <;> rw [e]
    · exact .inl rfl
    · exact .inr rfl
  have hix : 0 ≤ m_l_cell_at ns 1 % 2 ∧ m_l_cell_at ns 1 % 2 < ([(12 : Int), 999999].length : Int) := ⟨by omega, by show _ < (2 : Int); omega⟩
  generalize List.getD [(12 : Int), 999999] (Int.toNat (m_l_cell_at ns 1 % 2)) 0 = m at *
  have b0 := Int.emod_nonneg (m_l_cell_at ns 1 / 2) (show m ≠ 0 by omega)
  have b1 := Int.emod_lt_of_pos (m_l_cell_at ns 1 / 2) (show 0 < m by omega)
  have hb : 0 < 1 + m_l_cell_at ns 1 / 2 % m ∧ 1 + m_l_cell_at ns 1 / 2 % m ≤ 999999 := by omega
  generalize 1 + m_l_cell_at ns 1 / 2 % m = b at *
  have z1 : t.natAbs < 2 ^ 20 := by omega
  have z2 : b.natAbs < 2 ^ 20 := by omega
  have qb : QB 20 (Rat.divInt t b) := .divInt z1 z2 (by omega)
  have iq := isQ_low (t := t) hb.1
  have lw := divInt_low (t := t) hb.1
  have n1 := divInt_num (t := t) hb.1
  have n2 := divInt_den (t := t) hb.1
  have d1 : CDivW t (gcdI t b) := cdiv_gcd (by omega) (nb_mono z2 (by decide))
  have d2 : CDivW b (gcdI t b) := cdiv_gcd (by omega) (nb_mono z2 (by decide))
  have S : Small (Rat.divInt t b) := by
    constructor
    · rw [n1]; exact Nat.lt_of_le_of_lt (Int.natAbs_ediv_le_natAbs _ _) (by omega)
    · have : ((Rat.divInt t b).den : Int).natAbs ≤ b.natAbs := by rw [n2]; exact Int.natAbs_ediv_le_natAbs _ _
      omega
  unfold m_l_shared
  rw [lw]
  generalize Rat.divInt t b = q at *
  rw [alt]
  have s1 : Shown q.num := shown qb.1 (by decide) (by decide)
  have s2 : Shown ((q.den : Nat) : Int) := shown qb.den' (by decide) (by decide)
  obtain ⟨r1, r2⟩ := room_show qb (by decide) (by decide)
  have lw2 : (m_show_number q).length ≤ 45 := Nat.le_trans (show_len S) (by decide)
  obtain ⟨t1, t2⟩ := p_told (m_show_number q) (by omega)
  rw [tl_shown, read_show S] at t2
  obtain ⟨f1, f2⟩ := p_far ns
  have e1 : deq (m_l_told (m_show_number q)) (Tld.told q) = true := by rw [t2]; exact decide_eq_true rfl
  have e2 : (!decide (m_show_number q = m_show_number q)) = false := by rw [decide_eq_true rfl]; rfl
  obtain ⟨x1, x2, x3, x4, x5⟩ := tail_ok ns (m_show_number q) lw2
  obtain ⟨y1, y2⟩ := x5 _ rfl
  rw [e1, f2, e2]
  exact ⟨⟨c0, c0, fun _ => trivial, fun _ => trivial, c1, c1, hix, by omega, d1, d2, iq, s1, fun _ => ⟨r1, s2, r2, trivial⟩, fun _ => trivial, ok_show qb (by decide) (by decide), fun _ => t1, fun _ _ => f1, fun _ => trivial, fun _ => ⟨x1, x2, x3, x4, y1⟩⟩, y2⟩
end G
set_option pp.maxSteps 400
set_option maxHeartbeats 40000000
set_option autoImplicit false
namespace G
open PySem PySem.Spec PyProof.Rows L2 R
theorem kit1 {K : PySem.W.Frag} {C D : Addr} {b : Bool} (y : PySem.W.hasDictIn K C = true) (t : PySem.W.typeIn K (.ref C) = some (.type "type")) (s0 : PySem.W.subIn K (.ref C) (.ref C) = some true) (s1 : PySem.W.subIn K (.ref D) (.ref C) = some b) : PySem.W.kitOne K (.ref D) (.ref C) = some b := by
  unfold PySem.W.kitOne
  by_cases h : D = C
  · subst h
    rw [s0] at s1
    rw [if_pos (by simp)]
    exact s1
  · rw [if_neg (by simpa using h)]
    obtain ⟨cd, hc, _⟩ := PySem.W.any_some y
    have e2 : ((PySem.W.clsIn K C).isSome && PySem.W.typeIn K (.ref C) == some (.type "type")) = true := by rw [hc, t] <;> rfl
    show (if ((PySem.W.clsIn K C).isSome && PySem.W.typeIn K (.ref C) == some (.type "type")) = true then PySem.W.subIn K (.ref D) (.ref C) else none) = some b
    rw [if_pos e2]
    exact s1
theorem all_mk {l : PySem.W.OpenLaw} {w : World} {K : PySem.W.Frag} {h : Heap} {mg : Str → Option Value} {fa f_divisor_of f_whole_by f_read_number f_show_number f_l_cell_at f_l_shared f_l_odd f_l_changed f_l_whole f_l_due f_l_told f_l_kinds f_l_far f_law C_FrameError C_Mixed C_NoLine C_NoPart C_NoWish : Addr} (X : K.In h) (G : h.Ns mainGlobals mg) (hfa : mg "law" = some (.ref fa))
    {od_0 an_0 : Option Addr} {sl_0 : Array (Option Value)} {oc_0 kV_0 dc_0 pm_0 cd_0 ct_0 : Value}
    (a_divisor_of : PySem.W.nsIn K mainGlobals "divisor_of" = some (some (.ref f_divisor_of))) (l_divisor_of : K.lookup f_divisor_of = some ⟨oc_0, od_0, .func (PySem.W.fnOf "divisor_of" "divisor_of" (defArgs s_divisor_of) (defBody s_divisor_of) (defScope s_divisor_of) .none kV_0 dc_0 pm_0 an_0 cd_0 ct_0), sl_0⟩) (c_divisor_of : PySem.W.codeIn K cd_0 "divisor_of" = true) (k_divisor_of : PySem.W.keepIn K (.ref f_divisor_of) = true)
    {od_1 an_1 : Option Addr} {sl_1 : Array (Option Value)} {oc_1 kV_1 dc_1 pm_1 cd_1 ct_1 : Value}
    (a_whole_by : PySem.W.nsIn K mainGlobals "whole_by" = some (some (.ref f_whole_by))) (l_whole_by : K.lookup f_whole_by = some ⟨oc_1, od_1, .func (PySem.W.fnOf "whole_by" "whole_by" (defArgs s_whole_by) (defBody s_whole_by) (defScope s_whole_by) .none kV_1 dc_1 pm_1 an_1 cd_1 ct_1), sl_1⟩) (c_whole_by : PySem.W.codeIn K cd_1 "whole_by" = true) (k_whole_by : PySem.W.keepIn K (.ref f_whole_by) = true)
    {od_2 an_2 : Option Addr} {sl_2 : Array (Option Value)} {oc_2 kV_2 dc_2 pm_2 cd_2 ct_2 : Value}
    (a_read_number : PySem.W.nsIn K mainGlobals "read_number" = some (some (.ref f_read_number))) (l_read_number : K.lookup f_read_number = some ⟨oc_2, od_2, .func (PySem.W.fnOf "read_number" "read_number" (defArgs s_read_number) (defBody s_read_number) (defScope s_read_number) .none kV_2 dc_2 pm_2 an_2 cd_2 ct_2), sl_2⟩) (c_read_number : PySem.W.codeIn K cd_2 "read_number" = true) (k_read_number : PySem.W.keepIn K (.ref f_read_number) = true)
    {od_3 an_3 : Option Addr} {sl_3 : Array (Option Value)} {oc_3 kV_3 dc_3 pm_3 cd_3 ct_3 : Value}
    (a_show_number : PySem.W.nsIn K mainGlobals "show_number" = some (some (.ref f_show_number))) (l_show_number : K.lookup f_show_number = some ⟨oc_3, od_3, .func (PySem.W.fnOf "show_number" "show_number" (defArgs s_show_number) (defBody s_show_number) (defScope s_show_number) .none kV_3 dc_3 pm_3 an_3 cd_3 ct_3), sl_3⟩) (c_show_number : PySem.W.codeIn K cd_3 "show_number" = true) (k_show_number : PySem.W.keepIn K (.ref f_show_number) = true)
    {od_4 an_4 : Option Addr} {sl_4 : Array (Option Value)} {oc_4 kV_4 dc_4 pm_4 cd_4 ct_4 : Value}
    (a_l_cell_at : PySem.W.nsIn K mainGlobals "_law_cell_at" = some (some (.ref f_l_cell_at))) (l_l_cell_at : K.lookup f_l_cell_at = some ⟨oc_4, od_4, .func (PySem.W.fnOf "_law_cell_at" "_law_cell_at" (defArgs s_l_cell_at) (defBody s_l_cell_at) (defScope s_l_cell_at) .none kV_4 dc_4 pm_4 an_4 cd_4 ct_4), sl_4⟩) (c_l_cell_at : PySem.W.codeIn K cd_4 "_law_cell_at" = true) (k_l_cell_at : PySem.W.keepIn K (.ref f_l_cell_at) = true)
    {od_5 an_5 : Option Addr} {sl_5 : Array (Option Value)} {oc_5 kV_5 dc_5 pm_5 cd_5 ct_5 : Value}
    (a_l_shared : PySem.W.nsIn K mainGlobals "_law_shared" = some (some (.ref f_l_shared))) (l_l_shared : K.lookup f_l_shared = some ⟨oc_5, od_5, .func (PySem.W.fnOf "_law_shared" "_law_shared" (defArgs s_l_shared) (defBody s_l_shared) (defScope s_l_shared) .none kV_5 dc_5 pm_5 an_5 cd_5 ct_5), sl_5⟩) (c_l_shared : PySem.W.codeIn K cd_5 "_law_shared" = true) (k_l_shared : PySem.W.keepIn K (.ref f_l_shared) = true)
    {od_6 an_6 : Option Addr} {sl_6 : Array (Option Value)} {oc_6 kV_6 dc_6 pm_6 cd_6 ct_6 : Value}
    (a_l_odd : PySem.W.nsIn K mainGlobals "_law_odd" = some (some (.ref f_l_odd))) (l_l_odd : K.lookup f_l_odd = some ⟨oc_6, od_6, .func (PySem.W.fnOf "_law_odd" "_law_odd" (defArgs s_l_odd) (defBody s_l_odd) (defScope s_l_odd) .none kV_6 dc_6 pm_6 an_6 cd_6 ct_6), sl_6⟩) (c_l_odd : PySem.W.codeIn K cd_6 "_law_odd" = true) (k_l_odd : PySem.W.keepIn K (.ref f_l_odd) = true)
    {od_7 an_7 : Option Addr} {sl_7 : Array (Option Value)} {oc_7 kV_7 dc_7 pm_7 cd_7 ct_7 : Value}
    (a_l_changed : PySem.W.nsIn K mainGlobals "_law_changed" = some (some (.ref f_l_changed))) (l_l_changed : K.lookup f_l_changed = some ⟨oc_7, od_7, .func (PySem.W.fnOf "_law_changed" "_law_changed" (defArgs s_l_changed) (defBody s_l_changed) (defScope s_l_changed) .none kV_7 dc_7 pm_7 an_7 cd_7 ct_7), sl_7⟩) (c_l_changed : PySem.W.codeIn K cd_7 "_law_changed" = true) (k_l_changed : PySem.W.keepIn K (.ref f_l_changed) = true)
    {od_8 an_8 : Option Addr} {sl_8 : Array (Option Value)} {oc_8 kV_8 dc_8 pm_8 cd_8 ct_8 : Value}
    (a_l_whole : PySem.W.nsIn K mainGlobals "_law_whole" = some (some (.ref f_l_whole))) (l_l_whole : K.lookup f_l_whole = some ⟨oc_8, od_8, .func (PySem.W.fnOf "_law_whole" "_law_whole" (defArgs s_l_whole) (defBody s_l_whole) (defScope s_l_whole) .none kV_8 dc_8 pm_8 an_8 cd_8 ct_8), sl_8⟩) (c_l_whole : PySem.W.codeIn K cd_8 "_law_whole" = true) (k_l_whole : PySem.W.keepIn K (.ref f_l_whole) = true)
    {od_9 an_9 : Option Addr} {sl_9 : Array (Option Value)} {oc_9 kV_9 dc_9 pm_9 cd_9 ct_9 : Value}
    (a_l_due : PySem.W.nsIn K mainGlobals "_law_due" = some (some (.ref f_l_due))) (l_l_due : K.lookup f_l_due = some ⟨oc_9, od_9, .func (PySem.W.fnOf "_law_due" "_law_due" (defArgs s_l_due) (defBody s_l_due) (defScope s_l_due) .none kV_9 dc_9 pm_9 an_9 cd_9 ct_9), sl_9⟩) (c_l_due : PySem.W.codeIn K cd_9 "_law_due" = true) (k_l_due : PySem.W.keepIn K (.ref f_l_due) = true)
    {od_10 an_10 : Option Addr} {sl_10 : Array (Option Value)} {oc_10 kV_10 dc_10 pm_10 cd_10 ct_10 : Value}
    (a_l_told : PySem.W.nsIn K mainGlobals "_law_told" = some (some (.ref f_l_told))) (l_l_told : K.lookup f_l_told = some ⟨oc_10, od_10, .func (PySem.W.fnOf "_law_told" "_law_told" (defArgs s_l_told) (defBody s_l_told) (defScope s_l_told) .none kV_10 dc_10 pm_10 an_10 cd_10 ct_10), sl_10⟩) (c_l_told : PySem.W.codeIn K cd_10 "_law_told" = true) (k_l_told : PySem.W.keepIn K (.ref f_l_told) = true)
    {od_11 an_11 : Option Addr} {sl_11 : Array (Option Value)} {oc_11 kV_11 dc_11 pm_11 cd_11 ct_11 : Value}
    (a_l_kinds : PySem.W.nsIn K mainGlobals "_law_kinds" = some (some (.ref f_l_kinds))) (l_l_kinds : K.lookup f_l_kinds = some ⟨oc_11, od_11, .func (PySem.W.fnOf "_law_kinds" "_law_kinds" (defArgs s_l_kinds) (defBody s_l_kinds) (defScope s_l_kinds) .none kV_11 dc_11 pm_11 an_11 cd_11 ct_11), sl_11⟩) (c_l_kinds : PySem.W.codeIn K cd_11 "_law_kinds" = true) (k_l_kinds : PySem.W.keepIn K (.ref f_l_kinds) = true)
    {od_12 an_12 : Option Addr} {sl_12 : Array (Option Value)} {oc_12 kV_12 dc_12 pm_12 cd_12 ct_12 : Value}
    (a_l_far : PySem.W.nsIn K mainGlobals "_law_far" = some (some (.ref f_l_far))) (l_l_far : K.lookup f_l_far = some ⟨oc_12, od_12, .func (PySem.W.fnOf "_law_far" "_law_far" (defArgs s_l_far) (defBody s_l_far) (defScope s_l_far) .none kV_12 dc_12 pm_12 an_12 cd_12 ct_12), sl_12⟩) (c_l_far : PySem.W.codeIn K cd_12 "_law_far" = true) (k_l_far : PySem.W.keepIn K (.ref f_l_far) = true)
    {od_13 an_13 : Option Addr} {sl_13 : Array (Option Value)} {oc_13 kV_13 dc_13 pm_13 cd_13 ct_13 : Value}
    (a_law : PySem.W.nsIn K mainGlobals "law" = some (some (.ref f_law))) (l_law : K.lookup f_law = some ⟨oc_13, od_13, .func (PySem.W.fnOf "law" "law" (defArgs s_law) (defBody s_law) (defScope s_law) .none kV_13 dc_13 pm_13 an_13 cd_13 ct_13), sl_13⟩) (c_law : PySem.W.codeIn K cd_13 "law" = true) (k_law : PySem.W.keepIn K (.ref f_law) = true)
    (z_abs : PySem.W.nsIn K mainGlobals "abs" = some none)
    (z_all : PySem.W.nsIn K mainGlobals "all" = some none)
    (z_bool : PySem.W.nsIn K mainGlobals "bool" = some none)
    (z_int : PySem.W.nsIn K mainGlobals "int" = some none)
    (z_isinstance : PySem.W.nsIn K mainGlobals "isinstance" = some none)
    (z_len : PySem.W.nsIn K mainGlobals "len" = some none)
    (z_str : PySem.W.nsIn K mainGlobals "str" = some none)
    (z_tuple : PySem.W.nsIn K mainGlobals "tuple" = some none)
    {t0_FIGURES : Tok}
    (g1_FIGURES : PySem.W.nsIn K mainGlobals "FIGURES" = some (some (.str (Str.ofString "0123456789") t0_FIGURES)))
    {t0_MOST_FIGURES : Tok}
    (g1_MOST_FIGURES : PySem.W.nsIn K mainGlobals "MOST_FIGURES" = some (some (.int 6 t0_MOST_FIGURES)))
    (e_FrameError : PySem.W.nsIn K mainGlobals "FrameError" = some (some (.ref C_FrameError)))
    (e_Mixed : PySem.W.nsIn K mainGlobals "Mixed" = some (some (.ref C_Mixed)))
    (e_NoLine : PySem.W.nsIn K mainGlobals "NoLine" = some (some (.ref C_NoLine)))
    (e_NoPart : PySem.W.nsIn K mainGlobals "NoPart" = some (some (.ref C_NoPart)))
    (e_NoWish : PySem.W.nsIn K mainGlobals "NoWish" = some (some (.ref C_NoWish)))
    (x1_NoWish : PySem.W.excIn K C_NoWish [.type "ValueError", .type "Exception", .type "BaseException", .type "object"] "ValueError.__new__" = true) (x2_NoWish : PySem.W.keepIn K (.ref C_NoWish) = true)
    (x3_FrameError : PySem.W.subIn K (.ref C_FrameError) (.type "BaseException") = some true) (x4_FrameError : PySem.W.typeIn K (.ref C_FrameError) = some (.type "type"))
    (x3_Mixed : PySem.W.subIn K (.ref C_Mixed) (.type "BaseException") = some true) (x4_Mixed : PySem.W.typeIn K (.ref C_Mixed) = some (.type "type"))
    (x3_NoLine : PySem.W.subIn K (.ref C_NoLine) (.type "BaseException") = some true) (x4_NoLine : PySem.W.typeIn K (.ref C_NoLine) = some (.type "type"))
    (x3_NoPart : PySem.W.subIn K (.ref C_NoPart) (.type "BaseException") = some true) (x4_NoPart : PySem.W.typeIn K (.ref C_NoPart) = some (.type "type"))
    (x3_NoWish : PySem.W.subIn K (.ref C_NoWish) (.type "BaseException") = some true) (x4_NoWish : PySem.W.typeIn K (.ref C_NoWish) = some (.type "type"))
    (y_FrameError : PySem.W.hasDictIn K C_FrameError = true)
    (y_FrameError_FrameError : PySem.W.subIn K (.ref C_FrameError) (.ref C_FrameError) = some true)
    (y_FrameError_NoPart : PySem.W.subIn K (.ref C_NoPart) (.ref C_FrameError) = some true)
    (y_FrameError_NoWish : PySem.W.subIn K (.ref C_NoWish) (.ref C_FrameError) = some true)
    (y_FrameError_Mixed : PySem.W.subIn K (.ref C_Mixed) (.ref C_FrameError) = some true)
    (y_FrameError_NoLine : PySem.W.subIn K (.ref C_NoLine) (.ref C_FrameError) = some true)
    (y_Mixed : PySem.W.hasDictIn K C_Mixed = true)
    (y_Mixed_FrameError : PySem.W.subIn K (.ref C_FrameError) (.ref C_Mixed) = some false)
    (y_Mixed_NoPart : PySem.W.subIn K (.ref C_NoPart) (.ref C_Mixed) = some false)
    (y_Mixed_NoWish : PySem.W.subIn K (.ref C_NoWish) (.ref C_Mixed) = some false)
    (y_Mixed_Mixed : PySem.W.subIn K (.ref C_Mixed) (.ref C_Mixed) = some true)
    (y_Mixed_NoLine : PySem.W.subIn K (.ref C_NoLine) (.ref C_Mixed) = some false)
    (y_NoLine : PySem.W.hasDictIn K C_NoLine = true)
    (y_NoLine_FrameError : PySem.W.subIn K (.ref C_FrameError) (.ref C_NoLine) = some false)
    (y_NoLine_NoPart : PySem.W.subIn K (.ref C_NoPart) (.ref C_NoLine) = some false)
    (y_NoLine_NoWish : PySem.W.subIn K (.ref C_NoWish) (.ref C_NoLine) = some false)
    (y_NoLine_Mixed : PySem.W.subIn K (.ref C_Mixed) (.ref C_NoLine) = some false)
    (y_NoLine_NoLine : PySem.W.subIn K (.ref C_NoLine) (.ref C_NoLine) = some true)
    (y_NoPart : PySem.W.hasDictIn K C_NoPart = true)
    (y_NoPart_FrameError : PySem.W.subIn K (.ref C_FrameError) (.ref C_NoPart) = some false)
    (y_NoPart_NoPart : PySem.W.subIn K (.ref C_NoPart) (.ref C_NoPart) = some true)
    (y_NoPart_NoWish : PySem.W.subIn K (.ref C_NoWish) (.ref C_NoPart) = some false)
    (y_NoPart_Mixed : PySem.W.subIn K (.ref C_Mixed) (.ref C_NoPart) = some false)
    (y_NoPart_NoLine : PySem.W.subIn K (.ref C_NoLine) (.ref C_NoPart) = some false)
    (y_NoWish : PySem.W.hasDictIn K C_NoWish = true)
    (y_NoWish_FrameError : PySem.W.subIn K (.ref C_FrameError) (.ref C_NoWish) = some false)
    (y_NoWish_NoPart : PySem.W.subIn K (.ref C_NoPart) (.ref C_NoWish) = some false)
    (y_NoWish_NoWish : PySem.W.subIn K (.ref C_NoWish) (.ref C_NoWish) = some true)
    (y_NoWish_Mixed : PySem.W.subIn K (.ref C_Mixed) (.ref C_NoWish) = some false)
    (y_NoWish_NoLine : PySem.W.subIn K (.ref C_NoLine) (.ref C_NoWish) = some false)
    (qn_ : PySem.W.specialIn K (.builtin "object.__class__") "__get__" = some (some (.builtin "getset_descriptor.__get__"))) (qt_ : PySem.W.takesIn K (.builtin "object.__class__") = some true)
    (q1_FrameError : PySem.W.findIn K (.ref C_FrameError) "__getattribute__" = some (some (.builtin "BaseException.__getattribute__"))) (q2_FrameError : PySem.W.findIn K (.ref C_FrameError) "__getattr__" = some none) (q3_FrameError : PySem.W.subIn K (.ref C_FrameError) (.type "BaseException") = some true) (q4_FrameError : PySem.W.hasDictIn K C_FrameError = true) (q5_FrameError : PySem.W.findIn K (.ref C_FrameError) "__class__" = some (some (.builtin "object.__class__"))) (q6_FrameError : PySem.W.mroIn K C_FrameError (.type "object") = some true)
    (q1_NoPart : PySem.W.findIn K (.ref C_NoPart) "__getattribute__" = some (some (.builtin "BaseException.__getattribute__"))) (q2_NoPart : PySem.W.findIn K (.ref C_NoPart) "__getattr__" = some none) (q3_NoPart : PySem.W.subIn K (.ref C_NoPart) (.type "BaseException") = some true) (q4_NoPart : PySem.W.hasDictIn K C_NoPart = true) (q5_NoPart : PySem.W.findIn K (.ref C_NoPart) "__class__" = some (some (.builtin "object.__class__"))) (q6_NoPart : PySem.W.mroIn K C_NoPart (.type "object") = some true)
    (q1_NoWish : PySem.W.findIn K (.ref C_NoWish) "__getattribute__" = some (some (.builtin "BaseException.__getattribute__"))) (q2_NoWish : PySem.W.findIn K (.ref C_NoWish) "__getattr__" = some none) (q3_NoWish : PySem.W.subIn K (.ref C_NoWish) (.type "BaseException") = some true) (q4_NoWish : PySem.W.hasDictIn K C_NoWish = true) (q5_NoWish : PySem.W.findIn K (.ref C_NoWish) "__class__" = some (some (.builtin "object.__class__"))) (q6_NoWish : PySem.W.mroIn K C_NoWish (.type "object") = some true)
    (q1_Mixed : PySem.W.findIn K (.ref C_Mixed) "__getattribute__" = some (some (.builtin "BaseException.__getattribute__"))) (q2_Mixed : PySem.W.findIn K (.ref C_Mixed) "__getattr__" = some none) (q3_Mixed : PySem.W.subIn K (.ref C_Mixed) (.type "BaseException") = some true) (q4_Mixed : PySem.W.hasDictIn K C_Mixed = true) (q5_Mixed : PySem.W.findIn K (.ref C_Mixed) "__class__" = some (some (.builtin "object.__class__"))) (q6_Mixed : PySem.W.mroIn K C_Mixed (.type "object") = some true)
    (q1_NoLine : PySem.W.findIn K (.ref C_NoLine) "__getattribute__" = some (some (.builtin "BaseException.__getattribute__"))) (q2_NoLine : PySem.W.findIn K (.ref C_NoLine) "__getattr__" = some none) (q3_NoLine : PySem.W.subIn K (.ref C_NoLine) (.type "BaseException") = some true) (q4_NoLine : PySem.W.hasDictIn K C_NoLine = true) (q5_NoLine : PySem.W.findIn K (.ref C_NoLine) "__class__" = some (some (.builtin "object.__class__"))) (q6_NoLine : PySem.W.mroIn K C_NoLine (.type "object") = some true)
    : ∃ fd : FuncData, (∀ (s : Shared) (v : Value), BindsTo s fd ⟨[v], []⟩ [("_law_script", v)]) ∧ ∀ base : Heap, K.In base → base.Ns mainGlobals mg → FnOk l.prog w K mg base (L2.CX l.prog w) 4 fa fd ["_law_script"] (spLaw K) := by
  have e := hfa.symm.trans (PySem.W.mg_of X G a_law)
  cases e
  have T : Top K mg := {
    here := trivial
    b_abs := PySem.W.mg_none_of X G z_abs
    b_all := PySem.W.mg_none_of X G z_all
    b_bool := PySem.W.mg_none_of X G z_bool
    b_int := PySem.W.mg_none_of X G z_int
    b_isinstance := PySem.W.mg_none_of X G z_isinstance
    b_len := PySem.W.mg_none_of X G z_len
    b_str := PySem.W.mg_none_of X G z_str
    b_tuple := PySem.W.mg_none_of X G z_tuple
    x_NoWish := ⟨C_NoWish, PySem.W.mg_of X G e_NoWish, x1_NoWish, x2_NoWish, x3_NoWish, x4_NoWish⟩
    g_FIGURES := gc_str (PySem.W.mg_of X G g1_FIGURES)
    g_MOST_FIGURES := gc_int (PySem.W.mg_of X G g1_MOST_FIGURES)
    c_NoWish := catc_mk (PySem.W.mg_of X G e_NoWish) x3_NoWish y_NoWish x4_NoWish (by
      intro n hn
      simp only [List.mem_cons, List.not_mem_nil, or_false] at hn
      rcases hn with rfl | rfl | rfl | rfl | rfl
      · exact ⟨C_FrameError, PySem.W.mg_of X G e_FrameError, y_NoWish_FrameError⟩
      · exact ⟨C_NoPart, PySem.W.mg_of X G e_NoPart, y_NoWish_NoPart⟩
      · exact ⟨C_NoWish, PySem.W.mg_of X G e_NoWish, y_NoWish_NoWish⟩
      · exact ⟨C_Mixed, PySem.W.mg_of X G e_Mixed, y_NoWish_Mixed⟩
      · exact ⟨C_NoLine, PySem.W.mg_of X G e_NoLine, y_NoWish_NoLine⟩)
    i_FrameError := ⟨C_FrameError, PySem.W.mg_of X G e_FrameError, by
      intro n hn
      simp only [List.mem_cons, List.not_mem_nil, or_false] at hn
      rcases hn with rfl | rfl | rfl | rfl | rfl
      · exact ⟨C_FrameError, PySem.W.mg_of X G e_FrameError, ⟨q1_FrameError, q2_FrameError, q3_FrameError, q4_FrameError, q5_FrameError, qn_, qt_, q6_FrameError⟩, kit1 y_FrameError x4_FrameError y_FrameError_FrameError y_FrameError_FrameError⟩
      · exact ⟨C_NoPart, PySem.W.mg_of X G e_NoPart, ⟨q1_NoPart, q2_NoPart, q3_NoPart, q4_NoPart, q5_NoPart, qn_, qt_, q6_NoPart⟩, kit1 y_FrameError x4_FrameError y_FrameError_FrameError y_FrameError_NoPart⟩
      · exact ⟨C_NoWish, PySem.W.mg_of X G e_NoWish, ⟨q1_NoWish, q2_NoWish, q3_NoWish, q4_NoWish, q5_NoWish, qn_, qt_, q6_NoWish⟩, kit1 y_FrameError x4_FrameError y_FrameError_FrameError y_FrameError_NoWish⟩
      · exact ⟨C_Mixed, PySem.W.mg_of X G e_Mixed, ⟨q1_Mixed, q2_Mixed, q3_Mixed, q4_Mixed, q5_Mixed, qn_, qt_, q6_Mixed⟩, kit1 y_FrameError x4_FrameError y_FrameError_FrameError y_FrameError_Mixed⟩
      · exact ⟨C_NoLine, PySem.W.mg_of X G e_NoLine, ⟨q1_NoLine, q2_NoLine, q3_NoLine, q4_NoLine, q5_NoLine, qn_, qt_, q6_NoLine⟩, kit1 y_FrameError x4_FrameError y_FrameError_FrameError y_FrameError_NoLine⟩⟩
    i_Mixed := ⟨C_Mixed, PySem.W.mg_of X G e_Mixed, by
      intro n hn
      simp only [List.mem_cons, List.not_mem_nil, or_false] at hn
      rcases hn with rfl | rfl | rfl | rfl | rfl
      · exact ⟨C_FrameError, PySem.W.mg_of X G e_FrameError, ⟨q1_FrameError, q2_FrameError, q3_FrameError, q4_FrameError, q5_FrameError, qn_, qt_, q6_FrameError⟩, kit1 y_Mixed x4_Mixed y_Mixed_Mixed y_Mixed_FrameError⟩
      · exact ⟨C_NoPart, PySem.W.mg_of X G e_NoPart, ⟨q1_NoPart, q2_NoPart, q3_NoPart, q4_NoPart, q5_NoPart, qn_, qt_, q6_NoPart⟩, kit1 y_Mixed x4_Mixed y_Mixed_Mixed y_Mixed_NoPart⟩
      · exact ⟨C_NoWish, PySem.W.mg_of X G e_NoWish, ⟨q1_NoWish, q2_NoWish, q3_NoWish, q4_NoWish, q5_NoWish, qn_, qt_, q6_NoWish⟩, kit1 y_Mixed x4_Mixed y_Mixed_Mixed y_Mixed_NoWish⟩
      · exact ⟨C_Mixed, PySem.W.mg_of X G e_Mixed, ⟨q1_Mixed, q2_Mixed, q3_Mixed, q4_Mixed, q5_Mixed, qn_, qt_, q6_Mixed⟩, kit1 y_Mixed x4_Mixed y_Mixed_Mixed y_Mixed_Mixed⟩
      · exact ⟨C_NoLine, PySem.W.mg_of X G e_NoLine, ⟨q1_NoLine, q2_NoLine, q3_NoLine, q4_NoLine, q5_NoLine, qn_, qt_, q6_NoLine⟩, kit1 y_Mixed x4_Mixed y_Mixed_Mixed y_Mixed_NoLine⟩⟩
    i_NoLine := ⟨C_NoLine, PySem.W.mg_of X G e_NoLine, by
      intro n hn
      simp only [List.mem_cons, List.not_mem_nil, or_false] at hn
      rcases hn with rfl | rfl | rfl | rfl | rfl
      · exact ⟨C_FrameError, PySem.W.mg_of X G e_FrameError, ⟨q1_FrameError, q2_FrameError, q3_FrameError, q4_FrameError, q5_FrameError, qn_, qt_, q6_FrameError⟩, kit1 y_NoLine x4_NoLine y_NoLine_NoLine y_NoLine_FrameError⟩
      · exact ⟨C_NoPart, PySem.W.mg_of X G e_NoPart, ⟨q1_NoPart, q2_NoPart, q3_NoPart, q4_NoPart, q5_NoPart, qn_, qt_, q6_NoPart⟩, kit1 y_NoLine x4_NoLine y_NoLine_NoLine y_NoLine_NoPart⟩
      · exact ⟨C_NoWish, PySem.W.mg_of X G e_NoWish, ⟨q1_NoWish, q2_NoWish, q3_NoWish, q4_NoWish, q5_NoWish, qn_, qt_, q6_NoWish⟩, kit1 y_NoLine x4_NoLine y_NoLine_NoLine y_NoLine_NoWish⟩
      · exact ⟨C_Mixed, PySem.W.mg_of X G e_Mixed, ⟨q1_Mixed, q2_Mixed, q3_Mixed, q4_Mixed, q5_Mixed, qn_, qt_, q6_Mixed⟩, kit1 y_NoLine x4_NoLine y_NoLine_NoLine y_NoLine_Mixed⟩
      · exact ⟨C_NoLine, PySem.W.mg_of X G e_NoLine, ⟨q1_NoLine, q2_NoLine, q3_NoLine, q4_NoLine, q5_NoLine, qn_, qt_, q6_NoLine⟩, kit1 y_NoLine x4_NoLine y_NoLine_NoLine y_NoLine_NoLine⟩⟩
    i_NoPart := ⟨C_NoPart, PySem.W.mg_of X G e_NoPart, by
      intro n hn
      simp only [List.mem_cons, List.not_mem_nil, or_false] at hn
      rcases hn with rfl | rfl | rfl | rfl | rfl
      · exact ⟨C_FrameError, PySem.W.mg_of X G e_FrameError, ⟨q1_FrameError, q2_FrameError, q3_FrameError, q4_FrameError, q5_FrameError, qn_, qt_, q6_FrameError⟩, kit1 y_NoPart x4_NoPart y_NoPart_NoPart y_NoPart_FrameError⟩
      · exact ⟨C_NoPart, PySem.W.mg_of X G e_NoPart, ⟨q1_NoPart, q2_NoPart, q3_NoPart, q4_NoPart, q5_NoPart, qn_, qt_, q6_NoPart⟩, kit1 y_NoPart x4_NoPart y_NoPart_NoPart y_NoPart_NoPart⟩
      · exact ⟨C_NoWish, PySem.W.mg_of X G e_NoWish, ⟨q1_NoWish, q2_NoWish, q3_NoWish, q4_NoWish, q5_NoWish, qn_, qt_, q6_NoWish⟩, kit1 y_NoPart x4_NoPart y_NoPart_NoPart y_NoPart_NoWish⟩
      · exact ⟨C_Mixed, PySem.W.mg_of X G e_Mixed, ⟨q1_Mixed, q2_Mixed, q3_Mixed, q4_Mixed, q5_Mixed, qn_, qt_, q6_Mixed⟩, kit1 y_NoPart x4_NoPart y_NoPart_NoPart y_NoPart_Mixed⟩
      · exact ⟨C_NoLine, PySem.W.mg_of X G e_NoLine, ⟨q1_NoLine, q2_NoLine, q3_NoLine, q4_NoLine, q5_NoLine, qn_, qt_, q6_NoLine⟩, kit1 y_NoPart x4_NoPart y_NoPart_NoPart y_NoPart_NoLine⟩⟩
  }
  have F_divisor_of := fun_mk (st := s_divisor_of) l_divisor_of c_divisor_of k_divisor_of
  have b_divisor_of := F_divisor_of.binds (ps := ["one", "other"]) fun _ _ _ _ _ _ us hl => match us, hl with | [_, _], _ => rfl
  have F_whole_by := fun_mk (st := s_whole_by) l_whole_by c_whole_by k_whole_by
  have b_whole_by := F_whole_by.binds (ps := ["word", "most"]) fun _ _ _ _ _ _ us hl => match us, hl with | [_, _], _ => rfl
  have F_read_number := fun_mk (st := s_read_number) l_read_number c_read_number k_read_number
  have b_read_number := F_read_number.binds (ps := ["word"]) fun _ _ _ _ _ _ us hl => match us, hl with | [_], _ => rfl
  have F_show_number := fun_mk (st := s_show_number) l_show_number c_show_number k_show_number
  have b_show_number := F_show_number.binds (ps := ["number"]) fun _ _ _ _ _ _ us hl => match us, hl with | [_], _ => rfl
  have F_l_cell_at := fun_mk (st := s_l_cell_at) l_l_cell_at c_l_cell_at k_l_cell_at
  have b_l_cell_at := F_l_cell_at.binds (ps := ["_law_script", "_law_k"]) fun _ _ _ _ _ _ us hl => match us, hl with | [_, _], _ => rfl
  have F_l_shared := fun_mk (st := s_l_shared) l_l_shared c_l_shared k_l_shared
  have b_l_shared := F_l_shared.binds (ps := ["_law_one", "_law_other"]) fun _ _ _ _ _ _ us hl => match us, hl with | [_, _], _ => rfl
  have F_l_odd := fun_mk (st := s_l_odd) l_l_odd c_l_odd k_l_odd
  have b_l_odd := F_l_odd.binds (ps := ["_law_cell"]) fun _ _ _ _ _ _ us hl => match us, hl with | [_], _ => rfl
  have F_l_changed := fun_mk (st := s_l_changed) l_l_changed c_l_changed k_l_changed
  have b_l_changed := F_l_changed.binds (ps := ["_law_word", "_law_cell"]) fun _ _ _ _ _ _ us hl => match us, hl with | [_, _], _ => rfl
  have F_l_whole := fun_mk (st := s_l_whole) l_l_whole c_l_whole k_l_whole
  have b_l_whole := F_l_whole.binds (ps := ["_law_word"]) fun _ _ _ _ _ _ us hl => match us, hl with | [_], _ => rfl
  have F_l_due := fun_mk (st := s_l_due) l_l_due c_l_due k_l_due
  have b_l_due := F_l_due.binds (ps := ["_law_word"]) fun _ _ _ _ _ _ us hl => match us, hl with | [_], _ => rfl
  have F_l_told := fun_mk (st := s_l_told) l_l_told c_l_told k_l_told
  have b_l_told := F_l_told.binds (ps := ["_law_word"]) fun _ _ _ _ _ _ us hl => match us, hl with | [_], _ => rfl
  have F_l_kinds := fun_mk (st := s_l_kinds) l_l_kinds c_l_kinds k_l_kinds
  have b_l_kinds := F_l_kinds.binds (ps := ["_law_one"]) fun _ _ _ _ _ _ us hl => match us, hl with | [_], _ => rfl
  have F_l_far := fun_mk (st := s_l_far) l_l_far c_l_far k_l_far
  have b_l_far := F_l_far.binds (ps := ["_law_script"]) fun _ _ _ _ _ _ us hl => match us, hl with | [_], _ => rfl
  have F_law := fun_mk (st := s_law) l_law c_law k_law
  refine ⟨PySem.W.fnOf "law" "law" (defArgs s_law) (defBody s_law) (defScope s_law) .none kV_13 dc_13 pm_13 an_13 cd_13 ct_13, fun s v => .of_eq rfl, fun base _ _ => ?_⟩
  have d_divisor_of : DefOk l.prog w K mg base "divisor_of" 1 ["one", "other"] [] (spP K mg 2 ph_divisor_of) := ⟨_, _, [], w_divisor_of F_divisor_of T, PySem.W.mg_of X G a_divisor_of, k_divisor_of, b_divisor_of, .nil⟩
  have d_whole_by : DefOk l.prog w K mg base "whole_by" 1 ["word", "most"] [] (spP K mg 2 ph_whole_by) := ⟨_, _, [], w_whole_by F_whole_by T, PySem.W.mg_of X G a_whole_by, k_whole_by, b_whole_by, .nil⟩
  have d_show_number : DefOk l.prog w K mg base "show_number" 1 ["number"] [] (spP K mg 1 ph_show_number) := ⟨_, _, [], w_show_number F_show_number T, PySem.W.mg_of X G a_show_number, k_show_number, b_show_number, .nil⟩
  have d_l_cell_at : DefOk l.prog w K mg base "_law_cell_at" 1 ["_law_script", "_law_k"] [] (spP K mg 2 ph_l_cell_at) := ⟨_, _, [], w_l_cell_at F_l_cell_at T, PySem.W.mg_of X G a_l_cell_at, k_l_cell_at, b_l_cell_at, .nil⟩
  have d_l_shared : DefOk l.prog w K mg base "_law_shared" 1 ["_law_one", "_law_other"] [] (spP K mg 2 ph_l_shared) := ⟨_, _, [], w_l_shared F_l_shared T, PySem.W.mg_of X G a_l_shared, k_l_shared, b_l_shared, .nil⟩
  have d_l_odd : DefOk l.prog w K mg base "_law_odd" 1 ["_law_cell"] [] (spP K mg 1 ph_l_odd) := ⟨_, _, [], w_l_odd F_l_odd T, PySem.W.mg_of X G a_l_odd, k_l_odd, b_l_odd, .nil⟩
  have d_l_changed : DefOk l.prog w K mg base "_law_changed" 1 ["_law_word", "_law_cell"] [] (spP K mg 2 ph_l_changed) := ⟨_, _, [], w_l_changed F_l_changed T, PySem.W.mg_of X G a_l_changed, k_l_changed, b_l_changed, .nil⟩
  have d_l_whole : DefOk l.prog w K mg base "_law_whole" 1 ["_law_word"] [] (spP K mg 1 ph_l_whole) := ⟨_, _, [], w_l_whole F_l_whole T, PySem.W.mg_of X G a_l_whole, k_l_whole, b_l_whole, .nil⟩
  have d_l_kinds : DefOk l.prog w K mg base "_law_kinds" 1 ["_law_one"] [] (spP K mg 1 ph_l_kinds) := ⟨_, _, [], w_l_kinds F_l_kinds T, PySem.W.mg_of X G a_l_kinds, k_l_kinds, b_l_kinds, .nil⟩
  have d_read_number : DefOk l.prog w K mg base "read_number" 2 ["word"] [] (spP K mg 1 ph_read_number) := ⟨_, _, [], w_read_number F_read_number T d_whole_by d_divisor_of, PySem.W.mg_of X G a_read_number, k_read_number, b_read_number, .nil⟩
  have d_l_due : DefOk l.prog w K mg base "_law_due" 2 ["_law_word"] [] (spP K mg 1 ph_l_due) := ⟨_, _, [], w_l_due F_l_due T d_l_whole d_l_shared, PySem.W.mg_of X G a_l_due, k_l_due, b_l_due, .nil⟩
  have d_l_far : DefOk l.prog w K mg base "_law_far" 2 ["_law_script"] [] (spP K mg 1 ph_l_far) := ⟨_, _, [], w_l_far F_l_far T d_l_shared d_show_number d_l_cell_at, PySem.W.mg_of X G a_l_far, k_l_far, b_l_far, .nil⟩
  have d_l_told : DefOk l.prog w K mg base "_law_told" 3 ["_law_word"] [] (spP K mg 1 ph_l_told) := ⟨_, _, [], w_l_told F_l_told T d_read_number, PySem.W.mg_of X G a_l_told, k_l_told, b_l_told, .nil⟩
  exact (w_law (P := l.prog) (w := w) (base := base) F_law T d_l_shared d_l_cell_at d_l_changed d_l_due d_l_told d_l_odd d_l_kinds d_show_number d_l_far).imp (law_end fun ns hn => ⟨ns, rfl, (plain_law ns hn).1, (plain_law ns hn).2⟩)
end G
open PySem PySem.W PyProof.Rows
set_option maxRecDepth 100000 in
set_option maxHeartbeats 0 in
theorem PySem.Challenge.cw_springframe_k14_numbers_written_holds : PySem.Challenge.rw_springframe_k14_numbers_written.Holds := by
  w_on; o_law; k_head; (case hw => w_witness2)
  k_fill
  refine L2.walk_of (l := PySem.Challenge.rw_springframe_k14_numbers_written) (n := 63) (k := 4) (x := "_law_script") (CX := fun w => L2.CX PySem.Challenge.rw_springframe_k14_numbers_written.prog w) (sp := fun w => R.spLaw _) rfl (by decide) rfl ⟨rfl, by decide, by decide⟩ (fun w h Y => PySem.W.kIn_of Y) ?F (fun _ _ a ns hl _ hS => ⟨a, ns, rfl, hS, hl, fun _ _ e => e⟩) (fun _ _ _ _ _ h => R.cx_end h)
  case F =>
    intro w mg fa h KX GG hmg
    refine' _root_.G.all_mk KX GG hmg ?a_divisor_of ?l_divisor_of ?c_divisor_of ?k_divisor_of ?a_whole_by ?l_whole_by ?c_whole_by ?k_whole_by ?a_read_number ?l_read_number ?c_read_number ?k_read_number ?a_show_number ?l_show_number ?c_show_number ?k_show_number ?a_l_cell_at ?l_l_cell_at ?c_l_cell_at ?k_l_cell_at ?a_l_shared ?l_l_shared ?c_l_shared ?k_l_shared ?a_l_odd ?l_l_odd ?c_l_odd ?k_l_odd ?a_l_changed ?l_l_changed ?c_l_changed ?k_l_changed ?a_l_whole ?l_l_whole ?c_l_whole ?k_l_whole ?a_l_due ?l_l_due ?c_l_due ?k_l_due ?a_l_told ?l_l_told ?c_l_told ?k_l_told ?a_l_kinds ?l_l_kinds ?c_l_kinds ?k_l_kinds ?a_l_far ?l_l_far ?c_l_far ?k_l_far ?a_law ?l_law ?c_law ?k_law ?z_abs ?z_all ?z_bool ?z_int ?z_isinstance ?z_len ?z_str ?z_tuple ?g1_FIGURES ?g1_MOST_FIGURES ?e_FrameError ?e_Mixed ?e_NoLine ?e_NoPart ?e_NoWish ?x1_NoWish ?x2_NoWish ?x3_FrameError ?x4_FrameError ?x3_Mixed ?x4_Mixed ?x3_NoLine ?x4_NoLine ?x3_NoPart ?x4_NoPart ?x3_NoWish ?x4_NoWish ?y_FrameError ?y_FrameError_FrameError ?y_FrameError_NoPart ?y_FrameError_NoWish ?y_FrameError_Mixed ?y_FrameError_NoLine ?y_Mixed ?y_Mixed_FrameError ?y_Mixed_NoPart ?y_Mixed_NoWish ?y_Mixed_Mixed ?y_Mixed_NoLine ?y_NoLine ?y_NoLine_FrameError ?y_NoLine_NoPart ?y_NoLine_NoWish ?y_NoLine_Mixed ?y_NoLine_NoLine ?y_NoPart ?y_NoPart_FrameError ?y_NoPart_NoPart ?y_NoPart_NoWish ?y_NoPart_Mixed ?y_NoPart_NoLine ?y_NoWish ?y_NoWish_FrameError ?y_NoWish_NoPart ?y_NoWish_NoWish ?y_NoWish_Mixed ?y_NoWish_NoLine ?qn_ ?qt_ ?q1_FrameError ?q2_FrameError ?q3_FrameError ?q4_FrameError ?q5_FrameError ?q6_FrameError ?q1_NoPart ?q2_NoPart ?q3_NoPart ?q4_NoPart ?q5_NoPart ?q6_NoPart ?q1_NoWish ?q2_NoWish ?q3_NoWish ?q4_NoWish ?q5_NoWish ?q6_NoWish ?q1_Mixed ?q2_Mixed ?q3_Mixed ?q4_Mixed ?q5_Mixed ?q6_Mixed ?q1_NoLine ?q2_NoLine ?q3_NoLine ?q4_NoLine ?q5_NoLine ?q6_NoLine
    (case a_divisor_of => k_is)
    (case l_divisor_of => k_is)
    (case c_divisor_of => k_is)
    (case k_divisor_of => k_is)
    (case a_whole_by => k_is)
    (case l_whole_by => k_is)
    (case c_whole_by => k_is)
    (case k_whole_by => k_is)
    (case a_read_number => k_is)
    (case l_read_number => k_is)
    (case c_read_number => k_is)
    (case k_read_number => k_is)
    (case a_show_number => k_is)
    (case l_show_number => k_is)
    (case c_show_number => k_is)
    (case k_show_number => k_is)
    (case a_l_cell_at => k_is)
    (case l_l_cell_at => k_is)
    (case c_l_cell_at => k_is)
    (case k_l_cell_at => k_is)
    (case a_l_shared => k_is)
    (case l_l_shared => k_is)
    (case c_l_shared => k_is)
    (case k_l_shared => k_is)
    (case a_l_odd => k_is)
    (case l_l_odd => k_is)
    (case c_l_odd => k_is)
    (case k_l_odd => k_is)
    (case a_l_changed => k_is)
    (case l_l_changed => k_is)
    (case c_l_changed => k_is)
    (case k_l_changed => k_is)
    (case a_l_whole => k_is)
    (case l_l_whole => k_is)
    (case c_l_whole => k_is)
    (case k_l_whole => k_is)
    (case a_l_due => k_is)
    (case l_l_due => k_is)
    (case c_l_due => k_is)
    (case k_l_due => k_is)
    (case a_l_told => k_is)
    (case l_l_told => k_is)
    (case c_l_told => k_is)
    (case k_l_told => k_is)
    (case a_l_kinds => k_is)
    (case l_l_kinds => k_is)
    (case c_l_kinds => k_is)
    (case k_l_kinds => k_is)
    (case a_l_far => k_is)
    (case l_l_far => k_is)
    (case c_l_far => k_is)
    (case k_l_far => k_is)
    (case a_law => k_is)
    (case l_law => k_is)
    (case c_law => k_is)
    (case k_law => k_is)
    (case z_abs => k_is)
    (case z_all => k_is)
    (case z_bool => k_is)
    (case z_int => k_is)
    (case z_isinstance => k_is)
    (case z_len => k_is)
    (case z_str => k_is)
    (case z_tuple => k_is)
    (case g1_FIGURES => k_is)
    (case g1_MOST_FIGURES => k_is)
    (case e_FrameError => k_is)
    (case e_Mixed => k_is)
    (case e_NoLine => k_is)
    (case e_NoPart => k_is)
    (case e_NoWish => k_is)
    (case x1_NoWish => k_exc)
    (case x2_NoWish => k_is)
    (case x3_FrameError => k_is)
    (case x4_FrameError => k_is)
    (case x3_Mixed => k_is)
    (case x4_Mixed => k_is)
    (case x3_NoLine => k_is)
    (case x4_NoLine => k_is)
    (case x3_NoPart => k_is)
    (case x4_NoPart => k_is)
    (case x3_NoWish => k_is)
    (case x4_NoWish => k_is)
    (case y_FrameError => k_is)
    (case y_FrameError_FrameError => (first | rfl | k_is))
    (case y_FrameError_NoPart => k_is)
    (case y_FrameError_NoWish => k_is)
    (case y_FrameError_Mixed => k_is)
    (case y_FrameError_NoLine => k_is)
    (case y_Mixed => k_is)
    (case y_Mixed_FrameError => k_is)
    (case y_Mixed_NoPart => k_is)
    (case y_Mixed_NoWish => k_is)
    (case y_Mixed_Mixed => (first | rfl | k_is))
    (case y_Mixed_NoLine => k_is)
    (case y_NoLine => k_is)
    (case y_NoLine_FrameError => k_is)
    (case y_NoLine_NoPart => k_is)
    (case y_NoLine_NoWish => k_is)
    (case y_NoLine_Mixed => k_is)
    (case y_NoLine_NoLine => (first | rfl | k_is))
    (case y_NoPart => k_is)
    (case y_NoPart_FrameError => k_is)
    (case y_NoPart_NoPart => (first | rfl | k_is))
    (case y_NoPart_NoWish => k_is)
    (case y_NoPart_Mixed => k_is)
    (case y_NoPart_NoLine => k_is)
    (case y_NoWish => k_is)
    (case y_NoWish_FrameError => k_is)
    (case y_NoWish_NoPart => k_is)
    (case y_NoWish_NoWish => (first | rfl | k_is))
    (case y_NoWish_Mixed => k_is)
    (case y_NoWish_NoLine => k_is)
    (case qn_ => k_is)
    (case qt_ => k_is)
    (case q1_FrameError => k_is)
    (case q2_FrameError => k_is)
    (case q3_FrameError => k_is)
    (case q4_FrameError => k_is)
    (case q5_FrameError => k_is)
    (case q6_FrameError => k_is)
    (case q1_NoPart => k_is)
    (case q2_NoPart => k_is)
    (case q3_NoPart => k_is)
    (case q4_NoPart => k_is)
    (case q5_NoPart => k_is)
    (case q6_NoPart => k_is)
    (case q1_NoWish => k_is)
    (case q2_NoWish => k_is)
    (case q3_NoWish => k_is)
    (case q4_NoWish => k_is)
    (case q5_NoWish => k_is)
    (case q6_NoWish => k_is)
    (case q1_Mixed => k_is)
    (case q2_Mixed => k_is)
    (case q3_Mixed => k_is)
    (case q4_Mixed => k_is)
    (case q5_Mixed => k_is)
    (case q6_Mixed => k_is)
    (case q1_NoLine => k_is)
    (case q2_NoLine => k_is)
    (case q3_NoLine => k_is)
    (case q4_NoLine => k_is)
    (case q5_NoLine => k_is)
    (case q6_NoLine => k_is)
