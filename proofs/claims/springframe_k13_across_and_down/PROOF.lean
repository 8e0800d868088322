import PyProof.Rows.All
import Wide.All
import OpenK.AllK
import Wide.FinOn
import HandS.ForMost
import HandS.ForExc
import HandS.Wide
import HandS.Flow
import HandS.IsInst
import HandS.More
import HandS.Conv
import HandS.Finally
import HandS.ExcIs
import HandS.ExcField
import HandS.TryMany
import HandS.Text
import HandS.Iter
import HandS.Zip
import HandS.ListEq
import HandS.DictEq
import HandS.OwnEq
import PyProof.NeKinds
import PyProof.StrOps2
import HandS.TupAny
import PyProof.Rows.SortStr
import HandS.RevTup
import PyProof.ListNew
import HandS.SetFor
import PyProof.Rows.SetFrom
import HandS.Style
import PyProof.Draws
import KE.GoesEnum
import KE.KDictSum
import PyProof.Rows.StrMeet
import HandS.SortKw
import KE.GoesMore
import HandS.Defaults
import HandS.HotCalls
import HandS.Replace
import HandS.CallSlots
import HandS.TupSets
import PyProof.FactsAll.set_2
import PyProof.StrLaws
import PyProof.FitsInt
import PySem.Challenge.RW_springframe_k13_across_and_down
set_option Elab.async false
set_option linter.all false
set_option maxRecDepth 100000
set_option maxHeartbeats 2000000
set_option autoImplicit false
/-! R: what a piece of Python does, told without a heap: slots hold data, a statement turns slots into slots. -/
namespace R
open PySem PySem.Spec PyProof.Rows L2
/-- no star -/
def plainE : Expr → Bool
  | .Starred _ _ => false
  | _ => true
theorem star_plain {e : Expr} (h : plainE e = true) (es : List Expr) (env : PySem.Env) : starEach (e :: es) env = (false, eval e env) :: starEach es env := by
  cases e <;> first | rfl | cases h
theorem star_pl {es : List Expr} {env : PySem.Env} {pos : Pos} (h : es.all plainE = true) : (backTo pos (starEach es env)).any (·.1) = false := by
  have key : ∀ es : List Expr, es.all plainE = true → (starEach es env).any (·.1) = false := by
    intro es
    induction es with
    | nil => intro _; rfl
    | cons e r ih =>
      intro h
      rw [List.all_cons, Bool.and_eq_true] at h
      rw [star_plain h.1, List.any_cons, ih h.2]
      rfl
  have := key es h
  unfold backTo
  simpa [List.any_map] using this
/-! ### heaps -/
def Ex (H H' : Hp) : Prop := ∀ a o, H a = some o → H' a = some o
def Pl : HO → Prop
  | .frz _ _ => False
  | _ => True
def Le (H H' : Hp) : Prop := ∀ a u, Pl u → Rd H a u → Rd H' a u
theorem Ex.refl (H : Hp) : Ex H H := fun _ _ h => h
theorem Ex.trans {H H1 H2 : Hp} (a : Ex H H1) (b : Ex H1 H2) : Ex H H2 := fun x o h => b x o (a x o h)
theorem Le.refl (H : Hp) : Le H H := fun _ _ _ h => h
theorem Le.trans {H H1 H2 : Hp} (a : Le H H1) (b : Le H1 H2) : Le H H2 := fun x o p h => b x o p (a x o p h)
theorem Ex.le {H H' : Hp} (e : Ex H H') : Le H H' := fun a u _ h => by
  rcases h with h | ⟨o, h⟩
  · exact .inl (e a _ h)
  · exact .inr ⟨o, e a _ h⟩
theorem Ex.new {H : Hp} {p : Addr} {o : HO} (h : H p = none) : Ex H (upd H p o) := fun a u e => by
  rw [upd_ne (ne_of_none e h)]
  exact e
theorem Ex.free {H H' : Hp} (e : Ex H H') {p : Addr} (h : H' p = none) : H p = none := by
  cases h1 : H p with
  | none => rfl
  | some o =>
    rw [e p o h1] at h
    cases h
theorem Le.lst {K : PySem.W.Frag} {H H' : Hp} {a : Addr} {xs : List V} (e : Le H H') (h : SqL K H a xs) : SqL K H' a xs := by
  rcases h with h | h
  · exact .inl (e a _ trivial h)
  · exact .inr h
theorem Le.tup {K : PySem.W.Frag} {H H' : Hp} {a : Addr} {xs : List V} (e : Le H H') (h : SqT K H a xs) : SqT K H' a xs := by
  rcases h with h | h
  · exact .inl (e a _ trivial h)
  · exact .inr h
/-- the heap without some addresses -/
noncomputable def wo (H : Hp) (U : Addr → Prop) : Hp := fun a => @ite _ (U a) (Classical.propDecidable _) none (H a)
theorem wo_in {H : Hp} {U : Addr → Prop} {a : Addr} (h : U a) : wo H U a = none := by unfold wo; rw [if_pos h]
theorem wo_out {H : Hp} {U : Addr → Prop} {a : Addr} (h : ¬ U a) : wo H U a = H a := by unfold wo; rw [if_neg h]
theorem wo_some {H : Hp} {U : Addr → Prop} {a : Addr} {o : HO} (h : wo H U a = some o) : ¬ U a ∧ H a = some o := by
  by_cases u : U a
  · rw [wo_in u] at h; cases h
  · rw [wo_out u] at h; exact ⟨u, h⟩
theorem wo_le {H : Hp} {U : Addr → Prop} : Le (wo H U) H := Ex.le fun _ _ h => (wo_some h).2
theorem wo_ex {H H' : Hp} {U : Addr → Prop} (e : Ex H H') : Ex (wo H U) (wo H' U) := fun a o h => by
  obtain ⟨u, h⟩ := wo_some h
  rw [wo_out u]
  exact e a o h
theorem wo_mono {H : Hp} {U U' : Addr → Prop} (h : ∀ a, U' a → U a) : Ex (wo H U) (wo H U') := fun a o q => by
  obtain ⟨u, q⟩ := wo_some q
  rw [wo_out fun z => u (h a z)]
  exact q
/-! ### data -/
class Dat (α : Type) where
  rep : PySem.W.Frag → Hp → V → α → Prop
  mono : ∀ {K : PySem.W.Frag} {H H' : Hp} {v : V} {x : α}, Le H H' → rep K H v x → rep K H' v x
class Own (α : Type) where
  own : PySem.W.Frag → Hp → Hp → V → List Addr → α → Prop
  frame : ∀ {K : PySem.W.Frag} {Hf Hf' H H' : Hp} {v : V} {L : List Addr} {x : α}, Le Hf Hf' → (∀ a ∈ L, H' a = H a) → own K Hf H v L x → own K Hf' H' v L x
instance : Dat Int := ⟨fun _ _ v x => v = .int x, fun _ h => h⟩
instance : Dat Bool := ⟨fun _ _ v x => v = .bl x, fun _ h => h⟩
instance : Dat Str := ⟨fun _ _ v x => v = .str x, fun _ h => h⟩
instance : Dat Unit := ⟨fun _ _ v _ => v = .non, fun _ h => h⟩
theorem Paired.imp {α β : Type} {F G : α → β → Prop} {xs : List α} {ys : List β} (h : Paired F xs ys) (f : ∀ a b, F a b → G a b) : Paired G xs ys := L2.Paired.mapP h f
def repL {α : Type} [Dat α] (K : PySem.W.Frag) (H : Hp) (vs : List V) (xs : List α) : Prop := Paired (fun u x => Dat.rep K H u x) vs xs
theorem repL.mono {α : Type} [Dat α] {K : PySem.W.Frag} {H H' : Hp} {vs : List V} {xs : List α} (e : Le H H') (h : repL K H vs xs) : repL K H' vs xs := Paired.imp h fun _ _ q => Dat.mono e q
instance {α : Type} [Dat α] : Dat (List α) where
  rep K H v xs := ∃ a vs, v = .ref a ∧ SqL K H a vs ∧ repL K H vs xs
  mono := fun e ⟨a, vs, h, l, r⟩ => ⟨a, vs, h, e.lst l, r.mono e⟩
/-- a dict with texts as keys -/
structure Dc (α : Type) where
  kvs : List (Str × α)
def repD {α : Type} [Dat α] (K : PySem.W.Frag) (H : Hp) (ws : List (Key × V)) (xs : List (Str × α)) : Prop := Paired (fun (q : Key × V) (p : Str × α) => q.1 = .inr p.1 ∧ Dat.rep K H q.2 p.2) ws xs
theorem repD.mono {α : Type} [Dat α] {K : PySem.W.Frag} {H H' : Hp} {vs : List (Key × V)} {xs : List (Str × α)} (e : Le H H') (h : repD K H vs xs) : repD K H' vs xs := Paired.imp h fun _ _ q => ⟨q.1, Dat.mono e q.2⟩
instance {α : Type} [Dat α] : Dat (Dc α) where
  rep K H v d := ∃ a ws, v = .ref a ∧ Rd H a (.dK ws) ∧ repD K H ws d.kvs
  mono := fun e ⟨a, ws, h, l, r⟩ => ⟨a, ws, h, e a _ trivial l, r.mono e⟩
/-! ### slots -/
inductive Sl : Type 1
  | any : Sl
  | dat {α : Type} [i : Dat α] (x : α) : Sl
  | own {α : Type} [i : Own α] (x : α) : Sl
abbrev Env' := List Sl
def SlOk (K : PySem.W.Frag) (Hf H : Hp) (o : Option (Option V)) (L : List Addr) : Sl → Prop
  | .any => True
  | .dat (i := i) x => ∃ v, o = some (some v) ∧ i.rep K Hf v x
  | .own (i := i) x => ∃ v, o = some (some v) ∧ i.own K Hf H v L x
def UU (O : Addr → Prop) (fp : Nat → List Addr) : Addr → Prop := fun a => O a ∨ ∃ i, a ∈ fp i
def nofp : Nat → List Addr := fun _ => []
theorem uu_no {O : Addr → Prop} : UU O nofp = O := by
  funext a
  apply propext
  constructor
  · rintro (h | ⟨i, h⟩)
    · exact h
    · cases h
  · exact .inl
structure SOk (K : PySem.W.Frag) (O : Addr → Prop) (fp : Nat → List Addr) (env : Env') (σ : L2.St) (H : Hp) : Prop where
  len : σ.length = env.length
  bnd : ∀ a, O a → ∃ o, H a = some o
  fpO : ∀ i a, a ∈ fp i → ¬ O a
  sep : ∀ i j a, a ∈ fp i → a ∈ fp j → i = j
  dom : ∀ i a, a ∈ fp i → ∃ o, H a = some o
  sl : ∀ i s, env[i]? = some s → SlOk K (wo H (UU O fp)) H (σ[i]?) (fp i) s
section
variable {K : PySem.W.Frag} {O : Addr → Prop} {fp fp' : Nat → List Addr} {env : Env'} {σ : L2.St} {H H' : Hp}
theorem SOk.bndU (S : SOk K O fp env σ H) : ∀ a, UU O fp a → ∃ o, H a = some o := fun a h => by
  rcases h with h | ⟨i, h⟩
  · exact S.bnd a h
  · exact S.dom i a h
theorem SOk.ex (S : SOk K O fp env σ H) (e : Ex H H') : SOk K O fp env σ H' where
  len := S.len
  bnd := fun a h => let ⟨o, q⟩ := S.bnd a h; ⟨o, e a o q⟩
  fpO := S.fpO
  sep := S.sep
  dom := fun i a h => let ⟨o, q⟩ := S.dom i a h; ⟨o, e a o q⟩
  sl := fun i s h => by
    have q := S.sl i s h
    cases s with
    | any => exact trivial
    | dat x =>
      obtain ⟨v, h1, h2⟩ := q
      exact ⟨v, h1, Dat.mono (wo_ex e).le h2⟩
    | own x =>
      obtain ⟨v, h1, h2⟩ := q
      refine ⟨v, h1, Own.frame (wo_ex e).le (fun a ha => ?_) h2⟩
      obtain ⟨o, q⟩ := S.dom i a ha
      rw [q, e a o q]
theorem SOk.fresh (S : SOk K O fp env σ H) {p : Addr} (h : H p = none) : ¬ UU O fp p := fun u => by
  obtain ⟨o, q⟩ := S.bndU p u
  rw [h] at q
  cases q
end
/-! ### expressions -/
/-- what an expression is worth: x, whatever the heap -/
def Ev {α : Type} [Dat α] (K : PySem.W.Frag) (t : TE) (env : Env') (x : α) : Prop :=
  ∀ O fp σ H, SOk K O fp env σ H → ∀ Q : VK, (∀ v H', Ex H H' → Dat.rep K (wo H' (UU O fp)) v x → Q v H') → t σ H Q
def EvT (K : PySem.W.Frag) (t : TT) (env : Env') (b : Bool) : Prop :=
  ∀ O fp σ H, SOk K O fp env σ H → ∀ Q : Bool → Hp → Prop, (∀ H', Ex H H' → Q b H') → t σ H Q
def ARep (K : PySem.W.Frag) (Hf : Hp) : List V → List Sl → Prop
  | [], [] => True
  | v :: vs, .dat (i := i) x :: xs => i.rep K Hf v x ∧ ARep K Hf vs xs
  | _, _ => False
theorem ARep.mono {K : PySem.W.Frag} {H H' : Hp} (e : Le H H') : ∀ {vs : List V} {xs : List Sl}, ARep K H vs xs → ARep K H' vs xs
  | [], [], _ => trivial
  | _ :: _, .dat (i := i) x :: _, h => ⟨i.mono e h.1, ARep.mono e h.2⟩
  | [], _ :: _, h => by simp [ARep] at h
  | _ :: _, [], h => by simp [ARep] at h
  | _ :: _, .any :: _, h => by simp [ARep] at h
  | _ :: _, .own (i := _) _ :: _, h => by simp [ARep] at h
/-! ### tuples -/
def repT (K : PySem.W.Frag) (H : Hp) (v : V) (cs : List Sl) : Prop := ∃ a vs, v = .ref a ∧ SqT K H a vs ∧ ARep K H vs cs
theorem repT.mono {K : PySem.W.Frag} {H H' : Hp} {v : V} {cs : List Sl} (e : Le H H') (h : repT K H v cs) : repT K H' v cs := let ⟨a, vs, h0, t, r⟩ := h; ⟨a, vs, h0, e.tup t, r.mono e⟩
instance {α β : Type} [Dat α] [Dat β] : Dat (α × β) := ⟨fun K H v p => repT K H v [.dat p.1, .dat p.2], fun e h => h.mono e⟩
/-- what is a tuple, with these parts -/
class Tup (τ : Type) [Dat τ] where
  comps : τ → List Sl
  is : ∀ (K : PySem.W.Frag) (H : Hp) (v : V) (x : τ), Dat.rep K H v x = repT K H v (comps x)
instance {α β : Type} [Dat α] [Dat β] : Tup (α × β) := ⟨fun p => [.dat p.1, .dat p.2], fun _ _ _ _ => rfl⟩
structure T3 (α β γ : Type) where
  a : α
  b : β
  c : γ
instance {α β γ : Type} [Dat α] [Dat β] [Dat γ] : Dat (T3 α β γ) := ⟨fun K H v p => repT K H v [.dat p.a, .dat p.b, .dat p.c], fun e h => h.mono e⟩
instance {α β γ : Type} [Dat α] [Dat β] [Dat γ] : Tup (T3 α β γ) := ⟨fun p => [.dat p.a, .dat p.b, .dat p.c], fun _ _ _ _ => rfl⟩
structure T4 (α β γ δ : Type) where
  a : α
  b : β
  c : γ
  d : δ
instance {α β γ δ : Type} [Dat α] [Dat β] [Dat γ] [Dat δ] : Dat (T4 α β γ δ) := ⟨fun K H v p => repT K H v [.dat p.a, .dat p.b, .dat p.c, .dat p.d], fun e h => h.mono e⟩
instance {α β γ δ : Type} [Dat α] [Dat β] [Dat γ] [Dat δ] : Tup (T4 α β γ δ) := ⟨fun p => [.dat p.a, .dat p.b, .dat p.c, .dat p.d], fun _ _ _ _ => rfl⟩
structure T5 (α β γ δ ε : Type) where
  a : α
  b : β
  c : γ
  d : δ
  e : ε
instance {α β γ δ ε : Type} [Dat α] [Dat β] [Dat γ] [Dat δ] [Dat ε] : Dat (T5 α β γ δ ε) := ⟨fun K H v p => repT K H v [.dat p.a, .dat p.b, .dat p.c, .dat p.d, .dat p.e], fun e h => h.mono e⟩
instance {α β γ δ ε : Type} [Dat α] [Dat β] [Dat γ] [Dat δ] [Dat ε] : Tup (T5 α β γ δ ε) := ⟨fun p => [.dat p.a, .dat p.b, .dat p.c, .dat p.d, .dat p.e], fun _ _ _ _ => rfl⟩
theorem ARep.length {K : PySem.W.Frag} {H : Hp} : ∀ {vs : List V} {xs : List Sl}, ARep K H vs xs → vs.length = xs.length
  | [], [], _ => rfl
  | _ :: _, .dat (i := i) x :: _, h => congrArg (· + 1) (ARep.length h.2)
  | [], _ :: _, h => by simp [ARep] at h
  | _ :: _, [], h => by simp [ARep] at h
  | _ :: _, .any :: _, h => by simp [ARep] at h
  | _ :: _, .own (i := _) _ :: _, h => by simp [ARep] at h
theorem ARep.get {α : Type} [Dat α] {K : PySem.W.Frag} {H : Hp} {x : α} : ∀ {vs : List V} {xs : List Sl} {i : Nat}, ARep K H vs xs → xs[i]? = some (.dat x) → ∃ v, vs[i]? = some v ∧ Dat.rep K H v x
  | [], [], i, _, q => by simp at q
  | v :: _, .dat (i := j) y :: _, 0, h, q => by
    have q : Sl.dat (i := j) y = Sl.dat x := by simpa using q
    cases q
    exact ⟨v, rfl, h.1⟩
  | _ :: vs, .dat (i := j) y :: xs, i + 1, h, q => by
    have := ARep.get (vs := vs) (xs := xs) (i := i) h.2 (by simpa using q)
    simpa using this
  | [], _ :: _, _, h, _ => by simp [ARep] at h
  | _ :: _, [], _, h, _ => by simp [ARep] at h
  | _ :: _, .any :: _, _, h, _ => by simp [ARep] at h
  | _ :: _, .own (i := _) _ :: _, _, h, _ => by simp [ARep] at h
def EvA (K : PySem.W.Frag) (t : TA) (env : Env') (xs : List Sl) : Prop :=
  ∀ O fp σ H, SOk K O fp env σ H → ∀ Q : List V → Hp → Prop, (∀ vs H', Ex H H' → ARep K (wo H' (UU O fp)) vs xs → Q vs H') → t σ H Q
/-- an operation on values -/
def RV {α β γ : Type} [Dat α] [Dat β] [Dat γ] (K : PySem.W.Frag) (r : R2) (x : α) (y : β) (z : γ) : Prop :=
  ∀ (U : Addr → Prop) (v1 v2 : V) (H : Hp), (∀ a, U a → ∃ o, H a = some o) → Dat.rep K (wo H U) v1 x → Dat.rep K (wo H U) v2 y → ∀ Q : VK, (∀ v H', Ex H H' → Dat.rep K (wo H' U) v z → Q v H') → r v1 v2 H Q
/-- a call on values -/
def RC {γ : Type} [Dat γ] (K : PySem.W.Frag) (r : List V → Hp → VK → Prop) (xs : List Sl) (z : γ) : Prop :=
  ∀ (U : Addr → Prop) (vs : List V) (H : Hp), (∀ a, U a → ∃ o, H a = some o) → ARep K (wo H U) vs xs → ∀ Q : VK, (∀ v H', Ex H H' → Dat.rep K (wo H' U) v z → Q v H') → r vs H Q
/-- the greatest reading -/
@[irreducible] def tE (X : Cx) (e : Expr) : TE := fun σ H Q => ∀ pins s, Inv X pins σ H s → wpAny (model X.prog X.w) X.A (eval e X.env) (EP X pins σ Q) X.xe s
@[irreducible] def tT (X : Cx) (e : Expr) : TT := fun σ H Q => ∀ pins s, Inv X pins σ H s → wpAny (model X.prog X.w) X.A (isTrue e X.env (eval e X.env)) (TP X pins σ Q) X.xe s
@[irreducible] def tW (X : Cx) (e : Expr) : TT := fun σ H Q => ∀ (whole : Sem Value) pins s, Inv X pins σ H s → wpAny (model X.prog X.w) X.A (isTrue e X.env whole) (TP X pins σ Q) X.xe s
@[irreducible] def tA (X : Cx) (es : List Expr) : TA := fun σ H Q => ∀ (pos : Pos) pins s, Inv X pins σ H s → wpAny (model X.prog X.w) X.A (spliced (backTo pos (starEach es X.env))) (AP X pins σ Q) X.xe s
@[irreducible] def tS (X : Cx) (st : Stmt) : TS := fun D σ H => ∀ pins s, Inv X pins σ H s → wpAny (model X.prog X.w) X.A (exec st X.env) (SP X pins D) X.xe s
@[irreducible] def tSs (X : Cx) (sts : List Stmt) : TS := fun D σ H => ∀ pins s, Inv X pins σ H s → wpAny (model X.prog X.w) X.A (execs sts X.env) (SP X pins D) X.xe s
@[irreducible] def tG (X : Cx) (tg : Expr) : TG := fun v σ H Q => ∀ pins s u, Inv X pins σ H s → RelV v u → wpAny (model X.prog X.w) X.A (assign tg X.env u) (fun _ s' => ∃ σ' H', Inv X pins σ' H' s' ∧ Q σ' H') X.xe s
theorem tE_of {X : Cx} {e : Expr} {σ : L2.St} {H : Hp} {Q : VK} (h : ∀ pins s, Inv X pins σ H s → wpAny (model X.prog X.w) X.A (eval e X.env) (EP X pins σ Q) X.xe s) : tE X e σ H Q := by unfold tE; exact h
theorem tE_run {X : Cx} {e : Expr} {σ : L2.St} {H : Hp} {Q : VK} (h : tE X e σ H Q) : ∀ pins s, Inv X pins σ H s → wpAny (model X.prog X.w) X.A (eval e X.env) (EP X pins σ Q) X.xe s := by unfold tE at h; exact h
theorem tT_of {X : Cx} {e : Expr} {σ : L2.St} {H : Hp} {Q : Bool → Hp → Prop} (h : ∀ pins s, Inv X pins σ H s → wpAny (model X.prog X.w) X.A (isTrue e X.env (eval e X.env)) (TP X pins σ Q) X.xe s) : tT X e σ H Q := by unfold tT; exact h
theorem tT_run {X : Cx} {e : Expr} {σ : L2.St} {H : Hp} {Q : Bool → Hp → Prop} (h : tT X e σ H Q) : ∀ pins s, Inv X pins σ H s → wpAny (model X.prog X.w) X.A (isTrue e X.env (eval e X.env)) (TP X pins σ Q) X.xe s := by unfold tT at h; exact h
theorem tW_of {X : Cx} {e : Expr} {σ : L2.St} {H : Hp} {Q : Bool → Hp → Prop} (h : ∀ (whole : Sem Value) pins s, Inv X pins σ H s → wpAny (model X.prog X.w) X.A (isTrue e X.env whole) (TP X pins σ Q) X.xe s) : tW X e σ H Q := by unfold tW; exact h
theorem tW_run {X : Cx} {e : Expr} {σ : L2.St} {H : Hp} {Q : Bool → Hp → Prop} (h : tW X e σ H Q) : ∀ (whole : Sem Value) pins s, Inv X pins σ H s → wpAny (model X.prog X.w) X.A (isTrue e X.env whole) (TP X pins σ Q) X.xe s := by unfold tW at h; exact h
theorem tA_of {X : Cx} {es : List Expr} {σ : L2.St} {H : Hp} {Q : List V → Hp → Prop} (h : ∀ (pos : Pos) pins s, Inv X pins σ H s → wpAny (model X.prog X.w) X.A (spliced (backTo pos (starEach es X.env))) (AP X pins σ Q) X.xe s) : tA X es σ H Q := by unfold tA; exact h
theorem tA_run {X : Cx} {es : List Expr} {σ : L2.St} {H : Hp} {Q : List V → Hp → Prop} (h : tA X es σ H Q) : ∀ (pos : Pos) pins s, Inv X pins σ H s → wpAny (model X.prog X.w) X.A (spliced (backTo pos (starEach es X.env))) (AP X pins σ Q) X.xe s := by unfold tA at h; exact h
theorem tS_of {X : Cx} {st : Stmt} {D : Ends} {σ : L2.St} {H : Hp} (h : ∀ pins s, Inv X pins σ H s → wpAny (model X.prog X.w) X.A (exec st X.env) (SP X pins D) X.xe s) : tS X st D σ H := by unfold tS; exact h
theorem tS_run {X : Cx} {st : Stmt} {D : Ends} {σ : L2.St} {H : Hp} (h : tS X st D σ H) : ∀ pins s, Inv X pins σ H s → wpAny (model X.prog X.w) X.A (exec st X.env) (SP X pins D) X.xe s := by unfold tS at h; exact h
theorem tSs_of {X : Cx} {sts : List Stmt} {D : Ends} {σ : L2.St} {H : Hp} (h : ∀ pins s, Inv X pins σ H s → wpAny (model X.prog X.w) X.A (execs sts X.env) (SP X pins D) X.xe s) : tSs X sts D σ H := by unfold tSs; exact h
theorem tSs_run {X : Cx} {sts : List Stmt} {D : Ends} {σ : L2.St} {H : Hp} (h : tSs X sts D σ H) : ∀ pins s, Inv X pins σ H s → wpAny (model X.prog X.w) X.A (execs sts X.env) (SP X pins D) X.xe s := by unfold tSs at h; exact h
theorem tG_of {X : Cx} {tg : Expr} {v : V} {σ : L2.St} {H : Hp} {Q : L2.St → Hp → Prop} (h : ∀ pins s u, Inv X pins σ H s → RelV v u → wpAny (model X.prog X.w) X.A (assign tg X.env u) (fun _ s' => ∃ σ' H', Inv X pins σ' H' s' ∧ Q σ' H') X.xe s) : tG X tg v σ H Q := by unfold tG; exact h
theorem tG_run {X : Cx} {tg : Expr} {v : V} {σ : L2.St} {H : Hp} {Q : L2.St → Hp → Prop} (h : tG X tg v σ H Q) : ∀ pins s u, Inv X pins σ H s → RelV v u → wpAny (model X.prog X.w) X.A (assign tg X.env u) (fun _ s' => ∃ σ' H', Inv X pins σ' H' s' ∧ Q σ' H') X.xe s := by unfold tG at h; exact h
theorem mE (X : Cx) (e : Expr) : PE X e (tE X e) := ⟨fun pins s _ _ _ I h => tE_run h pins s I⟩
theorem mT (X : Cx) (e : Expr) : PT X e (tT X e) := ⟨fun pins s _ _ _ I h => tT_run h pins s I⟩
theorem mW (X : Cx) (e : Expr) : PW X e (tW X e) := ⟨fun w pins s _ _ _ I h => tW_run h w pins s I⟩
theorem mA (X : Cx) (es : List Expr) : PA X es (tA X es) := ⟨fun p pins s _ _ _ I h => tA_run h p pins s I⟩
theorem mS (X : Cx) (st : Stmt) : PS X st (tS X st) := ⟨fun pins s _ _ _ I h => tS_run h pins s I⟩
theorem mSs (X : Cx) (st : List Stmt) : PSs X st (tSs X st) := ⟨fun pins s _ _ _ I h => tSs_run h pins s I⟩
def EX {α : Type} [Dat α] (X : Cx) (e : Expr) (env : Env') (x : α) : Prop := Ev X.K (tE X e) env x
def ET (X : Cx) (e : Expr) (env : Env') (b : Bool) : Prop := EvT X.K (tT X e) env b
def EW (X : Cx) (e : Expr) (env : Env') (b : Bool) : Prop := EvT X.K (tW X e) env b
def EA (X : Cx) (es : List Expr) (env : Env') (xs : List Sl) : Prop := EvA X.K (tA X es) env xs
section
variable {X : Cx} {K : PySem.W.Frag} {env : Env'} {α β γ : Type} [Dat α] [Dat β] [Dat γ] {x : α} {y : β} {z : γ} {e a b c : Expr} {es : List Expr} {t ta tb tc : TE} {pos : Pos}
theorem ex_of (p : PE X e t) (h : Ev X.K t env x) : EX X e env x := fun O fp σ H S Q q => tE_of fun pins s I => p.run pins s σ H Q I (h O fp σ H S Q q)
theorem et_of {t : TT} {k : Bool} (p : PT X e t) (h : EvT X.K t env k) : ET X e env k := fun O fp σ H S Q q => tT_of fun pins s I => p.run pins s σ H Q I (h O fp σ H S Q q)
theorem ew_of {t : TT} {k : Bool} (p : PW X e t) (h : EvT X.K t env k) : EW X e env k := fun O fp σ H S Q q => tW_of fun w pins s I => p.run w pins s σ H Q I (h O fp σ H S Q q)
theorem ea_of {t : TA} {xs : List Sl} (p : PA X es t) (h : EvA X.K t env xs) : EA X es env xs := fun O fp σ H S Q q => tA_of fun pos pins s I => p.run pos pins s σ H Q I (h O fp σ H S Q q)
theorem EX.eq {x' : α} (h : EX X e env x) (q : x = x') : EX X e env x' := q ▸ h
theorem ET.eq {k k' : Bool} (h : ET X e env k) (q : k = k') : ET X e env k' := q ▸ h
theorem ev_var {i : Nat} (h : env[i]? = some (Sl.dat x)) : Ev K (tVar i) env x := fun O fp σ H S Q q => by
  obtain ⟨v, h1, h2⟩ := S.sl i _ h
  exact ⟨v, h1, q v H (Ex.refl H) h2⟩
theorem ev_c {v : V} (h : ∀ Hf, Dat.rep K Hf v x) : Ev K (tC v) env x := fun O fp σ H S Q q => q v H (Ex.refl H) (h _)
theorem ev_op {r : R2} (ha : Ev K ta env x) (hb : Ev K tb env y) (hr : RV K r x y z) : Ev K (tOp r ta tb) env z := fun O fp σ H S Q q =>
  ha O fp σ H S _ fun v1 H1 e1 r1 => hb O fp σ H1 (S.ex e1) _ fun v2 H2 e2 r2 => hr (UU O fp) v1 v2 H2 ((S.ex e1).ex e2).bndU (Dat.mono (wo_ex e2).le r1) r2 Q fun v H' e r => q v H' ((e1.trans e2).trans e) r
theorem ex_var {i : Nat} {n : Str} {pos : Pos} (h : env[i]? = some (Sl.dat x)) (hN : X.N[i]? = some n := by rfl) (hv : Vis X.env.scope n := by first | exact Or.inl rfl | exact Or.inr (Or.inl rfl) | exact Or.inr (Or.inr rfl)) (hd : (n == ("__debug__" : Str)) = false := by decide) (hc : (n == ("__classdict__" : Str)) = false := by decide) : EX X (.Name n pos) env x :=
  ex_of (pe_var hN hv hd hc) (ev_var h)
theorem ex_int {i : Int} {j : Nat} {pos : Pos} : EX X (.Constant (.int i) j pos) env i := ex_of pe_int (ev_c fun _ => rfl)
theorem ex_bl {i : Bool} {j : Nat} {pos : Pos} : EX X (.Constant (.bool i) j pos) env i := ex_of pe_bl (ev_c fun _ => rfl)
theorem ex_str {i : Str} {j : Nat} {pos : Pos} : EX X (.Constant (.str i) j pos) env i := ex_of pe_str (ev_c fun _ => rfl)
theorem ex_non {j : Nat} {pos : Pos} : EX X (.Constant .none j pos) env () := ex_of pe_non (ev_c fun _ => rfl)
theorem ex_op {op : Operator} {r : R2} (ho : OpR X (binaryOp op) r) (ha : EX X a env x) (hb : EX X b env y) (hr : RV X.K r x y z) : EX X (.BinOp a op b pos) env z := ex_of (pe_op ho (mE X a) (mE X b)) (ev_op ha hb hr)
/-! whole numbers -/
theorem rv_I0 {g : Int → Int → V} {i j : Int} (h : ∀ Hf, Dat.rep K Hf (g i j) z) : RV K (rI0 g) i j z := fun U v1 v2 H _ r1 r2 Q q => ⟨i, j, r1, r2, q _ H (Ex.refl H) (h _)⟩
theorem rv_I {C : Int → Int → Prop} {g : Int → Int → V} {i j : Int} (hc : C i j) (h : ∀ Hf, Dat.rep K Hf (g i j) z) : RV K (rI C g) i j z := fun U v1 v2 H _ r1 r2 Q q => ⟨i, j, r1, r2, hc, q _ H (Ex.refl H) (h _)⟩
theorem ex_add {i j : Int} (ha : EX X a env i) (hb : EX X b env j) : EX X (.BinOp a .Add b pos) env (i + j) := ex_op op_add ha hb (rv_I0 fun _ => rfl)
theorem ex_sub {i j : Int} (ha : EX X a env i) (hb : EX X b env j) : EX X (.BinOp a .Sub b pos) env (i - j) := ex_op op_sub ha hb (rv_I0 fun _ => rfl)
theorem ex_mul {i j : Int} (ha : EX X a env i) (hb : EX X b env j) (h : CMul i j) : EX X (.BinOp a .Mult b pos) env (i * j) := ex_op op_mul ha hb (rv_I h fun _ => rfl)
theorem ex_mulW {i j : Int} (ha : EX X a env i) (hb : EX X b env j) (h : CMulW i j) : EX X (.BinOp a .Mult b pos) env (i * j) := ex_op op_mulW ha hb (rv_I h fun _ => rfl)
theorem ex_fdiv {i j : Int} (ha : EX X a env i) (hb : EX X b env j) (h : CDiv i j) : EX X (.BinOp a .FloorDiv b pos) env (i / j) := ex_op op_fdiv ha hb (rv_I h fun _ => rfl)
theorem ex_fdivW {i j : Int} (ha : EX X a env i) (hb : EX X b env j) (h : CDivW i j) : EX X (.BinOp a .FloorDiv b pos) env (i / j) := ex_op op_fdivW ha hb (rv_I h fun _ => rfl)
theorem ex_mod {i j : Int} (ha : EX X a env i) (hb : EX X b env j) (h : 0 < j) : EX X (.BinOp a .Mod b pos) env (i % j) := ex_op op_mod ha hb (rv_I h fun _ => rfl)
theorem ex_modN {i j : Int} (ha : EX X a env i) (hb : EX X b env j) (h : j ≠ 0) : EX X (.BinOp a .Mod b pos) env (i.fmod j) := ex_op op_modN ha hb (rv_I h fun _ => rfl)
theorem ex_pow {i j : Int} (ha : EX X a env i) (hb : EX X b env j) (h : CPow i j) : EX X (.BinOp a .Pow b pos) env (i ^ j.toNat) := ex_op op_pow ha hb (rv_I h fun _ => rfl)
theorem ex_neg {i : Int} (ha : EX X a env i) : EX X (.UnaryOp .USub a pos) env (-i) := ex_of (pe_un un_neg (mE X a)) fun O fp σ H S Q q => ha O fp σ H S _ fun v1 H1 e1 r1 => ⟨i, r1, q _ H1 e1 rfl⟩
/-! comparisons -/
theorem ex_cmp {op : CmpOp} {r : R2} (ho : OpR X (compareOp op) r) (ha : EX X a env x) (hb : EX X b env y) (hr : RV X.K r x y z) (hm : behindInMarks op b = false) : EX X (.Compare a [op] [b] pos) env z := ex_of (pe_cmpR ho (mE X a) (mE X b) hm) (ev_op ha hb hr)
theorem et_cmp {op : CmpOp} {r : R2} {k : Bool} (ho : OpR X (compareOp op) r) (ha : EX X a env x) (hb : EX X b env y) (hr : RV X.K r x y k) (hm : behindInMarks op b = false) : ET X (.Compare a [op] [b] pos) env k := et_of (pt_cmpR ho (mE X a) (mE X b) hm) fun O fp σ H S Q q => ev_op ha hb hr O fp σ H S _ fun v H' e r => ⟨k, r, q H' e⟩
theorem ex_lt {i j : Int} (ha : EX X a env i) (hb : EX X b env j) : EX X (.Compare a [.Lt] [b] pos) env (decide (i < j)) := ex_cmp op_lt ha hb (rv_I0 fun _ => rfl) (nomark _)
theorem ex_le {i j : Int} (ha : EX X a env i) (hb : EX X b env j) : EX X (.Compare a [.LtE] [b] pos) env (decide (i ≤ j)) := ex_cmp op_le ha hb (rv_I0 fun _ => rfl) (nomark _)
theorem ex_gt {i j : Int} (ha : EX X a env i) (hb : EX X b env j) : EX X (.Compare a [.Gt] [b] pos) env (decide (j < i)) := ex_cmp op_gt ha hb (rv_I0 fun _ => rfl) (nomark _)
theorem ex_ge {i j : Int} (ha : EX X a env i) (hb : EX X b env j) : EX X (.Compare a [.GtE] [b] pos) env (decide (j ≤ i)) := ex_cmp op_ge ha hb (rv_I0 fun _ => rfl) (nomark _)
theorem et_lt {i j : Int} (ha : EX X a env i) (hb : EX X b env j) : ET X (.Compare a [.Lt] [b] pos) env (decide (i < j)) := et_cmp op_lt ha hb (rv_I0 fun _ => rfl) (nomark _)
theorem et_le {i j : Int} (ha : EX X a env i) (hb : EX X b env j) : ET X (.Compare a [.LtE] [b] pos) env (decide (i ≤ j)) := et_cmp op_le ha hb (rv_I0 fun _ => rfl) (nomark _)
theorem et_gt {i j : Int} (ha : EX X a env i) (hb : EX X b env j) : ET X (.Compare a [.Gt] [b] pos) env (decide (j < i)) := et_cmp op_gt ha hb (rv_I0 fun _ => rfl) (nomark _)
theorem et_ge {i j : Int} (ha : EX X a env i) (hb : EX X b env j) : ET X (.Compare a [.GtE] [b] pos) env (decide (j ≤ i)) := et_cmp op_ge ha hb (rv_I0 fun _ => rfl) (nomark _)
/-- == of what is no object -/
class Flat (α : Type) [Dat α] [DecidableEq α] : Prop where
  sc : ∀ (K : PySem.W.Frag) (Hf Hf' : Hp) (v w : V) (x y : α), Dat.rep K Hf v x → Dat.rep K Hf' w y → scal v w = true ∧ (decide (v = w)) = decide (x = y)
instance : Flat Int := ⟨fun K Hf Hf' v w x y h1 h2 => by
  have h1 : v = .int x := h1
  have h2 : w = .int y := h2
  subst h1 h2
  refine ⟨rfl, ?_⟩
  by_cases h : x = y
  · subst h; simp
  · rw [decide_eq_false h, decide_eq_false]; intro z; exact h (V.int.inj z)⟩
instance : Flat Bool := ⟨fun K Hf Hf' v w x y h1 h2 => by
  have h1 : v = .bl x := h1
  have h2 : w = .bl y := h2
  subst h1 h2
  refine ⟨rfl, ?_⟩
  by_cases h : x = y
  · subst h; simp
  · rw [decide_eq_false h, decide_eq_false]; intro z; exact h (V.bl.inj z)⟩
instance : Flat Str := ⟨fun K Hf Hf' v w x y h1 h2 => by
  have h1 : v = .str x := h1
  have h2 : w = .str y := h2
  subst h1 h2
  refine ⟨rfl, ?_⟩
  by_cases h : x = y
  · subst h; simp
  · rw [decide_eq_false h, decide_eq_false]; intro z; exact h (V.str.inj z)⟩
theorem rv_eqF {α : Type} [Dat α] [DecidableEq α] [Flat α] {x y : α} : RV K rEq x y (decide (x = y)) := fun U v1 v2 H _ r1 r2 Q q => by
  obtain ⟨h1, h2⟩ := Flat.sc K _ _ v1 v2 x y r1 r2
  exact ⟨h1, q _ H (Ex.refl H) (show V.bl (decide (v1 = v2)) = V.bl (decide (x = y)) by rw [h2])⟩
theorem rv_neF {α : Type} [Dat α] [DecidableEq α] [Flat α] {x y : α} : RV K rNe x y (!decide (x = y)) := fun U v1 v2 H _ r1 r2 Q q => by
  obtain ⟨h1, h2⟩ := Flat.sc K _ _ v1 v2 x y r1 r2
  exact ⟨h1, q _ H (Ex.refl H) (show V.bl (!decide (v1 = v2)) = V.bl (!decide (x = y)) by rw [h2])⟩
theorem ex_eq {α : Type} [Dat α] [DecidableEq α] [Flat α] {x y : α} (ha : EX X a env x) (hb : EX X b env y) : EX X (.Compare a [.Eq] [b] pos) env (decide (x = y)) := ex_cmp op_eq ha hb rv_eqF (nomark _)
theorem ex_ne {α : Type} [Dat α] [DecidableEq α] [Flat α] {x y : α} (ha : EX X a env x) (hb : EX X b env y) : EX X (.Compare a [.NotEq] [b] pos) env (!decide (x = y)) := ex_cmp op_ne ha hb rv_neF (nomark _)
theorem et_eq {α : Type} [Dat α] [DecidableEq α] [Flat α] {x y : α} (ha : EX X a env x) (hb : EX X b env y) : ET X (.Compare a [.Eq] [b] pos) env (decide (x = y)) := et_cmp op_eq ha hb rv_eqF (nomark _)
theorem et_ne {α : Type} [Dat α] [DecidableEq α] [Flat α] {x y : α} (ha : EX X a env x) (hb : EX X b env y) : ET X (.Compare a [.NotEq] [b] pos) env (!decide (x = y)) := et_cmp op_ne ha hb rv_neF (nomark _)
/-! and, or, not, if-else -/
theorem et_val {k : Bool} (h : EX X e env k) (he : ∀ whole, isTrue e X.env whole = (do let v ← whole; standAt e.pos; holding [v] (truthy v)) := by intro _; rfl) : ET X e env k := et_of (pt_val (mE X e) he) fun O fp σ H S Q q => h O fp σ H S _ fun v H' e r => ⟨k, r, q H' e⟩
theorem ew_and1 {k : Bool} (h : ET X a env k) : EW X (.BoolOp .And [a] pos) env k := ew_of (pw_and1 (mT X a)) h
theorem ew_or1 {k : Bool} (h : ET X a env k) : EW X (.BoolOp .Or [a] pos) env k := ew_of (pw_or1 (mT X a)) h
theorem ew_and {k j : Bool} (h : ET X a env k) (hr : k = true → EW X (.BoolOp .And (b :: es) pos) env j) : EW X (.BoolOp .And (a :: b :: es) pos) env (k && j) := ew_of (pw_and (mT X a) (mW X _)) fun O fp σ H S Q q => h O fp σ H S _ fun H1 e1 => by
  cases k with
  | true =>
    show tW X _ σ H1 Q
    exact hr rfl O fp σ H1 (S.ex e1) Q fun H2 e2 => q H2 (e1.trans e2)
  | false =>
    show Q false H1
    exact q H1 e1
theorem ew_or {k j : Bool} (h : ET X a env k) (hr : k = false → EW X (.BoolOp .Or (b :: es) pos) env j) : EW X (.BoolOp .Or (a :: b :: es) pos) env (k || j) := ew_of (pw_or (mT X a) (mW X _)) fun O fp σ H S Q q => h O fp σ H S _ fun H1 e1 => by
  cases k with
  | false =>
    show tW X _ σ H1 Q
    exact hr rfl O fp σ H1 (S.ex e1) Q fun H2 e2 => q H2 (e1.trans e2)
  | true =>
    show Q true H1
    exact q H1 e1
theorem et_bool {k : Bool} (h : EW X e env k) : ET X e env k := et_of (PW.pt (mW X e)) h
theorem et_not {k : Bool} (h : ET X a env k) : ET X (.UnaryOp .Not a pos) env (!k) := et_of (pt_not (mT X a)) fun O fp σ H S Q q => h O fp σ H S _ fun H1 e1 => q H1 e1
theorem ex_one {op} (h : EX X a env x) : EX X (.BoolOp op [a] pos) env x := ex_of (pe_one (mE X a)) h
theorem ex_and {k j : Bool} (h : EX X a env k) (hr : k = true → EX X (.BoolOp .And (b :: es) pos) env j) : EX X (.BoolOp .And (a :: b :: es) pos) env (k && j) := ex_of (pe_and (mE X a) (mE X _)) fun O fp σ H S Q q => h O fp σ H S _ fun v H1 e1 r1 => ⟨k, r1, by
  cases k with
  | true =>
    show tE X _ σ H1 Q
    exact hr rfl O fp σ H1 (S.ex e1) Q fun v2 H2 e2 r2 => q v2 H2 (e1.trans e2) r2
  | false =>
    show Q (.bl false) H1
    exact q _ H1 e1 rfl⟩
theorem ex_or {k j : Bool} (h : EX X a env k) (hr : k = false → EX X (.BoolOp .Or (b :: es) pos) env j) : EX X (.BoolOp .Or (a :: b :: es) pos) env (k || j) := ex_of (pe_or (mE X a) (mE X _)) fun O fp σ H S Q q => h O fp σ H S _ fun v H1 e1 r1 => ⟨k, r1, by
  cases k with
  | false =>
    show tE X _ σ H1 Q
    exact hr rfl O fp σ H1 (S.ex e1) Q fun v2 H2 e2 r2 => q v2 H2 (e1.trans e2) r2
  | true =>
    show Q (.bl true) H1
    exact q _ H1 e1 rfl⟩
theorem ex_not {k : Bool} (h : EX X a env k) : EX X (.UnaryOp .Not a pos) env (!k) := ex_of (pe_not (mE X a)) fun O fp σ H S Q q => h O fp σ H S _ fun v H1 e1 r1 => ⟨k, r1, q _ H1 e1 rfl⟩
theorem ex_if {k : Bool} {z w : α} (h : ET X c env k) (h1 : k = true → EX X a env z) (h2 : k = false → EX X b env w) : EX X (.IfExp c a b pos) env (cond k z w) := ex_of (pe_ifExp (mT X c) (mE X a) (mE X b)) fun O fp σ H S Q q => h O fp σ H S _ fun H1 e1 => by
  cases k with
  | true =>
    show tE X a σ H1 Q
    exact h1 rfl O fp σ H1 (S.ex e1) Q fun v2 H2 e2 r2 => q v2 H2 (e1.trans e2) r2
  | false =>
    show tE X b σ H1 Q
    exact h2 rfl O fp σ H1 (S.ex e1) Q fun v2 H2 e2 r2 => q v2 H2 (e1.trans e2) r2
/-! argument lists, tuples, lists -/
theorem ea_nil : EA X [] env [] := ea_of pa_nil fun O fp σ H S Q q => q [] H (Ex.refl H) trivial
theorem ea_cons {xs : List Sl} (h : EX X e env x) (hr : EA X es env xs) (hs : starEach (e :: es) X.env = (false, eval e X.env) :: starEach es X.env := by exact star_plain rfl _ _) : EA X (e :: es) env (Sl.dat x :: xs) := ea_of (pa_cons (mE X e) (mA X es) hs) fun O fp σ H S Q q => h O fp σ H S _ fun v H1 e1 r1 => hr O fp σ H1 (S.ex e1) _ fun vs H2 e2 r2 => q _ H2 (e1.trans e2) ⟨Dat.mono (wo_ex e2).le r1, r2⟩
theorem sz_of {n : Nat} (h : n ≤ 100000) : n ≤ sizeLine := Nat.le_trans h (by decide)
theorem upd_out {H : Hp} {U : Addr → Prop} {p : Addr} {o : HO} (h : ¬ U p) : wo (upd H p o) U p = some o := by rw [wo_out h, upd_same]
theorem ex_tup {τ : Type} [Dat τ] [T : Tup τ] {p : τ} {j : Nat} (h : EA X es env (T.comps p)) (hl : (T.comps p).length ≤ 100000 := by exact Nat.le_of_ble_eq_true rfl) : EX X (.Tuple es j pos) env p := ex_of (pe_tup (mA X _)) fun O fp σ H S Q q => h O fp σ H S _ fun vs H1 e1 r1 => by
  refine ⟨sz_of (by rw [r1.length]; exact hl), fun u hu => ?_⟩
  have e2 : Ex H1 (upd H1 u (.tup vs)) := Ex.new hu
  have np := (S.ex e1).fresh hu
  exact q _ _ (e1.trans e2) (by rw [T.is]; exact ⟨u, vs, rfl, .inl (.inl (upd_out np)), r1.mono (wo_ex e2).le⟩)
/-- t[k] of a tuple, k written -/
theorem ex_ixT {τ : Type} [Dat τ] [T : Tup τ] {p : τ} {k : Nat} (h : EX X a env p) (hb : EX X b env (k : Int)) (g : (T.comps p)[k]? = some (.dat x)) (hs : PlainIx b := by exact fun _ _ => rfl) : EX X (.Subscript a b pos) env x := ex_of (pe_ix ix_tup (mE X a) (mE X _) hs) (ev_op h hb fun U v1 v2 H _ r1 r2 Q q => by
  rw [T.is] at r1
  obtain ⟨p, vs, e, t, r⟩ := r1
  obtain ⟨v, hv, rv⟩ := r.get g
  exact ⟨p, vs, k, v, e, r2, wo_le.tup t, atI_nat hv, q _ H (Ex.refl H) rv⟩)
theorem ex_fst {p : α × β} {j : Nat} {pos' : Pos} (h : EX X a env p) : EX X (.Subscript a (.Constant (.int 0) j pos') pos) env p.1 := ex_ixT (k := 0) h ex_int rfl
theorem ex_snd {p : α × β} {j : Nat} {pos' : Pos} (h : EX X a env p) : EX X (.Subscript a (.Constant (.int 1) j pos') pos) env p.2 := ex_ixT (k := 1) h ex_int rfl
end
end R
set_option maxHeartbeats 2000000
set_option autoImplicit false
namespace R
open PySem PySem.Spec PyProof.Rows L2
/-! ### statements -/
/-- what comes back: data, or something new of one's own -/
class Res (ρ : Type) where
  inn : PySem.W.Frag → Hp → Hp → (Addr → Prop) → V → ρ → Prop
  out : PySem.W.Frag → (Addr → Prop) → Hp → Hp → V → ρ → Prop
  mono : ∀ {K : PySem.W.Frag} {Hf Hf' Hc Hc' : Hp} {own : Addr → Prop} {v : V} {r : ρ}, Le Hf Hf' → (∀ a, own a → Hc' a = Hc a) → inn K Hf Hc own v r → inn K Hf' Hc' own v r
  conv : ∀ {K : PySem.W.Frag} {O : Addr → Prop} {fp : Nat → List Addr} {H H' : Hp} {v : V} {r : ρ}, (∀ a, (∃ i, a ∈ fp i) → H a = none) → (∀ a, (∃ i, a ∈ fp i) → ∃ o, H' a = some o) → inn K (wo H' (UU O fp)) H' (fun a => ∃ i, a ∈ fp i) v r → out K O H H' v r
instance {α : Type} [Dat α] : Res α := ⟨fun K Hf _ _ v r => Dat.rep K Hf v r, fun K O _ H' v r => Dat.rep K (wo H' O) v r, fun h _ q => Dat.mono h q, fun _ _ q => Dat.mono (wo_mono fun _ z => .inl z).le q⟩
instance {β : Type} [Own β] : Res β := ⟨fun K Hf Hc own v r => ∃ L : List Addr, (∀ a ∈ L, own a) ∧ Own.own K Hf Hc v L r,
  fun K O H H' v r => ∃ L : List Addr, (∀ a ∈ L, H a = none) ∧ (∀ a ∈ L, ∃ o, H' a = some o) ∧ Own.own K (wo H' (fun a => O a ∨ a ∈ L)) H' v L r,
  fun h hc ⟨L, h1, h2⟩ => ⟨L, h1, Own.frame h (fun a ha => hc a (h1 a ha)) h2⟩,
  fun h1 h2 ⟨L, h3, h4⟩ => ⟨L, fun a ha => h1 a (h3 a ha), fun a ha => h2 a (h3 a ha), Own.frame (wo_mono fun a z => z.elim .inl fun z => .inr (h3 a z)).le (fun _ _ => rfl) h4⟩⟩
/-- what is raised: a class by its name; the two with fields -/
inductive Exn where
  | one (c : Str)
  | clash (numbers : List Int) (weights : List (Int × Int))
  | stuck (way : Str) (numbers : List Int) (weights : List (Int × Int))
def ExAt (mg : Str → Option Value) (K : PySem.W.Frag) (Hf : Hp) (e : Exn) (cls : Value) (d : Option Addr) : Prop := match e with
  | .one c => mg c = some cls ∧ d = none
  | .clash ns ws => mg "Clash" = some cls ∧ ∃ dx v1 v2, d = some dx ∧ Hf dx = some (.xd [("numbers", v1), ("weights", v2)]) ∧ Dat.rep K Hf v1 ns ∧ Dat.rep K Hf v2 ws
  | .stuck w ns ws => mg "Stuck" = some cls ∧ ∃ dx v0 v1 v2, d = some dx ∧ Hf dx = some (.xd [("direction", v0), ("numbers", v1), ("weights", v2)]) ∧ Dat.rep K Hf v0 w ∧ Dat.rep K Hf v1 ns ∧ Dat.rep K Hf v2 ws
structure Po (ρ : Type) where
  N : Env' → Prop
  R : ρ → Env' → Prop
  X : Exn → Env' → Prop := fun _ _ => False
  B : Env' → Prop := fun _ => False
  C : Env' → Prop := fun _ => False
def Keep (fp : Nat → List Addr) (H : Hp) (fp' : Nat → List Addr) (H' : Hp) : Prop :=
  (∀ a o, (¬ ∃ i, a ∈ fp i) → H a = some o → H' a = some o) ∧ ∀ i a, a ∈ fp' i → (∃ j, a ∈ fp j) ∨ H a = none
section
variable {K : PySem.W.Frag} {O : Addr → Prop} {fp fp' fp1 : Nat → List Addr} {H H' H1 : Hp}
theorem Keep.refl : Keep fp H fp H := ⟨fun _ _ _ h => h, fun i a h => .inl ⟨i, h⟩⟩
theorem Keep.ex (e : Ex H H') : Keep fp H fp H' := ⟨fun a o _ h => e a o h, fun i a h => .inl ⟨i, h⟩⟩
theorem Keep.trans (a : Keep fp H fp1 H1) (b : Keep fp1 H1 fp' H') : Keep fp H fp' H' := by
  refine ⟨fun x o n h => b.1 x o (fun ⟨i, hi⟩ => ?_) (a.1 x o n h), fun i x h => ?_⟩
  · rcases a.2 i x hi with z | z
    · exact n z
    · rw [h] at z; cases z
  · rcases b.2 i x h with ⟨j, z⟩ | z
    · exact a.2 j x z
    · by_cases n : ∃ j, x ∈ fp j
      · exact .inl n
      · refine .inr ?_
        cases q : H x with
        | none => rfl
        | some o =>
          rw [a.1 x o n q] at z
          cases z
/-- what was frozen is so still -/
theorem Keep.frz (k : Keep fp H fp' H') : Ex (wo H (UU O fp)) (wo H' (UU O fp')) := fun a o h => by
  obtain ⟨n, q⟩ := wo_some h
  have n1 : ¬ O a := fun z => n (.inl z)
  have n2 : ¬ ∃ i, a ∈ fp i := fun z => n (.inr z)
  rw [wo_out]
  · exact k.1 a o n2 q
  · rintro (z | ⟨i, z⟩)
    · exact n1 z
    · rcases k.2 i a z with y | y
      · exact n2 y
      · rw [q] at y; cases y
end
structure Goes {ρ : Type} [Res ρ] (K : PySem.W.Frag) (mg : Str → Option Value) (W : WX) (po : Po ρ) (O : Addr → Prop) (fp : Nat → List Addr) (H : Hp) (D : Ends) : Prop where
  nx : ∀ env' fp' σ' H', po.N env' → Keep fp H fp' H' → SOk K O fp' env' σ' H' → D.nx σ' H'
  rt : ∀ r env' fp' σ' v H', po.R r env' → Keep fp H fp' H' → SOk K O fp' env' σ' H' → Res.inn K (wo H' (UU O fp')) H' (fun a => ∃ i, a ∈ fp' i) v r → D.rt v H'
  ex : ∀ e env' fp' σ' cls d H', po.X e env' → Keep fp H fp' H' → SOk K O fp' env' σ' H' → ExAt mg K (wo H' (UU O fp')) e cls d → W cls d σ' H'
  bk : ∀ env' fp' σ' H', po.B env' → Keep fp H fp' H' → SOk K O fp' env' σ' H' → D.bk σ' H'
  ct : ∀ env' fp' σ' H', po.C env' → Keep fp H fp' H' → SOk K O fp' env' σ' H' → D.ct σ' H'
def SvS {ρ : Type} [Res ρ] (K : PySem.W.Frag) (mg : Str → Option Value) (W : WX) (t : TS) (env : Env') (po : Po ρ) : Prop :=
  ∀ O fp σ H, SOk K O fp env σ H → ∀ D, Goes K mg W po O fp H D → t D σ H
def SX {ρ : Type} [Res ρ] (X : Cx) (W : WX) (sts : List Stmt) (env : Env') (po : Po ρ) : Prop := SvS X.K X.mg W (tSs X sts) env po
def S1 {ρ : Type} [Res ρ] (X : Cx) (W : WX) (st : Stmt) (env : Env') (po : Po ρ) : Prop := SvS X.K X.mg W (tS X st) env po
/-- what is known less -/
def Sub : Env' → Env' → Prop
  | [], [] => True
  | s :: a, t :: b => (t = .any ∨ s = t) ∧ Sub a b
  | _, _ => False
theorem Sub.refl : ∀ e : Env', Sub e e
  | [] => trivial
  | _ :: e => ⟨.inr rfl, Sub.refl e⟩
theorem Sub.len : ∀ {a b : Env'}, Sub a b → a.length = b.length
  | [], [], _ => rfl
  | _ :: a, _ :: b, h => congrArg (· + 1) (Sub.len (a := a) (b := b) h.2)
  | [], _ :: _, h => h.elim
  | _ :: _, [], h => h.elim
theorem Sub.get : ∀ {a b : Env'} {i : Nat} {s : Sl}, Sub a b → b[i]? = some s → s = .any ∨ a[i]? = some s
  | [], [], i, s, _, q => by simp at q
  | x :: a, y :: b, 0, s, h, q => by
    have q : y = s := by simpa using q
    subst q
    rcases h.1 with z | z
    · exact .inl z
    · exact .inr (by simp [z])
  | x :: a, y :: b, i + 1, s, h, q => by
    have := Sub.get (a := a) (b := b) (i := i) (s := s) h.2 (by simpa using q)
    simpa using this
  | [], _ :: _, _, _, h, _ => h.elim
  | _ :: _, [], _, _, h, _ => h.elim
theorem SOk.sub {K : PySem.W.Frag} {O : Addr → Prop} {fp : Nat → List Addr} {env env' : Env'} {σ : L2.St} {H : Hp} (S : SOk K O fp env σ H) (h : Sub env env') : SOk K O fp env' σ H where
  len := S.len.trans h.len
  bnd := S.bnd
  fpO := S.fpO
  sep := S.sep
  dom := S.dom
  sl := fun i s q => by
    rcases h.get q with z | z
    · subst z; exact trivial
    · exact S.sl i s z
/-- a slot gets data -/
theorem SOk.set {α : Type} [Dat α] {K : PySem.W.Frag} {O : Addr → Prop} {fp : Nat → List Addr} {env : Env'} {σ : L2.St} {H : Hp} {x : α} {v : V} (S : SOk K O fp env σ H) (i : Nat) (h : Dat.rep K (wo H (UU O fp)) v x) : SOk K O fp (env.set i (.dat x)) (σ.set i (some v)) H where
  len := by rw [List.length_set, List.length_set]; exact S.len
  bnd := S.bnd
  fpO := S.fpO
  sep := S.sep
  dom := S.dom
  sl := fun j s q => by
    by_cases e : i = j
    · subst e
      have hi : i < env.length := by
        have := (List.getElem?_eq_some_iff.mp q).1
        simpa using this
      rw [List.getElem?_set_self hi] at q
      cases q
      exact ⟨v, by rw [List.getElem?_set_self (by rw [S.len]; exact hi)], h⟩
    · rw [List.getElem?_set_ne e] at q ⊢
      exact S.sl j s q
/-- a slot is forgotten -/
theorem SOk.forget {K : PySem.W.Frag} {O : Addr → Prop} {fp : Nat → List Addr} {env : Env'} {σ : L2.St} {H : Hp} {o : Option V} (S : SOk K O fp env σ H) (i : Nat) : SOk K O fp (env.set i .any) (σ.set i o) H where
  len := by rw [List.length_set, List.length_set]; exact S.len
  bnd := S.bnd
  fpO := S.fpO
  sep := S.sep
  dom := S.dom
  sl := fun j s q => by
    by_cases e : i = j
    · subst e
      have hi : i < env.length := by
        have := (List.getElem?_eq_some_iff.mp q).1
        simpa using this
      rw [List.getElem?_set_self hi] at q
      cases q
      exact trivial
    · rw [List.getElem?_set_ne e] at q ⊢
      exact S.sl j s q
/-- targets -/
def GX {α : Type} [Dat α] (X : Cx) (tg : Expr) (x : α) (env env' : Env') : Prop :=
  ∀ O fp σ H v, SOk X.K O fp env σ H → Dat.rep X.K (wo H (UU O fp)) v x → ∀ Q : L2.St → Hp → Prop, (∀ σ', SOk X.K O fp env' σ' H → Q σ' H) → tG X tg v σ H Q
section
variable {X : Cx} {K : PySem.W.Frag} {mg : Str → Option Value} {W : WX} {env env' : Env'} {ρ α β γ : Type} [Res ρ] [Dat α] [Dat β] [Dat γ] {po : Po ρ} {x : α} {y : β} {z : γ} {e a b c tg : Expr} {es : List Expr} {t ta tb tc : TE} {pos p2 : Pos} {st : Stmt} {sts rest thn els body : List Stmt}
section
variable {O : Addr → Prop} {fp fp' : Nat → List Addr} {H H' : Hp} {D : Ends}
theorem Goes.step (G : Goes K mg W po O fp H D) (k : Keep fp H fp' H') : Goes K mg W po O fp' H' D :=
  ⟨fun e f s h p q => G.nx e f s h p (k.trans q), fun r e f s v h p q => G.rt r e f s v h p (k.trans q), fun x e f s c d h p q => G.ex x e f s c d h p (k.trans q), fun e f s h p q => G.bk e f s h p (k.trans q), fun e f s h p q => G.ct e f s h p (k.trans q)⟩
end
theorem mG (X : Cx) (tg : Expr) : PG X tg (tG X tg) := ⟨fun pins s σ H v u Q I r h => tG_run h pins s u I r⟩
theorem gx_of {g : TG} (p : PG X tg g) (h : ∀ O fp σ H v, SOk X.K O fp env σ H → Dat.rep X.K (wo H (UU O fp)) v x → ∀ Q : L2.St → Hp → Prop, (∀ σ', SOk X.K O fp env' σ' H → Q σ' H) → g v σ H Q) : GX X tg x env env' :=
  fun O fp σ H v S r Q q => tG_of fun pins s u I ru => p.run pins s σ H v u Q I ru (h O fp σ H v S r Q q)
theorem gx_name {i : Nat} {n : Str} {pos : Pos} (hN : X.N.Nodup) (hi : X.N[i]? = some n := by rfl) (hx : Loc X.env.scope n := by first | exact Or.inl rfl | exact Or.inr rfl) (hf : X.fn n = true ∨ X.env.scope.names.lookup n = some .local := by first | exact .inl rfl | exact .inr rfl | assumption) :
    GX X (.Name n pos) x env (env.set i (.dat x)) := gx_of (pg_name hN hi hx hf) fun O fp σ H v S r Q q => q _ (S.set i r)
def tGs (X : Cx) (es : List Expr) : TGs := fun vs σ H Q => ∀ (pins : List (Addr × Obj)) (s : Shared) (us : List Value), Inv X pins σ H s → Vals vs us → wpAny (model X.prog X.w) X.A (assignInOrder ((assignEach es X.env).map (·.2)) us) (fun _ s' => ∃ σ' H', Inv X pins σ' H' s' ∧ Q σ' H') X.xe s
theorem mGs (X : Cx) (es : List Expr) : PGs X es (tGs X es) := ⟨fun pins s σ H vs us Q I r h => h pins s us I r⟩
def GXs (X : Cx) (es : List Expr) (xs : List Sl) (env env' : Env') : Prop :=
  ∀ O fp σ H vs, SOk X.K O fp env σ H → ARep X.K (wo H (UU O fp)) vs xs → ∀ Q : L2.St → Hp → Prop, (∀ σ', SOk X.K O fp env' σ' H → Q σ' H) → tGs X es vs σ H Q
theorem gxs_nil : GXs X [] [] env env := fun O fp σ H vs S r Q q pins s us I ru => by
  match vs, r with
  | [], _ => exact pgs_nil.run pins s σ H [] us Q I ru ⟨rfl, q σ S⟩
theorem gxs_cons {xs : List Sl} {env1 env2 : Env'} (h1 : GX X a x env env1) (h2 : GXs X es xs env1 env2) (hs : (assignEach (a :: es) X.env).map (·.2) = assign a X.env :: (assignEach es X.env).map (·.2) := by rfl) : GXs X (a :: es) (.dat x :: xs) env env2 := fun O fp σ H vs S r Q q pins s us I ru => by
  match vs, r with
  | v :: vr, ⟨r1, r2⟩ => exact (pgs_cons (mG X a) (mGs X es) hs).run pins s σ H (v :: vr) us Q I ru ⟨v, vr, rfl, h1 O fp σ H v S r1 _ fun σ1 S1 => h2 O fp σ1 H vr S1 r2 Q q⟩
theorem gx_tup {τ : Type} [Dat τ] [T : Tup τ] {p : τ} {k : Nat} (hc : X.calm = true) (h : GXs X es (T.comps p) env env') (hn : (assignEach es X.env).length = (T.comps p).length := by rfl) (hst : (assignEach es X.env).findIdx? (·.1) = none := by rfl) : GX X (.Tuple es k pos) p env env' :=
  gx_of (pg_tup hc (mGs X es) hn hst) fun O fp σ H v S r Q q => by
    rw [T.is] at r
    obtain ⟨ad, vs, e, t, r1⟩ := r
    exact ⟨ad, vs, e, wo_le.tup t, r1.length, h O fp σ H vs S r1 Q q⟩
theorem sx_of {t : TS} (p : PSs X sts t) (h : SvS X.K X.mg W t env po) : SX X W sts env po := fun O fp σ H S D G => tSs_of fun pins s I => p.run pins s σ H D I (h O fp σ H S D G)
theorem s1_of {t : TS} (p : PS X st t) (h : SvS X.K X.mg W t env po) : S1 X W st env po := fun O fp σ H S D G => tS_of fun pins s I => p.run pins s σ H D I (h O fp σ H S D G)
theorem sx_nil (h : po.N env) : SX X W [] env po := sx_of pss_nil fun O fp σ H S D G => G.nx env fp σ H h Keep.refl S
theorem sx_cons (M : Env' → Prop) (h1 : S1 X W st env { po with N := M }) (h2 : ∀ e, M e → SX X W rest e po) : SX X W (st :: rest) env po :=
  sx_of (pss_cons (mS X st) (mSs X rest)) fun O fp σ H S D G => h1 O fp σ H S _ ⟨fun e f s h m k S2 => h2 e m O f s h S2 D (G.step k), G.rt, G.ex, G.bk, G.ct⟩
/-- a statement that hands on -/
theorem sx_step {t : TS} (p : PS X st t) (h : ∀ O fp σ H, SOk X.K O fp env σ H → ∀ D : Ends, (∀ fp' σ' H', Keep fp H fp' H' → SOk X.K O fp' env' σ' H' → D.nx σ' H') → t D σ H) (h2 : SX X W rest env' po) : SX X W (st :: rest) env po :=
  sx_cons (fun e => e = env') (s1_of p fun O fp σ H S D G => h O fp σ H S D fun fp' σ' H' k S' => G.nx env' fp' σ' H' rfl k S') fun e he => he ▸ h2
theorem sx_sub (h : Sub env env') (h2 : SX X W sts env' po) : SX X W sts env po := fun O fp σ H S => h2 O fp σ H (S.sub h)
theorem SX.imp {po' : Po ρ} (h : SX X W sts env po) (n : ∀ e, po.N e → po'.N e) (r : ∀ x e, po.R x e → po'.R x e) (x : ∀ i e, po.X i e → po'.X i e) (b : ∀ e, po.B e → po'.B e) (c : ∀ e, po.C e → po'.C e) : SX X W sts env po' :=
  fun O fp σ H S D G => h O fp σ H S D ⟨fun e f s h m => G.nx e f s h (n e m), fun i e f s v h m => G.rt i e f s v h (r i e m), fun i e f s c d h m => G.ex i e f s c d h (x i e m), fun e f s h m => G.bk e f s h (b e m), fun e f s h m => G.ct e f s h (c e m)⟩
theorem sx_pass (h : SX X W rest env po) : SX X W (.Pass pos :: rest) env po := sx_step ps_pass (fun O fp σ H S D q => q fp σ H Keep.refl S) h
theorem sx_asg (he : EX X e env x) (hg : GX X tg x env env') (h : SX X W rest env' po) (hs : swapsWithSole [tg] e pos.line X.env = pure false := by rfl) (hw : swappedStores [tg] e X.env = pure none := by rfl) (h1 : (assignEach [tg] X.env).map (·.2) = [assign tg X.env] := by rfl) : SX X W (.Assign [tg] e pos :: rest) env po :=
  sx_step (ps_asg (mE X e) (mG X tg) hs hw h1) (fun O fp σ H S D q => he O fp σ H S _ fun v H1 e1 r1 => hg O fp σ H1 v (S.ex e1) r1 _ fun σ' S' => q fp σ' H1 (Keep.ex e1) S') h
theorem sx_set {i : Nat} {n : Str} (hN : X.N.Nodup) (he : EX X e env x) (h : SX X W rest (env.set i (.dat x)) po) (hi : X.N[i]? = some n := by rfl) (hx : Loc X.env.scope n := by first | exact Or.inl rfl | exact Or.inr rfl) (hs : swapsWith e (some (.Name n p2)) pos.line X.env = pure false := by rfl) (hf : X.fn n = true ∨ X.env.scope.names.lookup n = some .local := by first | exact .inl rfl | exact .inr rfl | assumption) :
    SX X W (.Assign [.Name n p2] e pos :: rest) env po :=
  sx_step (ps_set hN hi hx (mE X e) hs hf) (fun O fp σ H S D q => he O fp σ H S _ fun v H1 e1 r1 => q fp _ H1 (Keep.ex e1) ((S.ex e1).set i r1)) h
/-- a, b = e1, e2 -/
theorem sx_par {i j : Nat} {n m : Str} {px py pt : Pos} {kt k2 : Nat} {pt2 : Pos} (hc : X.calm = true) (hN : X.N.Nodup) (h : EA X [a, b] env [Sl.dat x, Sl.dat y]) (hr : SX X W rest ((env.set i (.dat x)).set j (.dat y)) po) (hij : i ≠ j := by decide)
    (hi : X.N[i]? = some n := by rfl) (hj : X.N[j]? = some m := by rfl) (lx : X.env.scope.names.lookup n = some .local := by rfl) (ly : X.env.scope.names.lookup m = some .local := by rfl) (hw : swappedStores [.Tuple [.Name n px, .Name m py] kt pt] (.Tuple [a, b] k2 pt2) X.env = pure (some [n, m]) := by rfl)
    (hs : swapsWithSole [.Tuple [.Name n px, .Name m py] kt pt] (.Tuple [a, b] k2 pt2) pos.line X.env = pure false := by rfl) (h1 : starEach [a, b] X.env = [(false, eval a X.env), (false, eval b X.env)] := by rfl) : SX X W (.Assign [.Tuple [.Name n px, .Name m py] kt pt] (.Tuple [a, b] k2 pt2) pos :: rest) env po :=
  sx_step (ps_par hc hN hi hj hij lx ly (mA X _) hw hs) (fun O fp σ H S D q => h O fp σ H S _ fun vs H1 e1 r1 => by
    match vs, r1 with
    | [v, w], ⟨h1, h2, _⟩ => exact ⟨v, w, rfl, q fp _ H1 (Keep.ex e1) (((S.ex e1).set i h1).set j h2)⟩) hr
theorem sx_ret (he : EX X e env x) {po : Po α} (h : po.R x env) : SX X W [.Return (some e) pos] env po :=
  sx_of (pss_one (ps_ret (mE X e))) fun O fp σ H S D G => he O fp σ H S _ fun v H1 e1 r1 => G.rt x env fp σ v H1 h (Keep.ex e1) (S.ex e1) r1
theorem sx_retN {po : Po Unit} (h : po.R () env) : SX X W [.Return none pos] env po :=
  sx_of (pss_one ps_retN) fun O fp σ H S D G => G.rt () env fp σ .non H h Keep.refl S rfl
theorem sx_expr (he : EX X e env x) (h : SX X W rest env po) (hs : swapsWith e none pos.line X.env = pure false := by rfl) : SX X W (.Expr e pos :: rest) env po :=
  sx_step (ps_expr (mE X e) hs) (fun O fp σ H S D q => he O fp σ H S _ fun v H1 e1 r1 => q fp σ H1 (Keep.ex e1) (S.ex e1)) h
theorem sx_break (h : po.B env) : SX X W [.Break pos] env po := sx_of (pss_one ps_break) fun O fp σ H S D G => G.bk env fp σ H h Keep.refl S
theorem sx_continue (h : po.C env) : SX X W [.Continue pos] env po := sx_of (pss_one ps_continue) fun O fp σ H S D G => G.ct env fp σ H h Keep.refl S
theorem sx_if {k : Bool} (M : Env' → Prop) (hc : ET X c env k) (h1 : k = true → SX X W thn env { po with N := M }) (h2 : k = false → SX X W els env { po with N := M }) (hr : ∀ e, M e → SX X W rest e po) : SX X W (.If c thn els pos :: rest) env po :=
  sx_cons M (s1_of (ps_if (mT X c) (mSs X thn) (mSs X els)) fun O fp σ H S D G => hc O fp σ H S _ fun H1 e1 => by
    cases k with
    | true =>
      show tSs X thn D σ H1
      exact h1 rfl O fp σ H1 (S.ex e1) D (G.step (Keep.ex e1))
    | false =>
      show tSs X els D σ H1
      exact h2 rfl O fp σ H1 (S.ex e1) D (G.step (Keep.ex e1))) hr
/-- if c: .. return -/
theorem sx_ifr {k : Bool} (hc : ET X c env k) (h1 : k = true → SX X W thn env { po with N := fun _ => False }) (hr : k = false → SX X W rest env po) : SX X W (.If c thn [] pos :: rest) env po :=
  sx_if (fun e => e = env ∧ k = false) hc (fun z => (h1 z).imp (fun _ h => h.elim) (fun _ _ h => h) (fun _ _ h => h) (fun _ h => h) (fun _ h => h)) (fun z => sx_nil ⟨rfl, z⟩) fun e ⟨he, z⟩ => by subst he; exact hr z
/-- if c: .. return / else: .. return -/
theorem sx_ife {k : Bool} (hc : ET X c env k) (h1 : k = true → SX X W thn env { po with N := fun _ => False }) (h2 : k = false → SX X W els env { po with N := fun _ => False }) : SX X W (.If c thn els pos :: rest) env po :=
  sx_if (fun _ => False) hc h1 h2 fun e h => h.elim
/-- if c: .. / else: .., the ways meet -/
theorem sx_ifj {k : Bool} (F : Bool → Env') (hc : ET X c env k) (h1 : k = true → SX X W thn env { po with N := fun e => Sub e (F true) }) (h2 : k = false → SX X W els env { po with N := fun e => Sub e (F false) }) (hr : SX X W rest (F k) po) : SX X W (.If c thn els pos :: rest) env po :=
  sx_if (fun e => Sub e (F k)) hc (fun z => by rw [z]; exact h1 z) (fun z => by rw [z]; exact h2 z) fun e h => sx_sub h hr
theorem sx_while {S : Type} (mk : S → Env') (I : S → Prop) (μ : S → Nat) (M : Env' → Prop) (s0 : S) (hp : PassesOwn (model X.prog X.w) X.A X.env X.xe) (h0 : Sub env (mk s0)) (hI : I s0)
    (hs : ∀ s, I s → ∃ k, ET X c (mk s) k ∧ (k = true → SX X W body (mk s) { po with N := fun e => ∃ s', Sub e (mk s') ∧ I s' ∧ μ s' < μ s, C := fun e => ∃ s', Sub e (mk s') ∧ I s' ∧ μ s' < μ s, B := M }) ∧ (k = false → SX X W rest (mk s) po))
    (hb : ∀ e, M e → SX X W rest e po) : SX X W (.While c body [] pos :: rest) env po :=
  sx_cons (fun e => M e ∨ ∃ s, Sub e (mk s) ∧ SX X W rest (mk s) po) (s1_of (ps_while hp (mT X c) (mSs X body)) fun O fp σ H S D G => by
    refine ⟨fun m σ' H' => ∃ s fp', m = μ s ∧ I s ∧ Keep fp H fp' H' ∧ SOk X.K O fp' (mk s) σ' H', ⟨μ s0, s0, fp, rfl, hI, Keep.refl, S.sub h0⟩, ?_⟩
    rintro m σ1 H1 ⟨s, fp1, rfl, Is, k1, S1⟩
    obtain ⟨k, ht, hy, hn⟩ := hs s Is
    refine ht O fp1 σ1 H1 S1 _ fun H2 e2 => ?_
    cases k with
    | true =>
      show ∃ N : L2.St → Hp → Prop, _ ∧ _
      refine ⟨fun σ' H' => ∃ s' fp', I s' ∧ μ s' < μ s ∧ Keep fp H fp' H' ∧ SOk X.K O fp' (mk s') σ' H', fun σ' H' ⟨s', fp', a, b, c, d⟩ => ⟨μ s', b, s', fp', rfl, a, c, d⟩, ?_⟩
      have kk : Keep fp H fp1 H2 := k1.trans (Keep.ex e2)
      refine hy rfl O fp1 σ1 H2 (S1.ex e2) _ ⟨fun e f s2 h ⟨s', sb, a, b⟩ q S' => ⟨s', f, a, b, kk.trans q, S'.sub sb⟩, fun r e f s2 v h p q => G.rt r e f s2 v h p (kk.trans q), fun x e f s2 c d h p q => G.ex x e f s2 c d h p (kk.trans q), fun e f s2 h p q S' => G.nx e f s2 h (.inl p) (kk.trans q) S', fun e f s2 h ⟨s', sb, a, b⟩ q S' => ⟨s', f, a, b, kk.trans q, S'.sub sb⟩⟩
    | false =>
      show D.nx σ1 H2
      exact G.nx (mk s) fp1 σ1 H2 (.inr ⟨s, Sub.refl _, hn rfl⟩) (k1.trans (Keep.ex e2)) (S1.ex e2)) fun e h => by
  rcases h with h | ⟨s, h, q⟩
  · exact hb e h
  · exact sx_sub h q
end
end R
set_option maxHeartbeats 2000000
set_option autoImplicit false
namespace R
open PySem PySem.Spec PyProof.Rows L2
/-! ### defs -/
/-- the promise of a def that changes nothing: args, what comes back, what is raised -/
abbrev Phi (ρ : Type) := List Sl → (ρ → Prop) → (Exn → Prop) → Prop
def spP {ρ : Type} [Res ρ] (K : PySem.W.Frag) (mg : Str → Option Value) (n : Nat) (Φ : Phi ρ) : Sp := fun vs H Q E =>
  vs.length = n ∧ ∃ O args R Xp, Φ args R Xp ∧ SOk K O nofp args (vs.map some) H ∧
    (∀ r v H', R r → Ex H H' → Res.out K O H H' v r → Q v H') ∧ (∀ e cls d H', Xp e → Ex H H' → ExAt mg K (wo H' O) e cls d → E cls d H')
theorem Keep.ex_of {H H' : Hp} {fp' : Nat → List Addr} (k : Keep nofp H fp' H') : Ex H H' := fun a o h => k.1 a o (fun ⟨i, z⟩ => by cases z) h
theorem SOk.pad {K : PySem.W.Frag} {O : Addr → Prop} {args : Env'} {vs : List V} {H : Hp} (S : SOk K O nofp args (vs.map some) H) (n : Nat) : SOk K O nofp (args ++ List.replicate n .any) (vs.map some ++ List.replicate n none) H where
  len := by simp [S.len] <;> simpa using S.len
  bnd := S.bnd
  fpO := S.fpO
  sep := S.sep
  dom := S.dom
  sl := fun i s q => by
    have hl : vs.length = args.length := by simpa using S.len
    by_cases h : i < args.length
    · rw [List.getElem?_append_left h] at q
      rw [List.getElem?_append_left (by simpa [hl] using h)]
      exact S.sl i s q
    · rw [List.getElem?_append_right (by omega)] at q
      have := List.mem_of_getElem? q
      rw [List.mem_replicate] at this
      rw [this.2]
      exact trivial
section
variable {P : Program} {w : World} {K : PySem.W.Frag} {mg : Str → Option Value} {base : Heap} {ρ : Type} [Res ρ]
/-- the context of a def's body -/
abbrev cxX (P : Program) (w : World) (K : PySem.W.Frag) (mg : Str → Option Value) (base : Heap) (N : List Str) (qual : Str) (scope : Scope) (f : Addr) (cd : Value) (A : Around) (outer : List PySem.Env) (s : Shared) (H : Hp) (E : XK) : Cx := cxOf (L2.CX P w) P w K mg base N qual scope f cd A outer s H E
theorem fn_ok {x qual : Str} {st : Stmt} {f : Addr} {fd : FuncData} {N ps : List Str} {k n : Nat} {Φ : Phi ρ} (F : Fun K x qual st f fd) (S : FnScope N ps (defScope st)) (hn : ps.length = n)
    (hb : ∀ (args : Env') (Rp : ρ → Prop) (Xp : Exn → Prop), Φ args Rp Xp → args.length = n → ∀ (cdv : Value) (A : Around) (outer : List PySem.Env) (s : Shared) (H : Hp) (E : XK) (W : WX), Room k (A.deeper (envOfC qual (defScope st) s.heap.objs.size f cdv)) → Takes (cxX P w K mg base N qual (defScope st) f cdv A outer s H E) W →
      SX (cxX P w K mg base N qual (defScope st) f cdv A outer s H E) W (defBody st) (args ++ List.replicate (N.length - n) .any) { N := fun _ => ∃ r, Rp r ∧ ∀ O H H', Res.out K O H H' .non r, R := fun r _ => Rp r, X := fun e _ => Xp e }) :
    FnOk P w K mg base (L2.CX P w) (k + 1) f fd ps (spP K mg n Φ) := by
  refine F.okX S (fun vs H Q E h => h.1.trans hn.symm) fun cdv A outer s H vs Q E hr h => ?_
  obtain ⟨hl, O, args, Rp, Xp, ph, SS, hq, he⟩ := h
  have hlen : args.length = n := by
    have := SS.len
    rw [List.length_map] at this
    omega
  refine ⟨tSs _ _, mSs _ _, ?_⟩
  have tk : Takes (cxOf (L2.CX P w) P w K mg base N qual (defScope st) f cdv A outer s H E) (fun cls d _ H => E cls d H) := takes_of rfl rfl rfl rfl
  refine hb args Rp Xp ph hlen cdv A outer s H E (fun cls d _ H => E cls d H) hr tk O nofp _ H ?_ _ ?_
  · have := SS.pad (N.length - n)
    rw [show L2.start N vs = vs.map some ++ List.replicate (N.length - n) none from by unfold L2.start; rw [hl]]
    exact this
  · refine ⟨fun e fp' σ' H' ⟨r, h1, h2⟩ kp S' => ?_, fun r e fp' σ' v H' h1 kp S' rp => ?_, fun x e fp' σ' cls d H' h1 kp S' xa => ?_, fun _ _ _ _ h => h.elim, fun _ _ _ _ h => h.elim⟩
    · exact hq r .non H' h1 kp.ex_of (h2 _ _ _)
    · exact hq r v H' h1 kp.ex_of (Res.conv (fun a ⟨i, z⟩ => (kp.2 i a z).elim (fun ⟨j, y⟩ => by cases y) id) (fun a ⟨i, z⟩ => S'.dom i a z) rp)
    · refine he x cls d H' h1 kp.ex_of ?_
      have le : Ex (wo H' (UU O fp')) (wo H' O) := wo_mono fun a z => .inl z
      cases x with
      | one c => exact xa
      | clash ns ws =>
        obtain ⟨m, dx, v1, v2, a, b, c, d⟩ := xa
        exact ⟨m, dx, v1, v2, a, le _ _ b, Dat.mono le.le c, Dat.mono le.le d⟩
      | stuck y ns ws =>
        obtain ⟨m, dx, v0, v1, v2, a, b, b', c, d⟩ := xa
        exact ⟨m, dx, v0, v1, v2, a, le _ _ b, Dat.mono le.le b', Dat.mono le.le c, Dat.mono le.le d⟩
end
/-- a def that may be called by its name -/
structure DefOk (P : Program) (w : World) (K : PySem.W.Frag) (mg : Str → Option Value) (base : Heap) (n : Str) (k : Nat) (ps : List Str) (dvs : List V) (sp : Sp) : Prop where
  ex : ∃ f fd ds, FnOk P w K mg base (L2.CX P w) k f fd ps sp ∧ mg n = some (.ref f) ∧ PySem.W.keepIn K (.ref f) = true ∧ Binds K fd ps ds ∧ Vals dvs ds
/-- what may raise -/
def EXX {α : Type} [Dat α] (X : Cx) (W : WX) (e : Expr) (env : Env') (Rp : α → Prop) (Xp : Exn → Prop) : Prop :=
  ∀ O fp σ H, SOk X.K O fp env σ H → ∀ Q : VK, (∀ r v H', Rp r → Ex H H' → Dat.rep X.K (wo H' (UU O fp)) v r → Q v H') → (∀ x cls d H', Xp x → Ex H H' → ExAt X.mg X.K (wo H' (UU O fp)) x cls d → W cls d σ H') → tE X e σ H Q
theorem ARep.sok {K : PySem.W.Frag} {H : Hp} {U : Addr → Prop} (bnd : ∀ a, U a → ∃ o, H a = some o) {vs : List V} {xs : List Sl} (h : ARep K (wo H U) vs xs) : SOk K U nofp xs (vs.map some) H where
  len := by rw [List.length_map]; exact h.length
  bnd := bnd
  fpO := fun i a z => by cases z
  sep := fun i j a z => by cases z
  dom := fun i a z => by cases z
  sl := by
    rw [uu_no]
    intro i s q
    have : ∀ {vs : List V} {xs : List Sl} {i : Nat} {s : Sl}, ARep K (wo H U) vs xs → xs[i]? = some s → SlOk K (wo H U) H ((vs.map some)[i]?) (nofp i) s := by
      intro vs
      induction vs with
      | nil => intro xs i s h q; cases xs with | nil => simp at q | cons _ _ => simp [ARep] at h
      | cons v vs ih =>
        intro xs i s h q
        match xs, h with
        | .dat (i := jj) x :: xs, h =>
          cases i with
          | zero =>
            have q : Sl.dat (i := jj) x = s := by simpa using q
            subst q
            exact ⟨v, rfl, h.1⟩
          | succ i =>
            have := ih (xs := xs) (i := i) (s := s) h.2 (by simpa using q)
            simpa [nofp] using this
        | .any :: xs, h => simp [ARep] at h
        | .own (i := _) _ :: xs, h => simp [ARep] at h
        | [], h => simp [ARep] at h
    exact this h q
section
variable {X : Cx} {W : WX} {env env' : Env'} {ρ α β γ : Type} [Res ρ] [Dat α] [Dat β] [Dat γ] {po : Po ρ} {x : α} {y : β} {z : γ} {e a b c tg : Expr} {es : List Expr} {pos p p2 : Pos} {rest : List Stmt}
theorem dvs_rep {K : PySem.W.Frag} {H : Hp} {vs dvs : List V} {xs dxs : List Sl} (h : ARep K H vs xs) (hd : ARep K H dvs dxs) : ARep K H (vs ++ dvs) (xs ++ dxs) := by
  induction vs generalizing xs with
  | nil => cases xs with | nil => exact hd | cons _ _ => simp [ARep] at h
  | cons v vs ih =>
    match xs, h with
    | .dat (i := jj) x :: xs, h => exact ⟨h.1, ih h.2⟩
    | .any :: xs, h => simp [ARep] at h
    | .own (i := _) _ :: xs, h => simp [ARep] at h
    | [], h => simp [ARep] at h
/-- f(..) of a def that raises nothing here -/
theorem ex_call {ρ : Type} [Dat ρ] {n : Str} {k m : Nat} {ps : List Str} {dvs : List V} {dxs xs : List Sl} {Φ : Phi ρ} {r : ρ} (d : DefOk X.prog X.w X.K X.mg X.base n k ps dvs (spP X.K X.mg m Φ)) (hr : Room k X.A) (ha : EA X (e :: es) env xs) (hΦ : Φ (xs ++ dxs) (fun r' => r' = r) (fun _ => False)) (hd : ∀ H, ARep X.K H dvs dxs)
    (hl : (xs ++ dxs).length = m := by rfl) (hg : Gl X n := by rfl) (hdb : (n == ("__debug__" : Str)) = false := by decide) (he : starEach (e :: es) X.env = (false, eval e X.env) :: starEach es X.env := by exact star_plain rfl _ _) (hpl : (backTo pos (starEach es X.env)).any (·.1) = false := by exact star_pl rfl) : EX X (.Call (.Name n p) (e :: es) [] pos) env r := by
  obtain ⟨f, fd, ds, F, hm, hk, hb, hv⟩ := d.ex
  refine ex_of (pe_call F hr hg hm hk hb hv passL (mA X _) hdb he hpl) fun O fp σ H S Q q => ha O fp σ H S _ fun vs H1 e1 r1 => ?_
  have r2 := dvs_rep r1 (hd _)
  have S2 := ARep.sok (S.ex e1).bndU r2
  exact ⟨by rw [r2.length]; exact hl, UU O fp, xs ++ dxs, _, _, hΦ, S2, fun r' v H' hr' e2 rp => by subst hr'; exact q v H' (e1.trans e2) rp, fun _ _ _ _ h => h.elim⟩
/-- f(..) of a def that may raise -/
theorem exx_call {ρ : Type} [Dat ρ] {n : Str} {k m : Nat} {ps : List Str} {xs : List Sl} {Φ : Phi ρ} {Rp : ρ → Prop} {Xp : Exn → Prop} (tk : Takes X W) (d : DefOk X.prog X.w X.K X.mg X.base n k ps [] (spP X.K X.mg m Φ)) (hr : Room k X.A) (ha : EA X (e :: es) env xs) (hΦ : Φ xs Rp Xp)
    (hl : xs.length = m := by rfl) (hg : Gl X n := by rfl) (hdb : (n == ("__debug__" : Str)) = false := by decide) (he : starEach (e :: es) X.env = (false, eval e X.env) :: starEach es X.env := by exact star_plain rfl _ _) (hpl : (backTo pos (starEach es X.env)).any (·.1) = false := by exact star_pl rfl) : EXX X W (.Call (.Name n p) (e :: es) [] pos) env Rp Xp := by
  obtain ⟨f, fd, ds, F, hm, hk, hb, hv⟩ := d.ex
  cases hv
  intro O fp σ H S Q q qx
  refine tE_of fun pins s I => (pe_callS F hr hg hm hk hb (fun σ => passAt tk σ) (mA X _) hdb he hpl).run pins s σ H Q I (ha O fp σ H S _ fun vs H1 e1 r1 => ?_)
  have S2 := ARep.sok (S.ex e1).bndU r1
  exact ⟨by rw [r1.length]; exact hl, UU O fp, xs, _, _, hΦ, S2, fun r' v H' hr' e2 rp => q r' v H' hr' (e1.trans e2) rp, fun x cls d H' hx e2 xa => qx x cls d H' hx (e1.trans e2) xa⟩
theorem EX.xx (h : EX X e env x) : EXX X W e env (fun r => r = x) (fun _ => False) := fun O fp σ H S Q q _ => h O fp σ H S Q fun v H' e r => q x v H' rfl e r
/-- x = e, e may raise -/
theorem sx_setX {i : Nat} {n : Str} {Rp : α → Prop} {Xp : Exn → Prop} (hN : X.N.Nodup) (he : EXX X W e env Rp Xp) (h : ∀ r, Rp r → SX X W rest (env.set i (.dat r)) po) (hx : ∀ x, Xp x → po.X x env) (hi : X.N[i]? = some n := by rfl) (hL : Loc X.env.scope n := by first | exact Or.inl rfl | exact Or.inr rfl) (hs : swapsWith e (some (.Name n p2)) pos.line X.env = pure false := by rfl) (hf : X.fn n = true ∨ X.env.scope.names.lookup n = some .local := by first | exact .inl rfl | exact .inr rfl | assumption) :
    SX X W (.Assign [.Name n p2] e pos :: rest) env po :=
  sx_cons (fun e' => ∃ r, Rp r ∧ e' = env.set i (.dat r)) (s1_of (ps_set hN hi hL (mE X e) hs hf) fun O fp σ H S D G => he O fp σ H S _ (fun r v H1 hr e1 r1 => G.nx _ fp _ H1 ⟨r, hr, rfl⟩ (Keep.ex e1) ((S.ex e1).set i r1)) fun x cls d H1 hx1 e1 xa => G.ex x env fp σ cls d H1 (hx x hx1) (Keep.ex e1) (S.ex e1) xa) fun e' ⟨r, hr, q⟩ => by subst q; exact h r hr
theorem sx_retX {Rp : α → Prop} {Xp : Exn → Prop} {po : Po α} (he : EXX X W e env Rp Xp) (h : ∀ r, Rp r → po.R r env) (hx : ∀ x, Xp x → po.X x env) : SX X W [.Return (some e) pos] env po :=
  sx_of (pss_one (ps_ret (mE X e))) fun O fp σ H S D G => he O fp σ H S _ (fun r v H1 hr e1 r1 => G.rt r env fp σ v H1 (h r hr) (Keep.ex e1) (S.ex e1) r1) fun x cls d H1 hx1 e1 xa => G.ex x env fp σ cls d H1 (hx x hx1) (Keep.ex e1) (S.ex e1) xa
theorem sx_exprX {Rp : α → Prop} {Xp : Exn → Prop} (he : EXX X W e env Rp Xp) (h : ∀ r, Rp r → SX X W rest env po) (hx : ∀ x, Xp x → po.X x env) (hs : swapsWith e none pos.line X.env = pure false := by rfl) : SX X W (.Expr e pos :: rest) env po :=
  sx_cons (fun e' => (∃ r, Rp r) ∧ e' = env) (s1_of (ps_expr (mE X e) hs) fun O fp σ H S D G => he O fp σ H S _ (fun r v H1 hr e1 r1 => G.nx env fp σ H1 ⟨⟨r, hr⟩, rfl⟩ (Keep.ex e1) (S.ex e1)) fun x cls d H1 hx1 e1 xa => G.ex x env fp σ cls d H1 (hx x hx1) (Keep.ex e1) (S.ex e1) xa) fun e' ⟨⟨r, hr⟩, q⟩ => by subst q; exact h r hr
/-- what the text's own error classes are, without fields -/
structure ErrC (K : PySem.W.Frag) (mg : Str → Option Value) (n : Str) : Prop where
  ex : ∃ C, mg n = some (.ref C) ∧ PySem.W.excIn K C [.type "ValueError", .type "Exception", .type "BaseException", .type "object"] "ValueError.__new__" = true ∧ PySem.W.keepIn K (.ref C) = true ∧ PySem.W.subIn K (.ref C) (.type "BaseException") = some true ∧ PySem.W.typeIn K (.ref C) = some (.type "type")
/-- raise C('..') -/
theorem sx_raise {n : Str} {m : Str} {j : Nat} {p0 : Pos} (hc : X.calm = true) (tk : Takes X W) (T : ErrC X.K X.mg n) (h : po.X (.one n) env) (hg : Gl X n := by rfl) (hdb : (n == ("__debug__" : Str)) = false := by decide) : SX X W (.Raise (some (.Call (.Name n p) [.Constant (.str m) j p2] [] p0)) none pos :: rest) env po := by
  obtain ⟨C, gC, xC, kC, bC, tC⟩ := T.ex
  exact sx_cons (fun _ => False) (s1_of (ps_raise hc tk (pmk_own PySem.F.excBase_ValueError xC gC kC (raises_own bC tC) hg hdb)) fun O fp σ H S D G => G.ex (.one n) env fp σ (.ref C) none H h Keep.refl S ⟨gC, rfl⟩) fun _ z => z.elim
/-! ### built-ins -/
theorem ex_callB {id : String} {n : Str} {r : List V → Hp → VK → Prop} {xs : List Sl} (hc : CallR X (.builtin id) r) (hm : X.mg n = none) (hv : bootBuiltins n = some (.builtin id)) (ha : EA X (e :: es) env xs) (hr : RC X.K r xs z) (hg : Gl X n := by rfl) (hn : n ≠ "__name__" := by decide) (hdb : (n == ("__debug__" : Str)) = false := by decide)
    (he : starEach (e :: es) X.env = (false, eval e X.env) :: starEach es X.env := by exact star_plain rfl _ _) (hpl : (backTo pos (starEach es X.env)).any (·.1) = false := by exact star_pl rfl) : EX X (.Call (.Name n p) (e :: es) [] pos) env z :=
  ex_of (pe_callB hc hg hm hv (mA X _) hn hdb he hpl) fun O fp σ H S Q q => ha O fp σ H S _ fun vs H1 e1 r1 => hr (UU O fp) vs H1 (S.ex e1).bndU r1 Q fun v H2 e2 r2 => q v H2 (e1.trans e2) r2
theorem ex_callTy {id : String} {n : Str} {r : List V → Hp → VK → Prop} {xs : List Sl} (hc : CallR X (.type id) r) (hm : X.mg n = none) (hv : bootBuiltins n = some (.type id)) (ha : EA X (e :: es) env xs) (hr : RC X.K r xs z) (hg : Gl X n := by rfl) (hn : n ≠ "__name__" := by decide) (hdb : (n == ("__debug__" : Str)) = false := by decide)
    (he : starEach (e :: es) X.env = (false, eval e X.env) :: starEach es X.env := by exact star_plain rfl _ _) (hpl : (backTo pos (starEach es X.env)).any (·.1) = false := by exact star_pl rfl) : EX X (.Call (.Name n p) (e :: es) [] pos) env z :=
  ex_of (pe_callTy hc hg hm hv (mA X _) hn hdb he hpl) fun O fp σ H S Q q => ha O fp σ H S _ fun vs H1 e1 r1 => hr (UU O fp) vs H1 (S.ex e1).bndU r1 Q fun v H2 e2 r2 => q v H2 (e1.trans e2) r2
theorem rc1 {K : PySem.W.Frag} {r : List V → Hp → VK → Prop} (h : ∀ (U : Addr → Prop) (v : V) (H : Hp), (∀ a, U a → ∃ o, H a = some o) → Dat.rep K (wo H U) v x → ∀ Q : VK, (∀ v H', Ex H H' → Dat.rep K (wo H' U) v z → Q v H') → r [v] H Q) : RC K r [.dat x] z := fun U vs H bn ar Q q => by
  match vs, ar with
  | [v], ⟨h1, _⟩ => exact h U v H bn h1 Q q
theorem rc2 {K : PySem.W.Frag} {r : List V → Hp → VK → Prop} (h : ∀ (U : Addr → Prop) (v u : V) (H : Hp), (∀ a, U a → ∃ o, H a = some o) → Dat.rep K (wo H U) v x → Dat.rep K (wo H U) u y → ∀ Q : VK, (∀ v H', Ex H H' → Dat.rep K (wo H' U) v z → Q v H') → r [v, u] H Q) : RC K r [.dat x, .dat y] z := fun U vs H bn ar Q q => by
  match vs, ar with
  | [v, u], ⟨h1, h2, _⟩ => exact h U v u H bn h1 h2 Q q
theorem ea1 (h : EX X e env x) (hs : starEach [e] X.env = (false, eval e X.env) :: starEach [] X.env := by exact star_plain rfl _ _) : EA X [e] env [.dat x] := ea_cons h ea_nil hs
def absI (i : Int) : Int := if i < 0 then -i else i
theorem ex_abs {i : Int} (hm : X.mg "abs" = none) (h : EX X a env i) (he : starEach [a] X.env = (false, eval a X.env) :: starEach [] X.env := by exact star_plain rfl _ _) (hpl : (backTo pos (starEach [] X.env)).any (·.1) = false := by exact star_pl rfl) (hg : Gl X "abs" := by rfl) : EX X (.Call (.Name "abs" p) [a] [] pos) env (absI i) :=
  ex_callB call_abs hm (by decide +kernel) (ea1 h he) (rc1 fun U v H bn r Q q => ⟨i, by rw [show v = .int i from r], q _ H (Ex.refl H) rfl⟩) hg (by decide) (by decide) he hpl
theorem ex_len {xs : List α} (hm : X.mg "len" = none) (h : EX X a env xs) (he : starEach [a] X.env = (false, eval a X.env) :: starEach [] X.env := by exact star_plain rfl _ _) (hpl : (backTo pos (starEach [] X.env)).any (·.1) = false := by exact star_pl rfl) (hg : Gl X "len" := by rfl) : EX X (.Call (.Name "len" p) [a] [] pos) env (xs.length : Int) :=
  ex_callB call_len_seq hm PySem.boot_len (ea1 h he) (rc1 fun U v H bn r Q q => by
    obtain ⟨ad, vs, e, l, rl⟩ := r
    exact ⟨ad, vs, by rw [e], .inl (wo_le.lst l), q _ H (Ex.refl H) (show V.int _ = V.int _ by rw [Paired.length rl])⟩) hg (by decide) (by decide) he hpl
theorem ex_lenT {τ : Type} [Dat τ] [T : Tup τ] {t : τ} {n : Int} (hm : X.mg "len" = none) (h : EX X a env t) (hn : ((T.comps t).length : Int) = n := by rfl) (he : starEach [a] X.env = (false, eval a X.env) :: starEach [] X.env := by exact star_plain rfl _ _) (hpl : (backTo pos (starEach [] X.env)).any (·.1) = false := by exact star_pl rfl) (hg : Gl X "len" := by rfl) : EX X (.Call (.Name "len" p) [a] [] pos) env n :=
  ex_callB call_len_seq hm PySem.boot_len (ea1 h he) (rc1 fun U v H bn r Q q => by
    rw [T.is] at r
    obtain ⟨ad, vs, e, l, rl⟩ := r
    exact ⟨ad, vs, by rw [e], .inr (wo_le.tup l), q _ H (Ex.refl H) (show V.int _ = V.int _ by rw [rl.length, hn])⟩) hg (by decide) (by decide) he hpl
theorem repL.get {K : PySem.W.Frag} {H : Hp} : ∀ {vs : List V} {xs : List α} {i : Nat} {x : α}, repL K H vs xs → xs[i]? = some x → ∃ v, vs[i]? = some v ∧ Dat.rep K H v x
  | _, _, i, x, .nil, q => by simp at q
  | _ :: _, y :: _, 0, x, .cons r t, q => by
    have q : y = x := by simpa using q
    subst q
    exact ⟨_, rfl, r⟩
  | _, _, i + 1, x, .cons r t, q => by
    have := repL.get (i := i) (x := x) t (by simpa using q)
    simpa using this
/-- xs[i] of a list, i from 0 on -/
theorem ex_ixL {xs : List α} {i : Int} (h : EX X a env xs) (hb : EX X b env i) (g : 0 ≤ i ∧ xs[i.toNat]? = some x) (hs : PlainIx b := by exact fun _ _ => rfl) : EX X (.Subscript a b pos) env x := ex_of (pe_ix ix_list (mE X a) (mE X _) hs) (ev_op h hb fun U v1 v2 H _ r1 r2 Q q => by
  obtain ⟨p, vs, e, t, r⟩ := r1
  obtain ⟨v, hv, rv⟩ := r.get g.2
  exact ⟨p, vs, i, v, e, r2, wo_le.lst t, by rw [← Int.toNat_of_nonneg g.1]; exact atI_nat hv, q _ H (Ex.refl H) rv⟩)
end
end R
set_option maxHeartbeats 2000000
set_option autoImplicit false
namespace R
open PySem PySem.Spec PyProof.Rows L2
/-! ### results of defs that may raise -/
def outP {ρ : Type} (Rp : ρ → Prop) (Xp : Exn → Prop) : Except Exn ρ → Prop
  | .ok r => Rp r
  | .error e => Xp e
theorem outP_self {ρ : Type} {o : Except Exn ρ} : outP (fun r => o = .ok r) (fun e => o = .error e) o := by cases o <;> rfl
theorem bind_ok {ρ σ : Type} {Rp : ρ → Prop} {Xp : Exn → Prop} {o : Except Exn σ} {x : σ} {k : σ → Except Exn ρ} (h : o = .ok x) (q : outP Rp Xp (o.bind k)) : outP Rp Xp (k x) := by subst h; exact q
theorem bind_err {ρ σ : Type} {Rp : ρ → Prop} {Xp : Exn → Prop} {o : Except Exn σ} {x : Exn} {k : σ → Except Exn ρ} (h : o = .error x) (q : outP Rp Xp (o.bind k)) : Xp x := by subst h; exact q
theorem cond_t {α : Type} {P : α → Prop} {c : Bool} {x y : α} (h : c = true) (q : P (cond c x y)) : P x := by subst h; exact q
theorem cond_f {α : Type} {P : α → Prop} {c : Bool} {x y : α} (h : c = false) (q : P (cond c x y)) : P y := by subst h; exact q
/-! ### what is walked -/
/-- from H1 on: at turn i the item xs[i], then it stops -/
def Yields {α : Type} [Dat α] (K : PySem.W.Frag) (J : It) (U : Addr → Prop) (H1 : Hp) (xs : List α) : Prop :=
  ∀ H' U', (∀ a, U' a → ∃ o, H' a = some o) → Ex (wo H1 U) (wo H' U') → ∀ i, (∀ x, xs[i]? = some x → J.go i H' ∧ ∀ v H'', J.yld i H' v H'' → Ex H' H'' ∧ Dat.rep K (wo H'' U') v x) ∧ (xs.length ≤ i → J.stop i H')
/-- the greatest reading of an iterable -/
@[irreducible] def tI (X : Cx) (tg iter : Expr) : TI := fun σ H R => ∀ pins s, Inv X pins σ H s → wpAny (model X.prog X.w) X.A (eval iter X.env) (fun v s1 => wpAny (model X.prog X.w) X.A (pyIter v) (PIE X pins σ tg R) X.xe s1) X.xe s
theorem tI_of {X : Cx} {tg iter : Expr} {σ : L2.St} {H : Hp} {R : It → Hp → Prop} (h : ∀ pins s, Inv X pins σ H s → wpAny (model X.prog X.w) X.A (eval iter X.env) (fun v s1 => wpAny (model X.prog X.w) X.A (pyIter v) (PIE X pins σ tg R) X.xe s1) X.xe s) : tI X tg iter σ H R := by unfold tI; exact h
theorem tI_run {X : Cx} {tg iter : Expr} {σ : L2.St} {H : Hp} {R : It → Hp → Prop} (h : tI X tg iter σ H R) : ∀ pins s, Inv X pins σ H s → wpAny (model X.prog X.w) X.A (eval iter X.env) (fun v s1 => wpAny (model X.prog X.w) X.A (pyIter v) (PIE X pins σ tg R) X.xe s1) X.xe s := by unfold tI at h; exact h
theorem mI (X : Cx) (tg iter : Expr) : PI X tg iter (tI X tg iter) := ⟨fun pins s _ _ _ I h => tI_run h pins s I⟩
def IX {α : Type} [Dat α] (X : Cx) (tg iter : Expr) (env : Env') (xs : List α) : Prop :=
  ∀ O fp σ H, SOk X.K O fp env σ H → ∀ R : It → Hp → Prop, (∀ J H1, Ex H H1 → Yields X.K J (UU O fp) H1 xs → R J H1) → tI X tg iter σ H R
section
variable {X : Cx} {W : WX} {env env' : Env'} {ρ α β γ : Type} [Res ρ] [Dat α] [Dat β] [Dat γ] {po : Po ρ} {x : α} {y : β} {z : γ} {e a b c tg iter : Expr} {es : List Expr} {pos p p2 : Pos} {rest body : List Stmt} {xs : List α}
theorem ix_of {wi : TI} (p : PI X tg iter wi) (h : ∀ O fp σ H, SOk X.K O fp env σ H → ∀ R : It → Hp → Prop, (∀ J H1, Ex H H1 → Yields X.K J (UU O fp) H1 xs → R J H1) → wi σ H R) : IX X tg iter env xs := fun O fp σ H S R r => tI_of fun pins s I => p.run pins s σ H R I (h O fp σ H S R r)
/-- a list that stands still -/
theorem ix_list (h : EX X iter env xs) : IX X tg iter env xs := ix_of (pi_list (mE X iter)) fun O fp σ H S R r => h O fp σ H S _ fun v H1 e1 rp => by
  obtain ⟨ad, vs, e, l, rl⟩ := rp
  refine ⟨ad, e, ⟨vs, wo_le.lst l⟩, r _ H1 e1 fun H' U' bn ex i => ⟨fun x hx => ?_, fun hi => ?_⟩⟩
  · obtain ⟨v, hv, rv⟩ := rl.get hx
    have l' : SqL X.K H' ad vs := wo_le.lst (ex.le.lst l)
    refine ⟨⟨vs, v, l', hv⟩, fun u H'' ⟨q1, q2⟩ => ?_⟩
    subst q1
    have := q2 vs l'
    rw [hv] at this
    cases this
    exact ⟨Ex.refl _, Dat.mono ex.le rv⟩
  · exact ⟨vs, wo_le.lst (ex.le.lst l), by rw [Paired.length rl]; exact hi⟩
/-- range(n) -/
def rangeI (n : Int) : List Int := (List.range n.toNat).map Int.ofNat
def rangeAB (a b : Int) : List Int := (List.range (b - a).toNat).map fun (k : Nat) => a + (k : Int)
theorem yields_range {K : PySem.W.Frag} {U : Addr → Prop} {H1 : Hp} (lo : Int) (n : Nat) : Yields K (Itr lo n) U H1 ((List.range n).map fun (k : Nat) => lo + (k : Int)) := fun H' U' bn ex i => by
  refine ⟨fun x hx => ?_, fun hi => (by simpa using hi : n ≤ i)⟩
  rw [List.getElem?_map] at hx
  by_cases hi : i < n
  · rw [List.getElem?_range hi] at hx
    have hx : lo + (i : Int) = x := by simpa using hx
    exact ⟨hi, fun v H'' ⟨q1, q2⟩ => by subst q1 q2 hx; exact ⟨Ex.refl _, rfl⟩⟩
  · rw [List.getElem?_eq_none (by simpa using hi)] at hx
    cases hx
theorem rangeI_eq (n : Int) : rangeI n = (List.range n.toNat).map fun (k : Nat) => (0 : Int) + (k : Int) := by
  unfold rangeI
  refine List.map_congr_left fun k _ => ?_
  simp
theorem ix_range1 {n : Int} (hm : X.mg "range" = none) (h : EX X a env n) (hn : -(2 ^ 62) ≤ n ∧ n < 2 ^ 62) (hg : Gl X "range" := by rfl) (hs : starEach [a] X.env = [(false, eval a X.env)] := by exact star_plain rfl _ _) : IX X tg (.Call (.Name "range" p) [a] [] pos) env (rangeI n) :=
  ix_of (pi_range1 hg hm (mA X _) hs) fun O fp σ H S R r => ea1 h hs O fp σ H S _ fun vs H1 e1 ar => by
    match vs, ar with
    | [v], ⟨h1, _⟩ =>
      have h1 : v = .int n := h1
      subst h1
      refine ⟨n, rfl, hn.1, hn.2, r _ H1 e1 ?_⟩
      rw [rangeI_eq]
      exact yields_range 0 n.toNat
theorem ix_range2 {n m : Int} (hm : X.mg "range" = none) (h : EX X a env n) (h' : EX X b env m) (hn : -(2 ^ 62) ≤ n ∧ n < 2 ^ 62 ∧ -(2 ^ 62) ≤ m ∧ m < 2 ^ 62) (hg : Gl X "range" := by rfl) (hs : starEach [a, b] X.env = [(false, eval a X.env), (false, eval b X.env)] := by rfl) (hs2 : starEach [b] X.env = [(false, eval b X.env)] := by exact star_plain rfl _ _) : IX X tg (.Call (.Name "range" p) [a, b] [] pos) env (rangeAB n m) :=
  ix_of (pi_range2 hg hm (mA X _) hs hs2) fun O fp σ H S R r => ea_cons h (ea_cons h' ea_nil hs2) (by rw [hs, hs2]) O fp σ H S _ fun vs H1 e1 ar => by
    match vs, ar with
    | [v, u], ⟨h1, h2, _⟩ =>
      have h1 : v = .int n := h1
      have h2 : u = .int m := h2
      subst h1 h2
      exact ⟨n, m, rfl, hn, r _ H1 e1 (yields_range n (m - n).toNat)⟩
/-! ### for -/
def okFold {S τ : Type} (okb : S → τ → Prop) (step : S → τ → S) : S → List τ → Prop
  | _, [] => True
  | s, x :: xs => okb s x ∧ okFold okb step (step s x) xs
theorem drop_cons {τ : Type} {xs : List τ} {i : Nat} {x : τ} {r : List τ} (h : xs.drop i = x :: r) : xs[i]? = some x ∧ xs.drop (i + 1) = r ∧ i < xs.length := by
  have hi : i < xs.length := by
    by_cases q : i < xs.length
    · exact q
    · rw [List.drop_eq_nil_of_le (by omega)] at h; cases h
  rw [List.drop_eq_getElem_cons hi] at h
  injection h with h1 h2
  exact ⟨by rw [List.getElem?_eq_getElem hi, h1], h2, hi⟩
/-- the heart of the for rule, at one state -/
theorem for_core {S : Type} (u : S → Env') (I : List α → S → Prop) (M : Env' → Prop) (s0 : S) {O : Addr → Prop} {fp : Nat → List Addr} {σ : L2.St} {H : Hp} {D : Ends} (S' : SOk X.K O fp env σ H) (hi : ∀ R : It → Hp → Prop, (∀ J H1, Ex H H1 → Yields X.K J (UU O fp) H1 xs → R J H1) → tI X tg iter σ H R) (h0 : Sub env (u s0)) (hI : I xs s0)
    (hb : ∀ x r s, I (x :: r) s → ∃ e1, GX X tg x (u s) e1 ∧ SX X W body e1 { po with N := fun e => ∃ s', Sub e (u s') ∧ I r s', C := fun e => ∃ s', Sub e (u s') ∧ I r s', B := M })
    (G : Goes X.K X.mg W { po with N := fun e => M e ∨ ∃ s, Sub e (u s) ∧ I [] s } O fp H D) : tFor (tI X tg iter) (tG X tg) (tSs X body) D σ H := by
    refine hi _ fun J H1 e1 yl => ?_
    refine ⟨fun i m σ' H' => ∃ s fp', m = xs.length - i ∧ i ≤ xs.length ∧ I (xs.drop i) s ∧ Keep fp H1 fp' H' ∧ SOk X.K O fp' (u s) σ' H', ⟨xs.length, s0, fp, by simp, Nat.zero_le _, hI, Keep.refl, (S'.ex e1).sub h0⟩, ?_⟩
    rintro i m σ1 H2 ⟨s, fp1, rfl, hle, Is, k1, S1⟩
    obtain ⟨y1, y2⟩ := yl H2 (UU O fp1) S1.bndU k1.frz i
    cases hr : xs.drop i with
    | nil =>
      have : xs.length ≤ i := by
        have := congrArg List.length hr
        simp at this
        omega
      rw [hr] at Is
      exact .inl ⟨y2 this, G.nx (u s) fp1 σ1 H2 (.inr ⟨s, Sub.refl _, Is⟩) ((Keep.ex e1).trans k1) S1⟩
    | cons x r =>
      obtain ⟨gx, gr, gl⟩ := drop_cons hr
      obtain ⟨go, yy⟩ := y1 x gx
      rw [hr] at Is
      obtain ⟨en, hg, hbd⟩ := hb x r s Is
      refine .inr ⟨go, fun σ' H' => ∃ s' fp', I r s' ∧ Keep fp H1 fp' H' ∧ SOk X.K O fp' (u s') σ' H', fun σ' H' ⟨s', fp', a, b, c⟩ => ⟨xs.length - (i + 1), by omega, s', fp', rfl, gl, by rw [gr]; exact a, b, c⟩, fun v H3 yv => ?_⟩
      obtain ⟨e3, rv⟩ := yy v H3 yv
      refine hg O fp1 σ1 H3 v (S1.ex e3) rv _ fun σ4 S4 => ?_
      have kk : Keep fp H1 fp1 H3 := k1.trans (Keep.ex e3)
      have kh : Keep fp H fp1 H3 := (Keep.ex e1).trans kk
      exact hbd O fp1 σ4 H3 S4 _ ⟨fun e f s2 h ⟨s', sb, a⟩ q S' => ⟨s', f, a, kk.trans q, S'.sub sb⟩, fun r e f s2 v h p q => G.rt r e f s2 v h p (kh.trans q), fun x e f s2 c d h p q => G.ex x e f s2 c d h p (kh.trans q), fun e f s2 h p q S' => G.nx e f s2 h (.inl p) (kh.trans q) S', fun e f s2 h ⟨s', sb, a⟩ q S' => ⟨s', f, a, kk.trans q, S'.sub sb⟩⟩
/-- the for rule: I of what is still to come and the state -/
theorem sx_for {S : Type} (u : S → Env') (I : List α → S → Prop) (M : Env' → Prop) (s0 : S) (hc : X.calm = true) (hp : PassesOwn (model X.prog X.w) X.A X.env X.xe) (hi : IX X tg iter env xs) (h0 : Sub env (u s0)) (hI : I xs s0)
    (hb : ∀ x r s, I (x :: r) s → ∃ e1, GX X tg x (u s) e1 ∧ SX X W body e1 { po with N := fun e => ∃ s', Sub e (u s') ∧ I r s', C := fun e => ∃ s', Sub e (u s') ∧ I r s', B := M })
    (hd : ∀ s, I [] s → SX X W rest (u s) po) (hM : ∀ e, M e → SX X W rest e po) (hs : ∀ x, foldedSetIterable iter X.env x = pure x := by intro _; rfl) : SX X W (.For tg iter body [] pos :: rest) env po :=
  sx_cons (fun e => M e ∨ ∃ s, Sub e (u s) ∧ I [] s) (s1_of (ps_for hp hc (mI X tg iter) (mG X tg) (mSs X body) hs) fun O fp σ H S' D G => for_core u I M s0 S' (hi O fp σ H S') h0 hI hb G) fun e h => by
  rcases h with h | ⟨s, h, q⟩
  · exact hM e h
  · exact sx_sub h (hd s q)
/-- a loop that runs through: a fold -/
theorem sx_forF {S : Type} (u : S → Env') (step : S → α → S) (okb : S → α → Prop) (s0 : S) (hc : X.calm = true) (hp : PassesOwn (model X.prog X.w) X.A X.env X.xe) (hi : IX X tg iter env xs) (h0 : Sub env (u s0)) (hk : okFold okb step s0 xs)
    (hb : ∀ x s, okb s x → ∃ e1, GX X tg x (u s) e1 ∧ SX X W body e1 { po with N := fun e => Sub e (u (step s x)), C := fun e => Sub e (u (step s x)), B := fun _ => False })
    (hd : SX X W rest (u (xs.foldl step s0)) po) (hs : ∀ x, foldedSetIterable iter X.env x = pure x := by intro _; rfl) : SX X W (.For tg iter body [] pos :: rest) env po :=
  sx_for u (fun r s => okFold okb step s r ∧ r.foldl step s = xs.foldl step s0) (fun _ => False) s0 hc hp hi h0 ⟨hk, rfl⟩ (fun x r s ⟨⟨h1, h2⟩, h3⟩ => by
    obtain ⟨e1, g, b⟩ := hb x s h1
    exact ⟨e1, g, b.imp (fun e h => ⟨step s x, h, h2, h3⟩) (fun _ _ h => h) (fun _ _ h => h) (fun _ h => h) (fun e h => ⟨step s x, h, h2, h3⟩)⟩) (fun s ⟨_, h⟩ => by
    have h : s = xs.foldl step s0 := h
    subst h
    exact hd) (fun _ h => h.elim) hs
/-- a turn's end -/
inductive Stp (S ρ : Type) where
  | go (s : S)
  | brk (s : S)
  | ret (r : ρ)
def runL {S ρ τ : Type} (step : S → τ → Stp S ρ) : S → List τ → Stp S ρ
  | s, [] => .go s
  | s, x :: xs => match step s x with
    | .go s' => runL step s' xs
    | .brk s' => .brk s'
    | .ret r => .ret r
def okRun {S ρ τ : Type} (okb : S → τ → Prop) (step : S → τ → Stp S ρ) : S → List τ → Prop
  | _, [] => True
  | s, x :: xs => okb s x ∧ match step s x with
    | .go s' => okRun okb step s' xs
    | _ => True
/-- behind a loop -/
def Stp.fin {S ρ τ : Type} (k : S → τ) (h : ρ → τ) : Stp S ρ → τ
  | .go s => k s
  | .brk s => k s
  | .ret r => h r
/-- a loop that may be left: T what a way out is worth, in the def's own result -/
theorem sx_forR {S T : Type} (u : S → Env') (step : S → α → Stp S T) (okb : S → α → Prop) (s0 : S) (hc : X.calm = true) (hp : PassesOwn (model X.prog X.w) X.A X.env X.xe) (hi : IX X tg iter env xs) (h0 : Sub env (u s0)) (hk : okRun okb step s0 xs)
    (hb : ∀ x r s, okb s x → (∃ s1, runL step s1 xs = runL step s1 xs) → (runL step s (x :: r) = runL step s0 xs) → ∃ e1, GX X tg x (u s) e1 ∧ SX X W body e1 { po with N := fun e => ∃ s', step s x = .go s' ∧ Sub e (u s'), C := fun e => ∃ s', step s x = .go s' ∧ Sub e (u s'), B := fun e => ∃ s', step s x = .brk s' ∧ Sub e (u s') })
    (hd : ∀ s, (runL step s0 xs = .go s ∨ runL step s0 xs = .brk s) → SX X W rest (u s) po) (hs : ∀ x, foldedSetIterable iter X.env x = pure x := by intro _; rfl) : SX X W (.For tg iter body [] pos :: rest) env po :=
  sx_for u (fun r s => okRun okb step s r ∧ runL step s r = runL step s0 xs) (fun e => ∃ s, Sub e (u s) ∧ runL step s0 xs = .brk s) s0 hc hp hi h0 ⟨hk, rfl⟩ (fun x r s ⟨⟨h1, h2⟩, h3⟩ => by
    obtain ⟨e1, g, b⟩ := hb x r s h1 ⟨s, rfl⟩ h3
    have go : ∀ e, (∃ s', step s x = .go s' ∧ Sub e (u s')) → ∃ s', Sub e (u s') ∧ okRun okb step s' r ∧ runL step s' r = runL step s0 xs := fun e ⟨s', q, sb⟩ => by
      rw [q] at h2
      have h4 : runL step s (x :: r) = runL step s' r := by
        show (match step s x with | .go s' => runL step s' r | .brk s' => .brk s' | .ret r => .ret r) = _
        rw [q]
      exact ⟨s', sb, h2, h4.symm.trans h3⟩
    refine ⟨e1, g, b.imp go (fun _ _ h => h) (fun _ _ h => h) (fun e ⟨s', q, sb⟩ => ⟨s', sb, ?_⟩) go⟩
    rw [← h3]
    show (match step s x with | .go s' => runL step s' r | .brk s' => .brk s' | .ret r => .ret r) = _
    rw [q]) (fun s ⟨_, h⟩ => hd s (.inl h.symm)) (fun e ⟨s, sb, q⟩ => sx_sub sb (hd s (.inr q))) hs
/-- the same, the slots told as changes of what stands -/
theorem sx_forF' {S : Type} (uu : S → Env' → Env') (step : S → α → S) (okb : S → α → Prop) (s0 : S) (hc : X.calm = true) (hp : PassesOwn (model X.prog X.w) X.A X.env X.xe) (hi : IX X tg iter env xs) (h0 : Sub env (uu s0 env)) (hk : okFold okb step s0 xs)
    (hb : ∀ x s, okb s x → ∃ e1, GX X tg x (uu s env) e1 ∧ SX X W body e1 { po with N := fun e => Sub e (uu (step s x) env), C := fun e => Sub e (uu (step s x) env), B := fun _ => False })
    (hd : SX X W rest (uu (xs.foldl step s0) env) po) (hs : ∀ x, foldedSetIterable iter X.env x = pure x := by intro _; rfl) : SX X W (.For tg iter body [] pos :: rest) env po := sx_forF (fun s => uu s env) step okb s0 hc hp hi h0 hk hb hd hs
theorem sx_forR' {S T : Type} (uu : S → Env' → Env') (step : S → α → Stp S T) (okb : S → α → Prop) (s0 : S) (hc : X.calm = true) (hp : PassesOwn (model X.prog X.w) X.A X.env X.xe) (hi : IX X tg iter env xs) (h0 : Sub env (uu s0 env)) (hk : okRun okb step s0 xs)
    (hb : ∀ x r s, okb s x → (runL step s (x :: r) = runL step s0 xs) → ∃ e1, GX X tg x (uu s env) e1 ∧ SX X W body e1 { po with N := fun e => ∃ s', step s x = .go s' ∧ Sub e (uu s' env), C := fun e => ∃ s', step s x = .go s' ∧ Sub e (uu s' env), B := fun e => ∃ s', step s x = .brk s' ∧ Sub e (uu s' env) })
    (hd : ∀ s, (runL step s0 xs = .go s ∨ runL step s0 xs = .brk s) → SX X W rest (uu s env) po) (hs : ∀ x, foldedSetIterable iter X.env x = pure x := by intro _; rfl) : SX X W (.For tg iter body [] pos :: rest) env po := sx_forR (fun s => uu s env) step okb s0 hc hp hi h0 hk (fun x r s h1 _ h2 => hb x r s h1 h2) hd hs
theorem sx_ifj' {k : Bool} {c : Expr} {thn els : List Stmt} {S : Type} (uu : S → Env' → Env') (p1 p0 : S) (hc : ET X c env k) (h1 : k = true → SX X W thn env { po with N := fun e => Sub e (uu p1 env) }) (h2 : k = false → SX X W els env { po with N := fun e => Sub e (uu p0 env) }) (hr : SX X W rest (uu (cond k p1 p0) env) po) : SX X W (.If c thn els pos :: rest) env po :=
  sx_ifj (fun b => uu (cond b p1 p0) env) hc h1 h2 hr
/-- what the whole loop comes to, where a turn ends it -/
theorem run_ret {S ρ τ : Type} {step : S → τ → Stp S ρ} {s : S} {x : τ} {xs : List τ} {o : Stp S ρ} {r : ρ} (h : runL step s (x :: xs) = o) (q : step s x = .ret r) : o = .ret r := by
  rw [← h]
  show (match step s x with | .go s' => runL step s' xs | .brk s' => .brk s' | .ret r => .ret r) = _
  rw [q]
theorem fin_ret {S ρ τ : Type} {P : τ → Prop} {o : Stp S ρ} {k : S → τ} {h : ρ → τ} {r : ρ} (e : o = .ret r) (q : P (o.fin k h)) : P (h r) := by subst e; exact q
theorem fin_go {S ρ τ : Type} {P : τ → Prop} {o : Stp S ρ} {k : S → τ} {h : ρ → τ} {s : S} (e : o = .go s ∨ o = .brk s) (q : P (o.fin k h)) : P (k s) := by rcases e with e | e <;> (subst e; exact q)
end
end R
set_option maxHeartbeats 2000000
set_option autoImplicit false
namespace R
open PySem PySem.Spec PyProof.Rows L2
/-! ### fractions: a tuple in lowest terms is a rational number -/
instance : Dat Rat := ⟨fun K H v q => repT K H v [.dat q.num, .dat (q.den : Int)], fun e h => h.mono e⟩
instance : Tup Rat := ⟨fun q => [.dat q.num, .dat (q.den : Int)], fun _ _ _ _ => rfl⟩
def IsQ (t b : Int) : Prop := 0 < b ∧ Int.gcd t b = 1
theorem IsQ.num {t b : Int} (h : IsQ t b) : (Rat.divInt t b).num = t := by
  rw [Rat.num_divInt, Int.sign_eq_one_of_pos h.1, Int.one_mul, Int.gcd_comm, h.2]
  simp
theorem IsQ.den {t b : Int} (h : IsQ t b) : ((Rat.divInt t b).den : Int) = b := by
  have := h.1
  rw [Rat.den_divInt, if_neg (by omega), Int.gcd_comm, h.2]
  simp
  omega
section
variable {X : Cx} {W : WX} {env env' : Env'} {ρ α β γ : Type} [Res ρ] [Dat α] [Dat β] [Dat γ] {po : Po ρ} {x : α} {y : β} {z : γ} {e a b c tg iter : Expr} {es : List Expr} {pos p p2 pc : Pos} {rest body : List Stmt} {xs : List α}
theorem ex_rat {q : Rat} {t b : Int} (h : EX X e env (t, b)) (h1 : q.num = t) (h2 : (q.den : Int) = b) : EX X e env q := fun O fp σ H S Q k => h O fp σ H S Q fun v H' e r => k v H' e (by
  subst h1 h2
  exact r)
theorem ex_isQ {t b : Int} (h : EX X e env (t, b)) (g : IsQ t b) : EX X e env (Rat.divInt t b) := ex_rat h g.num g.den
/-! ### isinstance, by the kind of the data -/
class TyN (α : Type) [Dat α] (n : outParam String) : Prop where
  ty : ∀ (K : PySem.W.Frag) (H : Hp) (v : V) (x : α), Dat.rep K H v x → TyX K H v (.type n)
instance : TyN Int "int" := ⟨fun K H v x h => by rw [show v = .int x from h]; exact .base (.int x)⟩
instance : TyN Bool "bool" := ⟨fun K H v x h => by rw [show v = .bl x from h]; exact .base (.bl x)⟩
instance : TyN Str "str" := ⟨fun K H v x h => by rw [show v = .str x from h]; exact .base (.str x)⟩
instance : TyN Unit "NoneType" := ⟨fun K H v x h => by rw [show v = .non from h]; exact .base .non⟩
theorem repT.ty {K : PySem.W.Frag} {H : Hp} {v : V} {cs : List Sl} (h : repT K H v cs) : TyX K H v (.type "tuple") := by
  obtain ⟨a, vs, e, t, _⟩ := h
  subst e
  rcases t with (t | ⟨o, t⟩) | ⟨o, its, n, l, c, _⟩
  · exact .base (.tup t)
  · exact .fTuple t
  · exact .kTuple l c
instance : TyN Rat "tuple" := ⟨fun K H v x h => repT.ty h⟩
instance : TyN (α × β) "tuple" := ⟨fun K H v x h => repT.ty h⟩
instance : TyN (T3 α β γ) "tuple" := ⟨fun K H v x h => repT.ty h⟩
instance {α β γ δ ε : Type} [Dat α] [Dat β] [Dat γ] [Dat δ] [Dat ε] : TyN (T5 α β γ δ ε) "tuple" := ⟨fun K H v x h => repT.ty h⟩
instance {α β γ δ : Type} [Dat α] [Dat β] [Dat γ] [Dat δ] : TyN (T4 α β γ δ) "tuple" := ⟨fun K H v x h => repT.ty h⟩
instance : TyN (List α) "list" := ⟨fun K H v x h => by
  obtain ⟨a, vs, e, t, _⟩ := h
  subst e
  rcases t with (t | ⟨o, t⟩) | ⟨o, its, n, l, c, _⟩
  · exact .base (.lst t)
  · exact .base (.frz t)
  · exact .kList l c⟩
instance : TyN (Dc α) "dict" := ⟨fun K H v x h => by
  obtain ⟨a, vs, e, t, _⟩ := h
  subst e
  rcases t with t | ⟨o, t⟩
  · exact .base (.dK t)
  · exact .fDict t⟩
theorem TyX.mono {K : PySem.W.Frag} {H : Hp} {U : Addr → Prop} {v : V} {n : String} (h : TyX K (wo H U) v (.type n)) : TyX K H v (.type n) := by
  cases h with
  | base h =>
    refine .base ?_
    cases h with
    | non => exact .non
    | bl x => exact .bl x
    | int x => exact .int x
    | str x => exact .str x
    | flt x => exact .flt x
    | lst e => exact .lst (wo_some e).2
    | frz e => exact .frz (wo_some e).2
    | tup e => exact .tup (wo_some e).2
    | dK e => exact .dK (wo_some e).2
    | dT e => exact .dT (wo_some e).2
  | byt b => exact .byt b
  | set e => exact .set (wo_some e).2
  | kList e c => exact .kList e c
  | kTuple e c => exact .kTuple e c
  | kDict e c => exact .kDict e c
  | fTuple e => exact .fTuple (wo_some e).2
  | fDict e => exact .fDict (wo_some e).2
theorem ex_isi {n : String} [TyN α n] {T : Str} {c : String} {k : Bool} (hi : X.mg "isinstance" = none) (hT : X.mg T = none) (h : EX X a env x) (hk : kitB n c = some k) (hv : bootBuiltins T = some (.type c)) (hg : Gl X "isinstance" := by rfl) (hgT : Gl X T := by rfl) (hn : T ≠ "__name__" := by decide) (hd : (T == ("__debug__" : Str)) = false := by decide)
    (he : starEach [a, .Name T pc] X.env = (false, eval a X.env) :: starEach [.Name T pc] X.env := by exact star_plain rfl _ _) (he2 : starEach [.Name T pc] X.env = (false, eval (.Name T pc) X.env) :: starEach [] X.env := by exact star_plain rfl _ _) (hpl : (backTo pos (starEach [.Name T pc] X.env)).any (·.1) = false := by exact star_pl rfl) : EX X (.Call (.Name "isinstance" p) [a, .Name T pc] [] pos) env k :=
  ex_of (pe_callB call_isi hg hi (by decide +kernel) (pa_cons (mE X a) (pa_cons (pe_bltn (v := .ty c) hgT hT hv rfl hn hd) pa_nil he2) he) (by decide) (by decide) he hpl) fun O fp σ H S Q q => h O fp σ H S _ fun v H1 e1 r1 => ⟨v, .ty c, .type n, .type c, k, rfl, .ty c, TyX.mono (TyN.ty _ _ _ _ r1), kit_ty hk, q _ H1 e1 rfl⟩
/-- xs[i] of a list, i from 0 on, told with a default -/
theorem ex_ixD {i : Int} {d : α} (h : EX X a env xs) (hb : EX X b env i) (g : 0 ≤ i ∧ i < (xs.length : Int)) (hs : PlainIx b := by exact fun _ _ => rfl) : EX X (.Subscript a b pos) env (xs.getD (Int.toNat i) d) := ex_ixL h hb ⟨g.1, by
  have : i.toNat < xs.length := by omega
  rw [List.getD_eq_getElem?_getD, List.getElem?_eq_getElem this]
  rfl⟩ hs
/-! ### texts -/
def StrRoom (x y : Str) : Prop := x.length + y.length ≤ 100000
theorem ex_addS {x y : Str} (ha : EX X a env x) (hb : EX X b env y) (h : StrRoom x y) : EX X (.BinOp a .Add b pos) env (x ++ y) := ex_op op_add_str ha hb fun U v1 v2 H _ r1 r2 Q q => ⟨x, y, r1, r2, sz_of h, q _ H (Ex.refl H) rfl⟩
end
/-! ### a promise told otherwise -/
theorem spP.imp {ρ : Type} [Res ρ] {K : PySem.W.Frag} {mg : Str → Option Value} {n : Nat} {Φ Φ' : Phi ρ} (h : ∀ args Rp Xp, Φ' args Rp Xp → Φ args Rp Xp) : ∀ vs H Q E, spP K mg n Φ' vs H Q E → spP K mg n Φ vs H Q E :=
  fun vs H Q E ⟨hl, O, args, Rp, Xp, ph, r⟩ => ⟨hl, O, args, Rp, Xp, h _ _ _ ph, r⟩
theorem DefOk.imp {ρ : Type} [Res ρ] {P : Program} {w : World} {K : PySem.W.Frag} {mg : Str → Option Value} {base : Heap} {n : Str} {k m : Nat} {ps : List Str} {dvs : List V} {Φ Φ' : Phi ρ} (d : DefOk P w K mg base n k ps dvs (spP K mg m Φ)) (h : ∀ args Rp Xp, Φ' args Rp Xp → Φ args Rp Xp) : DefOk P w K mg base n k ps dvs (spP K mg m Φ') := by
  obtain ⟨f, fd, ds, F, r⟩ := d.ex
  exact ⟨f, fd, ds, F.imp (spP.imp h), r⟩
/-! ### numbers: room -/
def gcdI (a b : Int) : Int := (Int.gcd a b : Int)
theorem gcd_turn (x y : Int) : Int.gcd y (x % y) = Int.gcd x y := by
  have h := Int.gcd_mul_left_add_right y (x % y) (x / y)
  rw [Int.mul_ediv_add_emod] at h
  rw [← h, Int.gcd_comm]
theorem absI_nn (i : Int) : 0 ≤ absI i := by unfold absI; split <;> omega
theorem absI_nat (i : Int) : (absI i).natAbs = i.natAbs := by unfold absI; split <;> omega
theorem divInt_num {t b : Int} (h : 0 < b) : (Rat.divInt t b).num = t / gcdI t b := by
  rw [Rat.num_divInt, Int.sign_eq_one_of_pos h, Int.one_mul, Int.gcd_comm]
  rfl
theorem divInt_den {t b : Int} (h : 0 < b) : ((Rat.divInt t b).den : Int) = b / gcdI t b := by
  rw [Rat.den_divInt, if_neg (by omega), Int.gcd_comm]
  unfold gcdI
  rw [Int.natCast_ediv, Int.natAbs_of_nonneg (by omega)]
theorem gcdI_pos {t b : Int} (h : b ≠ 0) : 0 < gcdI t b := by
  have := Int.gcd_pos_of_ne_zero_right t h
  unfold gcdI
  omega
theorem gcdI_le {t b : Int} (h : b ≠ 0) : (gcdI t b).natAbs ≤ b.natAbs := by
  have := Int.gcd_le_natAbs_right t h
  unfold gcdI
  omega
theorem cdiv_gcd {t b x : Int} (h : b ≠ 0) (hb : b.natAbs < 2 ^ 9000) : CDivW x (gcdI t b) := wide_div (gcdI_pos h) (Nat.lt_of_le_of_lt (gcdI_le h) hb) (by decide) (by decide)
theorem gcdI_neg (t b : Int) : gcdI (0 - t) (0 - b) = gcdI t b := by
  unfold gcdI
  rw [show 0 - t = -t by omega, show 0 - b = -b by omega, Int.gcd_neg, Int.neg_gcd]
theorem divInt_neg2 (t b : Int) : Rat.divInt (0 - t) (0 - b) = Rat.divInt t b := by
  rw [show 0 - t = -t by omega, show 0 - b = -b by omega, Rat.neg_divInt_neg]
theorem plus_eq (x y : Rat) : Rat.divInt (x.num * (y.den : Int) + y.num * (x.den : Int)) ((x.den : Int) * (y.den : Int)) = x + y := by
  rw [Rat.add_def', ← Rat.divInt_ofNat]
  simp
theorem minus_eq (x y : Rat) : Rat.divInt (x.num * (y.den : Int) - y.num * (x.den : Int)) ((x.den : Int) * (y.den : Int)) = x - y := by
  rw [Rat.sub_def', ← Rat.divInt_ofNat]
  simp
theorem times_eq (x y : Rat) : Rat.divInt (x.num * y.num) ((x.den : Int) * (y.den : Int)) = x * y := by
  rw [Rat.mul_def', ← Rat.divInt_ofNat]
  simp
theorem under_eq (x y : Rat) : decide (x.num * (y.den : Int) < y.num * (x.den : Int)) = decide (x < y) := by
  rw [decide_eq_decide, Rat.lt_iff]
theorem den_pos (x : Rat) : 0 < (x.den : Int) := by have := x.den_pos; omega
theorem dens_ne (x y : Rat) : (x.den : Int) * (y.den : Int) ≠ 0 := Int.ne_of_gt (Int.mul_pos (den_pos x) (den_pos y))
end R
set_option maxHeartbeats 200000
set_option autoImplicit false
namespace R
open PySem PySem.Spec PyProof.Rows L2
/-! ### options -/
def repO {α : Type} [Dat α] (K : PySem.W.Frag) (H : Hp) (v : V) : Option α → Prop
  | none => v = .non
  | some x => Dat.rep K H v x
instance {α : Type} [Dat α] : Dat (Option α) := ⟨repO, fun {K H H' v x} e h => by
  cases x with
  | none => exact h
  | some x => exact Dat.mono (α := α) e h⟩
instance {α β γ : Type} [Inhabited α] [Inhabited β] [Inhabited γ] : Inhabited (T3 α β γ) := ⟨⟨default, default, default⟩⟩
instance {α β γ δ : Type} [Inhabited α] [Inhabited β] [Inhabited γ] [Inhabited δ] : Inhabited (T4 α β γ δ) := ⟨⟨default, default, default, default⟩⟩
instance {α β γ δ ε : Type} [Inhabited α] [Inhabited β] [Inhabited γ] [Inhabited δ] [Inhabited ε] : Inhabited (T5 α β γ δ ε) := ⟨⟨default, default, default, default, default⟩⟩
instance {α : Type} : Inhabited (Dc α) := ⟨⟨[]⟩⟩
/-! ### data without lists and dicts -/
class NoMut (α : Type) [Dat α] : Prop where
  cut : ∀ (K : PySem.W.Frag) (Hf Hf' : Hp) (v : V) (x : α), (∀ a xs, Rd Hf a (.tup xs) → Rd Hf' a (.tup xs)) → Dat.rep K Hf v x → Dat.rep K Hf' v x
instance : NoMut Int := ⟨fun _ _ _ _ _ _ h => h⟩
instance : NoMut Bool := ⟨fun _ _ _ _ _ _ h => h⟩
instance : NoMut Str := ⟨fun _ _ _ _ _ _ h => h⟩
instance : NoMut Unit := ⟨fun _ _ _ _ _ _ h => h⟩
theorem cut_tup {K : PySem.W.Frag} {Hf Hf' : Hp} {a : Addr} {vs : List V} (h : ∀ a xs, Rd Hf a (.tup xs) → Rd Hf' a (.tup xs)) (t : SqT K Hf a vs) : SqT K Hf' a vs := by
  rcases t with t | t
  · exact .inl (h a vs t)
  · exact .inr t
instance : NoMut Rat := ⟨fun K Hf Hf' v x h r => by
  obtain ⟨a, vs, e, t, ar⟩ := r
  refine ⟨a, vs, e, cut_tup h t, ?_⟩
  match vs, ar with
  | [u, w], ⟨h1, h2, _⟩ => exact ⟨h1, h2, trivial⟩⟩
instance {α β : Type} [Dat α] [Dat β] [NoMut α] [NoMut β] : NoMut (α × β) := ⟨fun K Hf Hf' v x h r => by
  obtain ⟨a, vs, e, t, ar⟩ := r
  refine ⟨a, vs, e, cut_tup h t, ?_⟩
  match vs, ar with
  | [u, w], ⟨h1, h2, _⟩ => exact ⟨NoMut.cut K Hf Hf' _ _ h h1, NoMut.cut K Hf Hf' _ _ h h2, trivial⟩⟩
instance {α : Type} [Dat α] [NoMut α] : NoMut (Option α) := ⟨fun K Hf Hf' v x h r => by
  cases x with
  | none => exact r
  | some x => exact NoMut.cut (α := α) K Hf Hf' v x h r⟩
/-! ### dicts as tables -/
section
variable {α : Type}
def lookD (kvs : List (Str × α)) (k : Str) : Option α := (kvs.find? fun p => decide (p.1 = k)).map (·.2)
def putD (kvs : List (Str × α)) (k : Str) (x : α) : List (Str × α) := if (kvs.any fun p => decide (p.1 = k)) = true then kvs.map (fun p => if p.1 = k then (p.1, x) else p) else kvs ++ [(k, x)]
def dropD (kvs : List (Str × α)) (k : Str) : List (Str × α) := kvs.filter fun p => decide (p.1 ≠ k)
def Dc.look (d : Dc α) (k : Str) : Option α := lookD d.kvs k
def Dc.has (d : Dc α) (k : Str) : Bool := (lookD d.kvs k).isSome
def Dc.put (d : Dc α) (k : Str) (x : α) : Dc α := ⟨putD d.kvs k x⟩
def Dc.drop (d : Dc α) (k : Str) : Dc α := ⟨dropD d.kvs k⟩
variable [Dat α] {K : PySem.W.Frag} {H : Hp}
theorem key_dec (a b : Str) : decide ((Sum.inr a : Key) = Sum.inr b) = decide (a = b) := key_rr a b
theorem repD.look : ∀ {ws : List (Key × V)} {kvs : List (Str × α)}, repD K H ws kvs → ∀ k : Str, (valV ws (.inr k) = none ∧ lookD kvs k = none) ∨ ∃ v x, valV ws (.inr k) = some v ∧ lookD kvs k = some x ∧ Dat.rep K H v x
  | _, _, .nil, k => .inl ⟨rfl, rfl⟩
  | (k1, v) :: ws, (k2, x) :: kvs, .cons h t, k => by
    obtain ⟨h1, h2⟩ := h
    have h1 : k1 = .inr k2 := h1
    subst h1
    have ih := repD.look t k
    unfold valV lookD at *
    rw [List.find?_cons, List.find?_cons]
    by_cases e : k2 = k
    · subst e
      simp
      exact h2
    · have e1 : decide ((Sum.inr k2 : Key) = Sum.inr k) = false := by rw [key_dec]; exact decide_eq_false e
      have e2 : decide (k2 = k) = false := decide_eq_false e
      simp only [e1, e2]
      exact ih
theorem repD.any {ws : List (Key × V)} {kvs : List (Str × α)} (h : repD K H ws kvs) (k : Str) : (ws.any fun p => decide (p.1 = .inr k)) = (kvs.any fun p => decide (p.1 = k)) := by
  unfold repD at h
  induction h with
  | nil => rfl
  | cons h t ih => rw [List.any_cons, List.any_cons, ih, h.1, key_dec]
theorem repD.put {ws : List (Key × V)} {kvs : List (Str × α)} (h : repD K H ws kvs) (k : Str) {v : V} {x : α} (r : Dat.rep K H v x) : repD K H (putK ws (.inr k) v) (putD kvs k x) := by
  unfold putK putD
  rw [h.any k]
  split
  · rename_i hq
    clear hq
    unfold repD at *
    induction h with
    | nil => exact .nil
    | @cons a b _ _ h t ih =>
      rw [List.map_cons, List.map_cons]
      refine .cons ?_ ih
      obtain ⟨h1, h2⟩ := h
      by_cases e : b.1 = k
      · rw [if_pos e, if_pos (by rw [h1, e])]
        exact ⟨h1, r⟩
      · rw [if_neg e, if_neg (by rw [h1]; intro z; exact e (Sum.inr.inj z))]
        exact ⟨h1, h2⟩
  · have : ∀ {ws : List (Key × V)} {kvs : List (Str × α)}, repD K H ws kvs → repD K H (ws ++ [(.inr k, v)]) (kvs ++ [(k, x)]) := by
      intro ws kvs h
      unfold repD at *
      induction h with
      | nil => exact .cons ⟨rfl, r⟩ .nil
      | cons h t ih => exact .cons h ih
    exact this h
theorem repD.drop {ws : List (Key × V)} {kvs : List (Str × α)} (h : repD K H ws kvs) (k : Str) : repD K H (dropK ws (.inr k)) (dropD kvs k) := by
  unfold dropK dropD repD at *
  induction h with
  | nil => exact .nil
  | @cons a b _ _ h t ih =>
    rw [List.filter_cons, List.filter_cons]
    obtain ⟨h1, h2⟩ := h
    by_cases e : b.1 = k
    · have e1 : decide (a.1 ≠ .inr k) = false := decide_eq_false (by rw [h1, e]; simp)
      have e2 : decide (b.1 ≠ k) = false := decide_eq_false (by simp [e])
      simp only [e1, e2]
      exact ih
    · have e1 : decide (a.1 ≠ .inr k) = true := decide_eq_true (by rw [h1]; intro z; exact e (Sum.inr.inj z))
      have e2 : decide (b.1 ≠ k) = true := decide_eq_true e
      simp only [e1, e2]
      exact .cons ⟨h1, h2⟩ ih
theorem putD_length (kvs : List (Str × α)) (k : Str) (x : α) : (putD kvs k x).length ≤ kvs.length + 1 := by
  unfold putD
  split
  · rw [List.length_map]; omega
  · simp
end
/-! ### one's own lists and dicts -/
structure OL (α : Type) where
  l : List α
structure OD (α : Type) where
  d : Dc α
instance {α : Type} [Dat α] : Own (OL α) where
  own K Hf H v L x := ∃ a vs, v = .ref a ∧ L = [a] ∧ H a = some (.lst vs) ∧ repL K Hf vs x.l
  frame := fun e f ⟨a, vs, h1, h2, h3, h4⟩ => ⟨a, vs, h1, h2, by rw [f a (by rw [h2]; exact List.mem_singleton.mpr rfl)]; exact h3, h4.mono e⟩
instance {α : Type} [Dat α] : Own (OD α) where
  own K Hf H v L x := ∃ a ws, v = .ref a ∧ L = [a] ∧ H a = some (.dK ws) ∧ repD K Hf ws x.d.kvs
  frame := fun e f ⟨a, vs, h1, h2, h3, h4⟩ => ⟨a, vs, h1, h2, by rw [f a (by rw [h2]; exact List.mem_singleton.mpr rfl)]; exact h3, h4.mono e⟩
def setF (fp : Nat → List Addr) (i : Nat) (L : List Addr) : Nat → List Addr := fun j => if j = i then L else fp j
theorem wo_upd_in {H : Hp} {U : Addr → Prop} {a : Addr} {o : HO} (h : U a) : wo (upd H a o) U = wo H U := by
  funext b
  by_cases u : U b
  · rw [wo_in u, wo_in u]
  · rw [wo_out u, wo_out u, upd_ne]
    intro e
    subst e
    exact u h
section
variable {K : PySem.W.Frag} {O : Addr → Prop} {fp : Nat → List Addr} {env : Env'} {σ : L2.St} {H H' : Hp}
/-- the object of slot i is changed -/
theorem SOk.mut {β γ : Type} [Own β] [Own γ] (S : SOk K O fp env σ H) {i : Nat} {x : β} {y : γ} {a : Addr} {o : HO} (hi : env[i]? = some (.own x)) (ha : fp i = [a]) (hy : ∀ v, σ[i]? = some (some v) → Own.own K (wo H (UU O fp)) (upd H a o) v [a] y) : SOk K O fp (env.set i (.own y)) σ (upd H a o) where
  len := by rw [List.length_set]; exact S.len
  bnd := fun b h => by
    by_cases e : b = a
    · subst e; exact ⟨o, upd_same⟩
    · rw [upd_ne e]; exact S.bnd b h
  fpO := S.fpO
  sep := S.sep
  dom := fun j b h => by
    by_cases e : b = a
    · subst e; exact ⟨o, upd_same⟩
    · rw [upd_ne e]; exact S.dom j b h
  sl := fun j s q => by
    have hU : UU O fp a := .inr ⟨i, by rw [ha]; exact List.mem_singleton.mpr rfl⟩
    rw [wo_upd_in hU]
    by_cases e : i = j
    · subst e
      have hl : i < env.length := (List.getElem?_eq_some_iff.mp hi).1
      rw [List.getElem?_set_self hl] at q
      cases q
      obtain ⟨v, hv, _⟩ := S.sl i _ hi
      exact ⟨v, hv, by rw [ha]; exact hy v hv⟩
    · rw [List.getElem?_set_ne e] at q
      have r := S.sl j s q
      cases s with
      | any => exact trivial
      | dat x => exact r
      | own x =>
        obtain ⟨v, h1, h2⟩ := r
        refine ⟨v, h1, Own.frame (Le.refl _) (fun b hb => ?_) h2⟩
        rw [upd_ne]
        intro z
        subst z
        exact e (S.sep i j b (by rw [ha]; exact List.mem_singleton.mpr rfl) hb)
theorem Keep.mut {a : Addr} {o : HO} (h : ∃ i, a ∈ fp i) : Keep fp H fp (upd H a o) := ⟨fun b u n q => by
  rw [upd_ne]
  · exact q
  · intro e; subst e; exact n h, fun i b q => .inl ⟨i, q⟩⟩
/-- a new object of one's own comes into slot i -/
theorem SOk.new {β : Type} [Own β] (S : SOk K O fp env σ H) {i : Nat} {x : β} {v : V} {L : List Addr} (e : Ex H H') (hL : ∀ a ∈ L, H a = none) (hd : ∀ a ∈ L, ∃ o, H' a = some o) (hx : ∀ Hf, Le (wo H' (fun a => UU O fp a ∨ a ∈ L)) Hf → Own.own K Hf H' v L x) : SOk K O (setF fp i L) (env.set i (.own x)) (σ.set i (some v)) H' := by
  have hn : ∀ a ∈ L, ¬ UU O fp a := fun a ha => S.fresh (hL a ha)
  have sub : ∀ a, UU O (setF fp i L) a → UU O fp a ∨ a ∈ L := fun a h => by
    rcases h with h | ⟨j, h⟩
    · exact .inl (.inl h)
    · unfold setF at h
      split at h
      · exact .inr h
      · exact .inl (.inr ⟨j, h⟩)
  have le : Le (wo H (UU O fp)) (wo H' (UU O (setF fp i L))) := Ex.le fun a o q => by
    obtain ⟨n, q⟩ := wo_some q
    rw [wo_out fun z => (sub a z).elim n fun m => by rw [hL a m] at q; cases q]
    exact e a o q
  exact {
    len := by rw [List.length_set, List.length_set]; exact S.len
    bnd := fun a h => let ⟨o, q⟩ := S.bnd a h; ⟨o, e a o q⟩
    fpO := fun j a h => by
      unfold setF at h
      split at h
      · exact fun z => hn a h (.inl z)
      · exact S.fpO j a h
    sep := fun j k a h1 h2 => by
      unfold setF at h1 h2
      split at h1 <;> split at h2
      · omega
      · exact absurd (.inr ⟨k, h2⟩) (hn a h1)
      · exact absurd (.inr ⟨j, h1⟩) (hn a h2)
      · exact S.sep j k a h1 h2
    dom := fun j a h => by
      unfold setF at h
      split at h
      · exact hd a h
      · let ⟨o, q⟩ := S.dom j a h
        exact ⟨o, e a o q⟩
    sl := fun j s q => by
      by_cases e' : i = j
      · subst e'
        have hl : i < env.length := by
          have := (List.getElem?_eq_some_iff.mp q).1
          simpa using this
        rw [List.getElem?_set_self hl] at q
        cases q
        refine ⟨v, by rw [List.getElem?_set_self (by rw [S.len]; exact hl)], ?_⟩
        have : setF fp i L i = L := by unfold setF; rw [if_pos rfl]
        rw [this]
        exact hx _ (wo_mono sub).le
      · rw [List.getElem?_set_ne e'] at q
        rw [List.getElem?_set_ne e']
        have r := S.sl j s q
        have ef : setF fp i L j = fp j := by unfold setF; rw [if_neg (fun z => e' z.symm)]
        rw [ef]
        cases s with
        | any => exact trivial
        | dat x =>
          obtain ⟨v, h1, h2⟩ := r
          exact ⟨v, h1, Dat.mono le h2⟩
        | own x =>
          obtain ⟨v, h1, h2⟩ := r
          refine ⟨v, h1, Own.frame le (fun a ha => ?_) h2⟩
          obtain ⟨o, q⟩ := S.dom j a ha
          rw [q, e a o q] }
theorem Keep.new {i : Nat} {L : List Addr} (e : Ex H H') (hL : ∀ a ∈ L, H a = none) : Keep fp H (setF fp i L) H' := ⟨fun a o _ h => e a o h, fun j a h => by
  unfold setF at h
  split at h
  · exact .inr (hL a h)
  · exact .inl ⟨j, h⟩⟩
/-- one's own becomes data -/
theorem SOk.frz {β α : Type} [Own β] [Dat α] (S : SOk K O fp env σ H) {i : Nat} {x : β} {y : α} (hi : env[i]? = some (.own x)) (hy : ∀ v Hf, Own.own K Hf H v (fp i) x → (∀ a ∈ fp i, Hf a = H a) → Dat.rep K Hf v y) : SOk K O (setF fp i []) (env.set i (.dat y)) σ H := by
  have sub : ∀ a, UU O (setF fp i []) a → UU O fp a := fun a h => by
    rcases h with h | ⟨j, h⟩
    · exact .inl h
    · unfold setF at h
      split at h
      · cases h
      · exact .inr ⟨j, h⟩
  have le : Le (wo H (UU O fp)) (wo H (UU O (setF fp i []))) := (wo_mono sub).le
  exact {
    len := by rw [List.length_set]; exact S.len
    bnd := S.bnd
    fpO := fun j a h => by
      unfold setF at h
      split at h
      · cases h
      · exact S.fpO j a h
    sep := fun j k a h1 h2 => by
      unfold setF at h1 h2
      split at h1
      · cases h1
      · split at h2
        · cases h2
        · exact S.sep j k a h1 h2
    dom := fun j a h => by
      unfold setF at h
      split at h
      · cases h
      · exact S.dom j a h
    sl := fun j s q => by
      by_cases e : i = j
      · subst e
        have hl : i < env.length := (List.getElem?_eq_some_iff.mp hi).1
        rw [List.getElem?_set_self hl] at q
        cases q
        obtain ⟨v, h1, h2⟩ := S.sl i _ hi
        refine ⟨v, h1, hy v _ (Own.frame le (fun _ _ => rfl) h2) fun a ha => wo_out fun z => ?_⟩
        rcases z with z | ⟨k, z⟩
        · exact S.fpO i a ha z
        · unfold setF at z
          split at z
          · cases z
          · rename_i ne
            exact ne (S.sep k i a z ha)
      · rw [List.getElem?_set_ne e] at q
        have r := S.sl j s q
        have ef : setF fp i [] j = fp j := by unfold setF; rw [if_neg (fun z => e z.symm)]
        rw [ef]
        cases s with
        | any => exact trivial
        | dat x =>
          obtain ⟨v, h1, h2⟩ := r
          exact ⟨v, h1, Dat.mono le h2⟩
        | own x =>
          obtain ⟨v, h1, h2⟩ := r
          exact ⟨v, h1, Own.frame le (fun _ _ => rfl) h2⟩ }
theorem Keep.frz' {i : Nat} : Keep fp H (setF fp i []) H := ⟨fun _ _ _ h => h, fun j a h => by
  unfold setF at h
  split at h
  · cases h
  · exact .inl ⟨j, h⟩⟩
end
theorem own_frzL {α : Type} [Dat α] {K : PySem.W.Frag} {Hf H : Hp} {v : V} {L : List Addr} {xs : List α} (h : Own.own K Hf H v L (OL.mk xs)) (q : ∀ a ∈ L, Hf a = H a) : Dat.rep K Hf v xs := by
  obtain ⟨a, vs, h1, h2, h3, h4⟩ := h
  exact ⟨a, vs, h1, .inl (.inl (by rw [q a (by rw [h2]; exact List.mem_singleton.mpr rfl)]; exact h3)), h4⟩
theorem own_frzD {α : Type} [Dat α] {K : PySem.W.Frag} {Hf H : Hp} {v : V} {L : List Addr} {d : Dc α} (h : Own.own K Hf H v L (OD.mk d)) (q : ∀ a ∈ L, Hf a = H a) : Dat.rep K Hf v d := by
  obtain ⟨a, vs, h1, h2, h3, h4⟩ := h
  exact ⟨a, vs, h1, .inl (by rw [q a (by rw [h2]; exact List.mem_singleton.mpr rfl)]; exact h3), h4⟩
/-- what makes a new object of one's own -/
def EN {β : Type} [Own β] (X : Cx) (e : Expr) (env : Env') (x : β) : Prop :=
  ∀ O fp σ H, SOk X.K O fp env σ H → ∀ Q : VK, (∀ v L H', Ex H H' → (∀ a ∈ L, H a = none) → (∀ a ∈ L, ∃ o, H' a = some o) → (∀ Hf, Le (wo H' (fun a => UU O fp a ∨ a ∈ L)) Hf → Own.own X.K Hf H' v L x) → Q v H') → tE X e σ H Q
section
variable {X : Cx} {W : WX} {env env' : Env'} {ρ α β γ : Type} [Res ρ] [Dat α] [Dat β] [Dat γ] {po : Po ρ} {x : α} {y : β} {z : γ} {e a b c tg iter o : Expr} {es : List Expr} {pos p p2 pc p3 apos cpos : Pos} {rest body : List Stmt} {xs : List α}
theorem sx_new {β : Type} [Own β] {x : β} {i : Nat} {n : Str} (hN : X.N.Nodup) (he : EN X e env x) (h : SX X W rest (env.set i (.own x)) po) (hi : X.N[i]? = some n := by rfl) (hx : Loc X.env.scope n := by first | exact Or.inl rfl | exact Or.inr rfl) (hs : swapsWith e (some (.Name n p2)) pos.line X.env = pure false := by rfl) (hf : X.fn n = true ∨ X.env.scope.names.lookup n = some .local := by first | exact .inl rfl | exact .inr rfl | assumption) :
    SX X W (.Assign [.Name n p2] e pos :: rest) env po :=
  sx_step (ps_set hN hi hx (mE X e) hs hf) (fun O fp σ H S D q => he O fp σ H S _ fun v L H1 e1 hL hd r1 => q (setF fp i L) _ H1 (Keep.new e1 hL) (S.new e1 hL hd r1)) h
theorem en_nil : EN X (.List [] pos) env (OL.mk ([] : List α)) := fun O fp σ H S Q q => tE_of fun pins s I => (pe_lst pa_nil).run pins s σ H Q I ⟨Nat.zero_le _, fun p hp => q (.ref p) [p] _ (Ex.new hp) (fun a ha => by rw [List.mem_singleton.mp ha]; exact hp) (fun a ha => by rw [List.mem_singleton.mp ha]; exact ⟨_, upd_same⟩) fun Hf _ => ⟨p, [], rfl, rfl, upd_same, .nil⟩⟩
theorem en_dnew : EN X (.Dict [] [] pos) env (OD.mk (⟨[]⟩ : Dc α)) := fun O fp σ H S Q q => tE_of fun pins s I => pe_dnewK.run pins s σ H Q I fun p hp => q (.ref p) [p] _ (Ex.new hp) (fun a ha => by rw [List.mem_singleton.mp ha]; exact hp) (fun a ha => by rw [List.mem_singleton.mp ha]; exact ⟨_, upd_same⟩) fun Hf _ => ⟨p, [], rfl, rfl, upd_same, .nil⟩
theorem sx_frzL {i : Nat} (hi : env[i]? = some (.own (OL.mk xs))) (h : SX X W rest (env.set i (.dat xs)) po) : SX X W rest env po := fun O fp σ H S D G => h O (setF fp i []) σ H (S.frz hi fun v Hf r q => own_frzL r q) D (G.step Keep.frz')
theorem sx_frzD {i : Nat} {d : Dc α} (hi : env[i]? = some (.own (OD.mk d))) (h : SX X W rest (env.set i (.dat d)) po) : SX X W rest env po := fun O fp σ H S D G => h O (setF fp i []) σ H (S.frz hi fun v Hf r q => own_frzD r q) D (G.step Keep.frz')
/-- one's own is read as data, where the answer has no lists -/
theorem ex_thawL [NoMut γ] {i : Nat} (hi : env[i]? = some (.own (OL.mk xs))) (h : EX X e (env.set i (.dat xs)) z) : EX X e env z := fun O fp σ H S Q q => h O (setF fp i []) σ H (S.frz hi fun v Hf r q => own_frzL r q) Q fun v H' e1 r => q v H' e1 (by
  obtain ⟨v0, _, ow⟩ := S.sl i _ hi
  obtain ⟨a, vs, _, hL, hl, _⟩ := ow
  refine NoMut.cut X.K _ _ v z (fun b ys t => ?_) r
  have hb : ¬ UU O fp b → Rd (wo H' (UU O fp)) b (.tup ys) := fun n => by
    rcases t with t | ⟨o, t⟩
    · exact .inl (by rw [wo_out n]; exact (wo_some t).2)
    · exact .inr ⟨o, by rw [wo_out n]; exact (wo_some t).2⟩
  refine hb fun u => ?_
  have nb : b ≠ a := fun z => by
    subst z
    have := e1 b _ hl
    rcases t with t | ⟨o, t⟩ <;> (rw [(wo_some t).2] at this; cases this)
  have : UU O (setF fp i []) b := by
    rcases u with u | ⟨j, u⟩
    · exact .inl u
    · refine .inr ⟨j, ?_⟩
      unfold setF
      split
      · rename_i ej
        subst ej
        rw [hL] at u
        exact absurd (List.mem_singleton.mp u) nb
      · exact u
  rcases t with t | ⟨o, t⟩ <;> exact (wo_some t).1 this)
theorem ex_thawD [NoMut γ] {i : Nat} {d : Dc α} (hi : env[i]? = some (.own (OD.mk d))) (h : EX X e (env.set i (.dat d)) z) : EX X e env z := fun O fp σ H S Q q => h O (setF fp i []) σ H (S.frz hi fun v Hf r q => own_frzD r q) Q fun v H' e1 r => q v H' e1 (by
  obtain ⟨v0, _, ow⟩ := S.sl i _ hi
  obtain ⟨a, vs, _, hL, hl, _⟩ := ow
  refine NoMut.cut X.K _ _ v z (fun b ys t => ?_) r
  have hb : ¬ UU O fp b → Rd (wo H' (UU O fp)) b (.tup ys) := fun n => by
    rcases t with t | ⟨o, t⟩
    · exact .inl (by rw [wo_out n]; exact (wo_some t).2)
    · exact .inr ⟨o, by rw [wo_out n]; exact (wo_some t).2⟩
  refine hb fun u => ?_
  have nb : b ≠ a := fun z => by
    subst z
    have := e1 b _ hl
    rcases t with t | ⟨o, t⟩ <;> (rw [(wo_some t).2] at this; cases this)
  have : UU O (setF fp i []) b := by
    rcases u with u | ⟨j, u⟩
    · exact .inl u
    · refine .inr ⟨j, ?_⟩
      unfold setF
      split
      · rename_i ej
        subst ej
        rw [hL] at u
        exact absurd (List.mem_singleton.mp u) nb
      · exact u
  rcases t with t | ⟨o, t⟩ <;> exact (wo_some t).1 this)
theorem et_thawL {k : Bool} {i : Nat} (hi : env[i]? = some (.own (OL.mk xs))) (h : ET X e (env.set i (.dat xs)) k) : ET X e env k := fun O fp σ H S Q q => h O (setF fp i []) σ H (S.frz hi fun v Hf r q => own_frzL r q) Q q
theorem et_thawD {k : Bool} {i : Nat} {d : Dc α} (hi : env[i]? = some (.own (OD.mk d))) (h : ET X e (env.set i (.dat d)) k) : ET X e env k := fun O fp σ H S Q q => h O (setF fp i []) σ H (S.frz hi fun v Hf r q => own_frzD r q) Q q
/-- the slot of one's own object: its address and what stands there -/
theorem SOk.ol {O : Addr → Prop} {fp : Nat → List Addr} {σ : L2.St} {H : Hp} {i : Nat} (S : SOk X.K O fp env σ H) (hi : env[i]? = some (.own (OL.mk xs))) : ∃ ad vs, σ[i]? = some (some (.ref ad)) ∧ fp i = [ad] ∧ H ad = some (.lst vs) ∧ repL X.K (wo H (UU O fp)) vs xs := by
  obtain ⟨v, h1, ad, vs, h2, h3, h4, h5⟩ := S.sl i _ hi
  subst h2
  exact ⟨ad, vs, h1, h3, h4, h5⟩
theorem SOk.od {O : Addr → Prop} {fp : Nat → List Addr} {σ : L2.St} {H : Hp} {i : Nat} {d : Dc α} (S : SOk X.K O fp env σ H) (hi : env[i]? = some (.own (OD.mk d))) : ∃ ad ws, σ[i]? = some (some (.ref ad)) ∧ fp i = [ad] ∧ H ad = some (.dK ws) ∧ repD X.K (wo H (UU O fp)) ws d.kvs := by
  obtain ⟨v, h1, ad, vs, h2, h3, h4, h5⟩ := S.sl i _ hi
  subst h2
  exact ⟨ad, vs, h1, h3, h4, h5⟩
theorem Paired.app {α β : Type} {F : α → β → Prop} {xs : List α} {ys : List β} {x : α} {y : β} (h : Paired F xs ys) (r : F x y) : Paired F (xs ++ [x]) (ys ++ [y]) := by
  induction h with
  | nil => exact .cons r .nil
  | cons h t ih => exact .cons h ih
/-- l.append(e): the statement's own derivation is handed in -/
theorem sx_app {i : Nat} {st : Stmt} (ps : PS X st (tDrop (tBM X.K "list" rAppend (tVar i) (tCons (tE X e) tNil)))) (hi : env[i]? = some (.own (OL.mk xs))) (he : EX X e env x) (hz : xs.length < 100000) (h : SX X W rest (env.set i (.own (OL.mk (xs ++ [x])))) po) : SX X W (st :: rest) env po :=
  sx_step ps (fun O fp σ H S D q => by
    obtain ⟨ad, vs, h1, h2, h3, h4⟩ := S.ol hi
    refine ⟨.ref ad, h1, .inl ⟨rfl, vs, .inl (.inl h3)⟩, he O fp σ H S _ fun v H1 e1 r1 => ⟨ad, vs, v, rfl, rfl, e1 ad _ h3, ?_, ?_⟩⟩
    · rw [Paired.length h4]
      exact Nat.lt_of_lt_of_le hz (by decide)
    · have S1 := S.ex e1
      refine q fp σ _ ((Keep.ex e1).trans (Keep.mut ⟨i, by rw [h2]; exact List.mem_singleton.mpr rfl⟩)) (S1.mut hi h2 fun v' hv' => ?_)
      rw [h1] at hv'
      cases hv'
      exact ⟨ad, vs ++ [v], rfl, rfl, upd_same, Paired.app (h4.mono (wo_ex e1).le) r1⟩) h
/-- d[k] = e -/
theorem sx_dput {i : Nat} {st : Stmt} {d : Dc α} {k : Str} (ps : PS X st (sDPut (tVar i) (tE X a) (tE X e))) (hi : env[i]? = some (.own (OD.mk d))) (he : EX X e env x) (hk : EX X a env k) (hz : d.kvs.length < 100000) (h : SX X W rest (env.set i (.own (OD.mk (d.put k x)))) po) : SX X W (st :: rest) env po :=
  sx_step ps (fun O fp σ H S D q => he O fp σ H S _ fun v H1 e1 r1 => by
    have S1 := S.ex e1
    obtain ⟨ad, ws, h1, h2, h3, h4⟩ := S1.od hi
    refine ⟨.ref ad, h1, hk O fp σ H1 S1 _ fun u H2 e2 r2 => ?_⟩
    have S2 := S1.ex e2
    have r2 : u = .str k := r2
    subst r2
    refine ⟨ad, _, rfl, DPut.k (k := .inr k) (e2 ad _ h3) ?_, ?_⟩
    · rw [Paired.length h4]
      exact Nat.lt_of_lt_of_le hz (by decide)
    · refine q fp σ _ ((Keep.ex (e1.trans e2)).trans (Keep.mut ⟨i, by rw [h2]; exact List.mem_singleton.mpr rfl⟩)) (S2.mut hi h2 fun v' hv' => ?_)
      rw [h1] at hv'
      cases hv'
      exact ⟨ad, _, rfl, rfl, upd_same, (h4.mono (wo_ex e2).le).put k (Dat.mono (wo_ex e2).le r1)⟩) h
/-! ### dicts read -/
theorem ev_path {O : Addr → Prop} {fp : Nat → List Addr} {σ : L2.St} {H : Hp} (S : SOk X.K O fp env σ H) : True := trivial
/-- d[k] -/
theorem ex_dget {d : Dc α} {k : Str} (hu : X.A.units + 1 < cLine) (ho : EX X o env d) (hk : EX X a env k) (g : d.look k = some x) (hs : NoSl a := by exact fun _ _ => rfl) : EX X (.Subscript o a pos) env x :=
  ex_of (pe_dget hu (mE X o) (mE X a) hs) fun O fp σ H S Q q => ho O fp σ H S _ fun v1 H1 e1 r1 => hk O fp σ H1 (S.ex e1) _ fun v2 H2 e2 r2 => by
    obtain ⟨ad, ws, h1, h2, h3⟩ := Dat.mono (wo_ex e2).le r1
    have r2 : v2 = .str k := r2
    subst h1 r2
    rcases h3.look k with ⟨_, n⟩ | ⟨v, x', hv, hx, rx⟩
    · unfold Dc.look at g; rw [n] at g; cases g
    · unfold Dc.look at g
      rw [g] at hx
      cases hx
      exact ⟨ad, v, rfl, .inl ⟨ws, .inr k, wo_le _ _ trivial h2, rfl, hv.symm⟩, q v H2 (e1.trans e2) rx⟩
theorem ex_dgetD {d : Dc α} {k : Str} {x0 : α} (hu : X.A.units + 1 < cLine) (ho : EX X o env d) (hk : EX X a env k) (g : (d.look k).isSome = true) (hs : NoSl a := by exact fun _ _ => rfl) : EX X (.Subscript o a pos) env ((d.look k).getD x0) := ex_dget hu ho hk (by
  cases h : d.look k with
  | none => rw [h] at g; cases g
  | some y => rfl) hs
/-- d.get(k, e) -/
theorem ex_dget2 {d : Dc α} {k : Str} (hu : X.A.units + 1 < cLine) (ho : EX X o env d) (hk : EX X a env k) (he : EX X e env x) (m : M2 X o "get" apos a e cpos) : EX X (.Call (.Attribute o "get" apos) [a, e] [] cpos) env ((d.look k).getD x) :=
  ex_of (pe_dget2 hu (mE X o) (mE X a) (mE X e) m) fun O fp σ H S Q q => ho O fp σ H S _ fun v1 H1 e1 r1 => by
    obtain ⟨ad, ws, h1, h2, h3⟩ := r1
    subst h1
    refine ⟨ad, rfl, .inl ⟨ws, wo_le _ _ trivial h2⟩, hk O fp σ H1 (S.ex e1) _ fun v2 H2 e2 r2 => he O fp σ H2 ((S.ex e1).ex e2) _ fun v3 H3 e3 r3 => ?_⟩
    have r2 : v2 = .str k := r2
    subst r2
    have e23 := e2.trans e3
    have h2' := (wo_ex (U := UU O fp) e23).le _ _ (show Pl (.dK ws) from trivial) h2
    have h3' := h3.mono (wo_ex (U := UU O fp) e23).le
    refine ⟨valV ws (.inr k), .inl ⟨ws, .inr k, wo_le _ _ trivial h2', rfl, rfl⟩, q _ H3 ((e1.trans e2).trans e3) ?_⟩
    rcases h3'.look k with ⟨n1, n2⟩ | ⟨v, x', hv, hx, rx⟩
    · unfold Dc.look; rw [n1, n2]; exact r3
    · unfold Dc.look; rw [hv, hx]; exact rx
theorem ex_din {d : Dc α} {k : Str} (hu : X.A.units + 1 < cLine) (hk : EX X a env k) (ho : EX X o env d) (hm : behindInMarks .In o = false := by rfl) : EX X (.Compare a [.In] [o] pos) env (d.has k) :=
  ex_of (pe_cmp (pc_din hu (mE X a) (mE X o)) hm) fun O fp σ H S Q q => hk O fp σ H S _ fun v2 H1 e1 r2 => ho O fp σ H1 (S.ex e1) _ fun v1 H2 e2 r1 => by
    obtain ⟨ad, ws, h1, h2, h3⟩ := r1
    have r2 : v2 = .str k := r2
    subst h1 r2
    refine ⟨ad, valV ws (.inr k), rfl, .inl ⟨ws, .inr k, wo_le _ _ trivial h2, rfl, rfl⟩, q _ H2 (e1.trans e2) ?_⟩
    show V.bl _ = V.bl _
    unfold Dc.has
    rcases h3.look k with ⟨n1, n2⟩ | ⟨v, x', hv, hx, rx⟩
    · rw [n1, n2]; rfl
    · rw [hv, hx]; rfl
theorem ex_dnotin {d : Dc α} {k : Str} (hu : X.A.units + 1 < cLine) (hk : EX X a env k) (ho : EX X o env d) (hm : behindInMarks .NotIn o = false := by rfl) : EX X (.Compare a [.NotIn] [o] pos) env (!d.has k) :=
  ex_of (pe_cmp (pc_dnotin hu (mE X a) (mE X o)) hm) fun O fp σ H S Q q => hk O fp σ H S _ fun v2 H1 e1 r2 => ho O fp σ H1 (S.ex e1) _ fun v1 H2 e2 r1 => by
    obtain ⟨ad, ws, h1, h2, h3⟩ := r1
    have r2 : v2 = .str k := r2
    subst h1 r2
    refine ⟨ad, valV ws (.inr k), rfl, .inl ⟨ws, .inr k, wo_le _ _ trivial h2, rfl, rfl⟩, q _ H2 (e1.trans e2) ?_⟩
    show V.bl _ = V.bl _
    unfold Dc.has
    rcases h3.look k with ⟨n1, n2⟩ | ⟨v, x', hv, hx, rx⟩
    · rw [n1, n2]; rfl
    · rw [hv, hx]; rfl
theorem call_lenD' : CallR X (.builtin "len") (fun xs H Q => ∃ a kvs, xs = [V.ref a] ∧ Rd H a (.dK kvs) ∧ Q (.int kvs.length) H) := by
  intro pins s σ H xs us Q I r h
  obtain ⟨a, kvs, rfl, ha, q⟩ := h
  obtain ⟨u, rfl, ru⟩ := vals1 r
  cases ru
  exact d_len I ha fun t s' I' => ⟨.int kvs.length, H, I', ⟨t, rfl⟩, q⟩
theorem ex_lenD {d : Dc α} (hm : X.mg "len" = none) (h : EX X a env d) (he : starEach [a] X.env = (false, eval a X.env) :: starEach [] X.env := by exact star_plain rfl _ _) (hpl : (backTo pos (starEach [] X.env)).any (·.1) = false := by exact star_pl rfl) (hg : Gl X "len" := by rfl) : EX X (.Call (.Name "len" p) [a] [] pos) env (d.kvs.length : Int) :=
  ex_callB call_lenD' hm PySem.boot_len (ea1 h he) (rc1 fun U v H bn r Q q => by
    obtain ⟨ad, ws, e, l, rl⟩ := r
    exact ⟨ad, ws, by rw [e], wo_le _ _ trivial l, q _ H (Ex.refl H) (show V.int _ = V.int _ by rw [Paired.length rl])⟩) hg (by decide) (by decide) he hpl
/-- a call of a built-in class that makes something new -/
theorem en_callTy {β : Type} [Own β] {y : β} {id : String} {n : Str} {r : List V → Hp → VK → Prop} {ys : List Sl} (hc : CallR X (.type id) r) (hm : X.mg n = none) (hv : bootBuiltins n = some (.type id)) (ha : EA X (e :: es) env ys)
    (hr : ∀ (U : Addr → Prop) (vs : List V) (H : Hp), (∀ a, U a → ∃ o, H a = some o) → ARep X.K (wo H U) vs ys → ∀ Q : VK, (∀ v L H', Ex H H' → (∀ a ∈ L, H a = none) → (∀ a ∈ L, ∃ o, H' a = some o) → (∀ Hf, Le (wo H' (fun a => U a ∨ a ∈ L)) Hf → Own.own X.K Hf H' v L y) → Q v H') → r vs H Q)
    (hg : Gl X n) (hn : n ≠ "__name__") (hdb : (n == ("__debug__" : Str)) = false) (he : starEach (e :: es) X.env = (false, eval e X.env) :: starEach es X.env) (hpl : (backTo pos (starEach es X.env)).any (·.1) = false) : EN X (.Call (.Name n p) (e :: es) [] pos) env y := by
  intro O fp σ H S Q q
  refine tE_of fun pins s I => ?_
  refine (pe_callTy hc hg hm hv (mA X _) hn hdb he hpl).run pins s σ H Q I ?_
  refine ha O fp σ H S _ fun vs H1 e1 ar => ?_
  exact hr (UU O fp) vs H1 (S.ex e1).bndU ar Q fun v L H' e2 hL hd ow => q v L H' (e1.trans e2) (fun b hb => e1.free (hL b hb)) hd ow
theorem en_callTy1 {β : Type} [Own β] {y : β} {id : String} {n : Str} {r : List V → Hp → VK → Prop} (hc : CallR X (.type id) r) (hm : X.mg n = none) (hv : bootBuiltins n = some (.type id)) (ha : EX X e env x)
    (hr : ∀ (U : Addr → Prop) (v : V) (H : Hp), Dat.rep X.K (wo H U) v x → ∀ Q : VK, (∀ v L H', Ex H H' → (∀ a ∈ L, H a = none) → (∀ a ∈ L, ∃ o, H' a = some o) → (∀ Hf, Le (wo H' (fun a => U a ∨ a ∈ L)) Hf → Own.own X.K Hf H' v L y) → Q v H') → r [v] H Q)
    (hg : Gl X n) (hn : n ≠ "__name__") (hdb : (n == ("__debug__" : Str)) = false) (he : starEach [e] X.env = (false, eval e X.env) :: starEach [] X.env) (hpl : (backTo pos (starEach [] X.env)).any (·.1) = false) : EN X (.Call (.Name n p) [e] [] pos) env y :=
  en_callTy hc hm hv (ea1 ha he) (fun U vs H bn ar Q q => by
    match vs, ar with
    | [v], ⟨r1, _⟩ => exact hr U v H r1 Q q) hg hn hdb he hpl
theorem le_new {H : Hp} {U : Addr → Prop} {u : Addr} {ob : HO} (hu : H u = none) : Le (wo H U) (wo (upd H u ob) (fun a => U a ∨ a ∈ [u])) := Ex.le fun b o hb => by
  obtain ⟨n, hb⟩ := wo_some hb
  have nb : b ≠ u := ne_of_none hb hu
  rw [wo_out fun z => z.elim n fun m => nb (List.mem_singleton.mp m), upd_ne nb]
  exact hb
/-- dict(d), one's own copy; as data -/
theorem en_dictD {d : Dc α} (hm : X.mg "dict" = none) (h : EX X a env d) (he : starEach [a] X.env = (false, eval a X.env) :: starEach [] X.env := by exact star_plain rfl _ _) (hpl : (backTo pos (starEach [] X.env)).any (·.1) = false := by exact star_pl rfl) (hg : Gl X "dict" := by rfl) : EN X (.Call (.Name "dict" p) [a] [] pos) env (OD.mk d) :=
  en_callTy1 call_dictD hm (by decide +kernel) h (fun U v H r1 Q q => by
      obtain ⟨ad, ws, h1, h2, h3⟩ := r1
      refine ⟨ad, ws, by rw [h1], wo_le _ _ trivial h2, fun u hu => ?_⟩
      exact q (.ref u) [u] _ (Ex.new hu) (fun b hb => by rw [List.mem_singleton.mp hb]; exact hu) (fun b hb => by rw [List.mem_singleton.mp hb]; exact ⟨_, upd_same⟩) fun Hf le => ⟨u, ws, rfl, rfl, upd_same, h3.mono (Le.trans (le_new hu) le)⟩) hg (by decide) (by decide) he hpl
theorem ex_new {β : Type} [Own β] {x : β} (h : EN X e env x) (hf : ∀ K Hf H v L, Own.own K Hf H v L x → (∀ a ∈ L, Hf a = H a) → Dat.rep K Hf v y) : EX X e env y := fun O fp σ H S Q q => h O fp σ H S Q fun v L H' e1 hL hd ow => q v H' e1 (hf _ _ H' v L (ow _ (wo_mono fun a z => .inl z).le) fun a ha => wo_out fun z => by
  obtain ⟨o, q⟩ := S.bndU a z
  rw [hL a ha] at q
  cases q)
theorem ex_newL (h : EN X e env (OL.mk xs)) : EX X e env xs := ex_new h fun _ _ _ _ _ => own_frzL
theorem ex_newD {d : Dc α} (h : EN X e env (OD.mk d)) : EX X e env d := ex_new h fun _ _ _ _ _ => own_frzD
theorem ARep.all {K : PySem.W.Frag} {H : Hp} : ∀ {vs : List V} {ys : List α}, ARep K H vs (ys.map Sl.dat) → repL K H vs ys
  | [], [], _ => .nil
  | _ :: _, _ :: _, h => .cons h.1 (ARep.all h.2)
  | [], _ :: _, h => by simp [ARep] at h
  | _ :: _, [], h => by simp [ARep] at h
/-- [a, b, ..] -/
theorem en_lst (h : EA X es env (xs.map Sl.dat)) (hl : xs.length ≤ 100000 := by exact Nat.le_of_ble_eq_true rfl) : EN X (.List es pos) env (OL.mk xs) := by
  intro O fp σ H S Q q
  refine tE_of fun pins s I => ?_
  refine (pe_lst (mA X es)).run pins s σ H Q I ?_
  refine h O fp σ H S _ fun vs H1 e1 ar => ?_
  have rl := ARep.all ar
  refine ⟨sz_of (by rw [Paired.length rl]; exact hl), fun u hu => ?_⟩
  exact q (.ref u) [u] _ (e1.trans (Ex.new hu)) (fun b hb => by rw [List.mem_singleton.mp hb]; exact e1.free hu) (fun b hb => by rw [List.mem_singleton.mp hb]; exact ⟨_, upd_same⟩) fun Hf le => ⟨u, vs, rfl, rfl, upd_same, rl.mono (Le.trans (le_new hu) le)⟩
theorem ex_lst (h : EA X es env (xs.map Sl.dat)) (hl : xs.length ≤ 100000 := by exact Nat.le_of_ble_eq_true rfl) : EX X (.List es pos) env xs := ex_newL (en_lst h hl)
/-- list(xs) -/
theorem en_list (hm : X.mg "list" = none) (h : EX X a env xs) (he : starEach [a] X.env = (false, eval a X.env) :: starEach [] X.env := by exact star_plain rfl _ _) (hpl : (backTo pos (starEach [] X.env)).any (·.1) = false := by exact star_pl rfl) (hg : Gl X "list" := by rfl) : EN X (.Call (.Name "list" p) [a] [] pos) env (OL.mk xs) :=
  en_callTy1 call_list_of hm (by decide +kernel) h (fun U v H r1 Q q => by
      obtain ⟨ad, ws, h1, h2, h3⟩ := r1
      refine ⟨ad, ws, by rw [h1], .inl (wo_le.lst h2), fun u hu => ?_⟩
      exact q (.ref u) [u] _ (Ex.new hu) (fun b hb => by rw [List.mem_singleton.mp hb]; exact hu) (fun b hb => by rw [List.mem_singleton.mp hb]; exact ⟨_, upd_same⟩) fun Hf le => ⟨u, ws, rfl, rfl, upd_same, h3.mono (Le.trans (le_new hu) le)⟩) hg (by decide) (by decide) he hpl
theorem ex_some (h : EX X e env x) : EX X e env (some x) := fun O fp σ H S Q q => h O fp σ H S Q fun v H' e1 r => q v H' e1 r
theorem ex_noneO (h : EX X e env ()) : EX X e env (none : Option α) := fun O fp σ H S Q q => h O fp σ H S Q fun v H' e1 r => q v H' e1 r
theorem ex_getO {m : Option α} {x0 : α} (h : EX X e env m) (g : m.isSome = true) : EX X e env (m.getD x0) := fun O fp σ H S Q q => h O fp σ H S Q fun v H' e1 r => q v H' e1 (by
  cases m with
  | none => cases g
  | some y => exact r)
end
end R
set_option maxHeartbeats 400000
set_option autoImplicit false
namespace R
open PySem PySem.Spec PyProof.Rows L2
/-! ### paths: expressions that lead to a thing that is there -/
def EPth {α : Type} [Dat α] (X : Cx) (e : Expr) (env : Env') (x : α) : Prop :=
  ∀ O fp σ H, SOk X.K O fp env σ H → ∃ v, Dat.rep X.K (wo H (UU O fp)) v x ∧ ∀ H1, Le H H1 → ∀ Q : VK, Q v H1 → tE X e σ H1 Q
section
variable {K : PySem.W.Frag} {O : Addr → Prop} {fp fp' : Nat → List Addr} {env : Env'} {σ : L2.St} {H H' : Hp}
theorem SOk.conv (S : SOk K O fp env σ H) (h1 : Le (wo H (UU O fp)) (wo H' (UU O fp))) (h2 : ∀ i a, a ∈ fp i → H' a = H a) (h3 : ∀ a o, H a = some o → ∃ o', H' a = some o') : SOk K O fp env σ H' where
  len := S.len
  bnd := fun a h => let ⟨o, q⟩ := S.bnd a h; h3 a o q
  fpO := S.fpO
  sep := S.sep
  dom := fun i a h => let ⟨o, q⟩ := S.dom i a h; h3 a o q
  sl := fun i s q => by
    have r := S.sl i s q
    cases s with
    | any => exact trivial
    | dat x =>
      obtain ⟨v, a, b⟩ := r
      exact ⟨v, a, Dat.mono h1 b⟩
    | own x =>
      obtain ⟨v, a, b⟩ := r
      exact ⟨v, a, Own.frame h1 (fun c hc => h2 i c hc) b⟩
theorem lock_le {a : Addr} {ws : List (Key × V)} {od : Obj} (h : H a = some (.dK ws)) : Le H (upd H a (.frz od (.dK ws))) := fun b w pl r => by
  by_cases e : b = a
  · subst e
    rcases r with r | ⟨o, r⟩
    · rw [h] at r; cases r; exact .inr ⟨od, upd_same⟩
    · rw [h] at r; cases r
  · rcases r with r | ⟨o, r⟩
    · exact .inl (by rw [upd_ne e]; exact r)
    · exact .inr ⟨o, by rw [upd_ne e]; exact r⟩
theorem unlock_le {a : Addr} {ws : List (Key × V)} {od : Obj} (h : H a = some (.frz od (.dK ws))) : Le H (upd H a (.dK ws)) := fun b w pl r => by
  by_cases e : b = a
  · subst e
    rcases r with r | ⟨o, r⟩
    · rw [h] at r; cases r; exact pl.elim
    · rw [h] at r; cases r; exact .inl upd_same
  · rcases r with r | ⟨o, r⟩
    · exact .inl (by rw [upd_ne e]; exact r)
    · exact .inr ⟨o, by rw [upd_ne e]; exact r⟩
theorem wo_upd_out {U : Addr → Prop} {a : Addr} {o : HO} (h : ¬ U a) : wo (upd H a o) U = upd (wo H U) a o := by
  funext b
  by_cases e : b = a
  · subst e; rw [upd_same, wo_out h, upd_same]
  · rw [upd_ne e]
    by_cases u : U b
    · rw [wo_in u, wo_in u]
    · rw [wo_out u, wo_out u, upd_ne e]
theorem SOk.lock (S : SOk K O fp env σ H) {a : Addr} {ws : List (Key × V)} {od : Obj} (h : wo H (UU O fp) a = some (.dK ws)) : SOk K O fp env σ (upd H a (.frz od (.dK ws))) := by
  obtain ⟨n, h'⟩ := wo_some h
  refine S.conv ?_ (fun i b hb => upd_ne fun e => n (.inr ⟨i, by rw [← e]; exact hb⟩)) fun b o q => ?_
  · rw [wo_upd_out n]; exact lock_le h
  · by_cases e : b = a
    · subst e; exact ⟨_, upd_same⟩
    · exact ⟨o, by rw [upd_ne e]; exact q⟩
theorem SOk.unlock (S : SOk K O fp env σ H) {a : Addr} {ws : List (Key × V)} {od : Obj} (h : H a = some (.frz od (.dK ws))) (n : ¬ UU O fp a) : SOk K O fp env σ (upd H a (.dK ws)) := by
  refine S.conv ?_ (fun i b hb => upd_ne fun e => n (.inr ⟨i, by rw [← e]; exact hb⟩)) fun b o q => ?_
  · rw [wo_upd_out n]; exact unlock_le (by rw [wo_out n]; exact h)
  · by_cases e : b = a
    · subst e; exact ⟨_, upd_same⟩
    · exact ⟨o, by rw [upd_ne e]; exact q⟩
end
section
variable {X : Cx} {W : WX} {env env' : Env'} {ρ α β γ : Type} [Res ρ] [Dat α] [Dat β] [Dat γ] {po : Po ρ} {x : α} {y : β} {z : γ} {e a b c tg iter o : Expr} {es : List Expr} {pos p p2 pc p3 apos cpos : Pos} {rest body : List Stmt} {xs : List α}
theorem ep_var {i : Nat} {n : Str} {pos : Pos} (h : env[i]? = some (Sl.dat x)) (hN : X.N[i]? = some n := by rfl) (hv : Vis X.env.scope n := by first | exact Or.inl rfl | exact Or.inr (Or.inl rfl) | exact Or.inr (Or.inr rfl)) (hd : (n == ("__debug__" : Str)) = false := by decide) (hc : (n == ("__classdict__" : Str)) = false := by decide) : EPth X (.Name n pos) env x := fun O fp σ H S => by
  obtain ⟨v, h1, h2⟩ := S.sl i _ h
  exact ⟨v, h2, fun H1 le Q q => tE_of fun pins s I => (pe_var hN hv hd hc).run pins s σ H1 Q I ⟨v, h1, q⟩⟩
theorem ep_ixT {τ : Type} [Dat τ] [T : Tup τ] {p : τ} {k j : Nat} {pos' : Pos} (h : EPth X a env p) (g : (T.comps p)[k]? = some (.dat x)) : EPth X (.Subscript a (.Constant (.int (k : Int)) j pos') pos) env x := fun O fp σ H S => by
  obtain ⟨v, h1, h2⟩ := h O fp σ H S
  rw [T.is] at h1
  obtain ⟨ad, vs, e, t, r⟩ := h1
  obtain ⟨u, hu, ru⟩ := r.get g
  refine ⟨u, ru, fun H1 le Q q => tE_of fun pins s I => (pe_ix ix_tup (mE X a) pe_int (fun _ _ => rfl)).run pins s σ H1 Q I ?_⟩
  exact h2 H1 le _ ⟨ad, vs, k, u, e, rfl, le.tup (wo_le.tup t), atI_nat hu, q⟩
/-- a loop over what a dict has: J its turns, xs what they give -/
theorem sx_forD {S : Type} {δ : Type} [Dat δ] {d : Dc δ} (u : S → Env') (I : List α → S → Prop) (s0 : S) (J : Addr → Obj → List (Key × V) → It) (wi : TI) (hc : X.calm = true) (hp : PassesOwn (model X.prog X.w) X.A X.env X.xe) (hPI : PI X tg iter wi)
    (hw : ∀ σ H1 ad od ws (R : It → Hp → Prop), H1 ad = some (.frz od (.dK ws)) → (∀ Q : VK, Q (.ref ad) H1 → tE X e σ H1 Q) → R (J ad od ws) H1 → wi σ H1 R)
    (hy : ∀ U H1 ad od ws, wo H1 U ad = some (.frz od (.dK ws)) → repD X.K (wo H1 U) ws d.kvs → Yields X.K (J ad od ws) U H1 xs)
    (he : EPth X e env d) (h0 : Sub env (u s0)) (hI : I xs s0)
    (hb : ∀ x r s, I (x :: r) s → ∃ e1, GX X tg x (u s) e1 ∧ SX X W body e1 { po with N := fun e => ∃ s', Sub e (u s') ∧ I r s', C := fun e => ∃ s', Sub e (u s') ∧ I r s', B := fun e => ∃ s', Sub e (u s') ∧ I [] s', X := fun _ _ => False })
    (hd : ∀ s, I [] s → SX X W rest (u s) po) (hs : ∀ x, foldedSetIterable iter X.env x = pure x := by intro _; rfl) : SX X W (.For tg iter body [] pos :: rest) env po :=
  sx_cons (fun e => ∃ s, Sub e (u s) ∧ I [] s) (fun O fp σ H S' D G => by
    refine tS_of fun pins s In => ?_
    obtain ⟨v, ⟨ad, ws, rfl, rd, rl⟩, hpth⟩ := he O fp σ H S'
    have key : ∀ (H1 : Hp) (od : Obj) (D1 : Ends), Le H H1 → H1 ad = some (.frz od (.dK ws)) → SOk X.K O fp env σ H1 → wo H1 (UU O fp) ad = some (.frz od (.dK ws)) → repD X.K (wo H1 (UU O fp)) ws d.kvs → Goes X.K X.mg W { po with N := fun e => (∃ s, Sub e (u s) ∧ I [] s) ∨ ∃ s, Sub e (u s) ∧ I [] s, X := fun _ _ => False } O fp H1 D1 →
        tFor (tI X tg iter) (tG X tg) (tSs X body) D1 σ H1 := fun H1 od D1 le hl S1 hv hr G1 =>
      for_core (po := { po with X := fun _ _ => False }) u I (fun e => ∃ s, Sub e (u s) ∧ I [] s) s0 S1 (fun R r => tI_of fun pins s In => hPI.run pins s σ H1 R In (hw σ H1 ad od ws R hl (fun Q q => hpth H1 le Q q) (r _ H1 (Ex.refl _) (hy _ H1 ad od ws hv hr)))) h0 hI hb G1
    have pf := ps_for (pos := pos) hp hc (mI X tg iter) (mG X tg) (mSs X body) hs
    rcases rd with rd | ⟨od, rd⟩
    · obtain ⟨n, rd'⟩ := wo_some rd
      refine (ps_lock pf).run pins s σ H D In ⟨ad, .dK ws, rd', trivial, fun od => ?_⟩
      refine key _ od _ (lock_le rd') upd_same (S'.lock rd) (by rw [wo_out n, upd_same]) (rl.mono (by rw [wo_upd_out n]; exact lock_le rd)) ?_
      have nf : ¬ ∃ i, ad ∈ fp i := fun z => n (.inr z)
      have un : ∀ {fp' : Nat → List Addr} {H' : Hp}, Keep fp (upd H ad (.frz od (.dK ws))) fp' H' → H' ad = some (.frz od (.dK ws)) ∧ Keep fp H fp' (upd H' ad (.dK ws)) ∧ ¬ UU O fp' ad := fun {fp' H'} kp => by
        have h1 := kp.1 ad _ nf upd_same
        refine ⟨h1, ⟨fun b o nb q => ?_, fun i b hb => ?_⟩, ?_⟩
        · by_cases e : b = ad
          · subst e; rw [rd'] at q; cases q; exact upd_same
          · rw [upd_ne e]
            exact kp.1 b o nb (by rw [upd_ne e]; exact q)
        · rcases kp.2 i b hb with z | z
          · exact .inl z
          · refine .inr ?_
            have e : b ≠ ad := fun e => by subst e; rw [upd_same] at z; cases z
            rw [upd_ne e] at z
            exact z
        · rintro (z | ⟨i, z⟩)
          · exact n (.inl z)
          · rcases kp.2 i ad z with y | y
            · exact nf y
            · rw [upd_same] at y; cases y
      refine ⟨fun e' f s2 h m k q => ?_, fun r e' f s2 v h m k q rp => ?_, fun _ _ _ _ _ _ _ m => m.elim, fun e' f s2 h m k q => ?_, fun e' f s2 h m k q => ?_⟩
      · obtain ⟨a1, a2, a3⟩ := un k
        exact ⟨a1, G.nx e' f s2 _ (m.elim id id) a2 (q.unlock a1 a3)⟩
      · obtain ⟨a1, a2, a3⟩ := un k
        refine ⟨a1, G.rt r e' f s2 v _ m a2 (q.unlock a1 a3) (Res.mono ?_ (fun b hb => upd_ne fun e => a3 (.inr (e ▸ hb))) rp)⟩
        rw [wo_upd_out a3]
        exact unlock_le (by rw [wo_out a3]; exact a1)
      · obtain ⟨a1, a2, a3⟩ := un k
        exact ⟨a1, G.bk e' f s2 _ m a2 (q.unlock a1 a3)⟩
      · obtain ⟨a1, a2, a3⟩ := un k
        exact ⟨a1, G.ct e' f s2 _ m a2 (q.unlock a1 a3)⟩
    · obtain ⟨n, rd'⟩ := wo_some rd
      refine pf.run pins s σ H D In (key H od D (Le.refl H) rd' S' rd rl ⟨fun e' f s2 h m k q => G.nx e' f s2 h (m.elim id id) k q, G.rt, fun _ _ _ _ _ _ _ m => m.elim, G.bk, G.ct⟩)) fun e ⟨s, h, q⟩ => sx_sub h (hd s q)
theorem repD.get {δ : Type} [Dat δ] {K : PySem.W.Frag} {H : Hp} : ∀ {ws : List (Key × V)} {kvs : List (Str × δ)} {i : Nat} {k : Str} {x : δ}, repD K H ws kvs → kvs[i]? = some (k, x) → ∃ v, ws[i]? = some (.inr k, v) ∧ Dat.rep K H v x
  | _, _, i, k, x, .nil, q => by simp at q
  | (k1, v1) :: _, (k2, x2) :: _, 0, k, x, .cons h t, q => by
    have q : (k2, x2) = (k, x) := by simpa using q
    cases q
    obtain ⟨h1, h2⟩ := h
    have h1 : k1 = .inr k2 := h1
    subst h1
    exact ⟨v1, rfl, h2⟩
  | _, _, i + 1, k, x, .cons h t, q => by
    have := repD.get (i := i) (k := k) (x := x) t (by simpa using q)
    simpa using this
theorem yields_items {δ : Type} [Dat δ] {d : Dc δ} (K : PySem.W.Frag) : ∀ U H1 ad od ws, wo H1 U ad = some (.frz od (.dK ws)) → repD K (wo H1 U) ws d.kvs → Yields K (Iti ad od ws) U H1 d.kvs := fun U H1 ad od ws hv hr H' U' bn ex i => by
  have hl : H' ad = some (.frz od (.dK ws)) := (wo_some (ex ad _ hv)).2
  refine ⟨fun ⟨k, x⟩ hx => ?_, fun hi => ⟨hl, by rw [Paired.length hr]; exact hi⟩⟩
  obtain ⟨v, hv2, rv⟩ := hr.get hx
  refine ⟨⟨hl, (List.getElem?_eq_some_iff.mp hv2).1⟩, fun u H'' ⟨T, k', v', g, e1, e2, e3⟩ => ?_⟩
  rw [hv2] at g
  cases g
  subst e1 e3
  have n : ¬ U' T := fun z => by obtain ⟨o, q⟩ := bn T z; rw [e2] at q; cases q
  exact ⟨Ex.new e2, T, [_, _], rfl, .inl (.inl (upd_out n)), rfl, Dat.mono (ex.le.trans (wo_ex (Ex.new e2)).le) rv, trivial⟩
theorem yields_values {δ : Type} [Dat δ] {d : Dc δ} (K : PySem.W.Frag) : ∀ U H1 ad od ws, wo H1 U ad = some (.frz od (.dK ws)) → repD K (wo H1 U) ws d.kvs → Yields K (Itd ad od ws) U H1 (d.kvs.map (·.2)) := fun U H1 ad od ws hv hr H' U' bn ex i => by
  have hl : H' ad = some (.frz od (.dK ws)) := (wo_some (ex ad _ hv)).2
  refine ⟨fun x hx => ?_, fun hi => ⟨hl, by rw [Paired.length hr]; simpa using hi⟩⟩
  rw [List.getElem?_map] at hx
  cases hk : d.kvs[i]? with
  | none => rw [hk] at hx; cases hx
  | some kx =>
    obtain ⟨k, x'⟩ := kx
    rw [hk] at hx
    have hx : x' = x := by simpa using hx
    subst hx
    obtain ⟨v, hv2, rv⟩ := hr.get hk
    refine ⟨⟨hl, (List.getElem?_eq_some_iff.mp hv2).1⟩, fun u H'' ⟨e1, k', g⟩ => ?_⟩
    rw [hv2] at g
    cases g
    subst e1
    exact ⟨Ex.refl _, Dat.mono ex.le rv⟩
theorem yields_keys {δ : Type} [Dat δ] {d : Dc δ} (K : PySem.W.Frag) : ∀ U H1 ad od ws, wo H1 U ad = some (.frz od (.dK ws)) → repD K (wo H1 U) ws d.kvs → Yields K (Itk ad od ws) U H1 (d.kvs.map (·.1)) := fun U H1 ad od ws hv hr H' U' bn ex i => by
  have hl : H' ad = some (.frz od (.dK ws)) := (wo_some (ex ad _ hv)).2
  refine ⟨fun x hx => ?_, fun hi => ⟨hl, by rw [Paired.length hr]; simpa using hi⟩⟩
  rw [List.getElem?_map] at hx
  cases hk : d.kvs[i]? with
  | none => rw [hk] at hx; cases hx
  | some kx =>
    obtain ⟨k, x'⟩ := kx
    rw [hk] at hx
    have hx : k = x := by simpa using hx
    subst hx
    obtain ⟨v, hv2, rv⟩ := hr.get hk
    refine ⟨⟨hl, (List.getElem?_eq_some_iff.mp hv2).1⟩, fun u H'' ⟨e1, k', v', g, e2⟩ => ?_⟩
    rw [hv2] at g
    cases g
    subst e1 e2
    exact ⟨Ex.refl _, rfl⟩
theorem hw_items : ∀ σ H1 ad od ws (R : It → Hp → Prop), H1 ad = some (.frz od (.dK ws)) → (∀ Q : VK, Q (.ref ad) H1 → tE X e σ H1 Q) → R (Iti ad od ws) H1 → iItems (tE X e) σ H1 R := fun σ H1 ad od ws R hl hp r => hp _ ⟨ad, od, ws, rfl, hl, r⟩
theorem hw_values : ∀ σ H1 ad od ws (R : It → Hp → Prop), H1 ad = some (.frz od (.dK ws)) → (∀ Q : VK, Q (.ref ad) H1 → tE X e σ H1 Q) → R (Itd ad od ws) H1 → iVals (tE X e) σ H1 R := fun σ H1 ad od ws R hl hp r => hp _ ⟨ad, od, ws, rfl, hl, r⟩
theorem hw_keys : ∀ σ H1 ad od ws (R : It → Hp → Prop), H1 ad = some (.frz od (.dK ws)) → (∀ Q : VK, Q (.ref ad) H1 → tE X e σ H1 Q) → R (Itk ad od ws) H1 → iKeys (tE X e) σ H1 R := fun σ H1 ad od ws R hl hp r => hp _ ⟨ad, od, rfl, .inl ⟨ws, hl, r⟩⟩
theorem hw_keysM : ∀ σ H1 ad od ws (R : It → Hp → Prop), H1 ad = some (.frz od (.dK ws)) → (∀ Q : VK, Q (.ref ad) H1 → tE X e σ H1 Q) → R (Itk ad od ws) H1 → iKeysM (tE X e) σ H1 R := fun σ H1 ad od ws R hl hp r => hp _ ⟨ad, od, ws, rfl, hl, r⟩
theorem sx_forDF' {S : Type} {δ : Type} [Dat δ] {d : Dc δ} (uu : S → Env' → Env') (step : S → α → S) (okb : S → α → Prop) (s0 : S) {J : Addr → Obj → List (Key × V) → It} {wi : TI} (hc : X.calm = true) (hp : PassesOwn (model X.prog X.w) X.A X.env X.xe) (hPI : PI X tg iter wi)
    (hw : ∀ σ H1 ad od ws (R : It → Hp → Prop), H1 ad = some (.frz od (.dK ws)) → (∀ Q : VK, Q (.ref ad) H1 → tE X e σ H1 Q) → R (J ad od ws) H1 → wi σ H1 R)
    (hy : ∀ U H1 ad od ws, wo H1 U ad = some (.frz od (.dK ws)) → repD X.K (wo H1 U) ws d.kvs → Yields X.K (J ad od ws) U H1 xs)
    (he : EPth X e env d) (h0 : Sub env (uu s0 env)) (hk : okFold okb step s0 xs)
    (hb : ∀ x s, okb s x → ∃ e1, GX X tg x (uu s env) e1 ∧ SX X W body e1 { po with N := fun e => Sub e (uu (step s x) env), C := fun e => Sub e (uu (step s x) env), B := fun _ => False, X := fun _ _ => False })
    (hd : SX X W rest (uu (xs.foldl step s0) env) po) (hs : ∀ x, foldedSetIterable iter X.env x = pure x := by intro _; rfl) : SX X W (.For tg iter body [] pos :: rest) env po :=
  sx_forD (fun s => uu s env) (fun r s => okFold okb step s r ∧ r.foldl step s = xs.foldl step s0) s0 J wi hc hp hPI hw hy he h0 ⟨hk, rfl⟩ (fun x r s ⟨⟨h1, h2⟩, h3⟩ => by
    obtain ⟨e1, g, b⟩ := hb x s h1
    exact ⟨e1, g, b.imp (fun e h => ⟨step s x, h, h2, h3⟩) (fun _ _ h => h) (fun _ _ h => h) (fun _ h => h.elim) (fun e h => ⟨step s x, h, h2, h3⟩)⟩) (fun s ⟨_, h⟩ => by
    have h : s = xs.foldl step s0 := h
    subst h
    exact hd) hs
theorem sx_forDR' {S T : Type} {δ : Type} [Dat δ] {d : Dc δ} (uu : S → Env' → Env') (step : S → α → Stp S T) (okb : S → α → Prop) (s0 : S) {J : Addr → Obj → List (Key × V) → It} {wi : TI} (hc : X.calm = true) (hp : PassesOwn (model X.prog X.w) X.A X.env X.xe) (hPI : PI X tg iter wi)
    (hw : ∀ σ H1 ad od ws (R : It → Hp → Prop), H1 ad = some (.frz od (.dK ws)) → (∀ Q : VK, Q (.ref ad) H1 → tE X e σ H1 Q) → R (J ad od ws) H1 → wi σ H1 R)
    (hy : ∀ U H1 ad od ws, wo H1 U ad = some (.frz od (.dK ws)) → repD X.K (wo H1 U) ws d.kvs → Yields X.K (J ad od ws) U H1 xs)
    (he : EPth X e env d) (h0 : Sub env (uu s0 env)) (hk : okRun okb step s0 xs)
    (hb : ∀ x r s, okb s x → (runL step s (x :: r) = runL step s0 xs) → ∃ e1, GX X tg x (uu s env) e1 ∧ SX X W body e1 { po with N := fun e => ∃ s', step s x = .go s' ∧ Sub e (uu s' env), C := fun e => ∃ s', step s x = .go s' ∧ Sub e (uu s' env), B := fun _ => False, X := fun _ _ => False })
    (hd : ∀ s, (runL step s0 xs = .go s ∨ runL step s0 xs = .brk s) → SX X W rest (uu s env) po) (hs : ∀ x, foldedSetIterable iter X.env x = pure x := by intro _; rfl) : SX X W (.For tg iter body [] pos :: rest) env po :=
  sx_forD (fun s => uu s env) (fun r s => okRun okb step s r ∧ runL step s r = runL step s0 xs) s0 J wi hc hp hPI hw hy he h0 ⟨hk, rfl⟩ (fun x r s ⟨⟨h1, h2⟩, h3⟩ => by
    obtain ⟨e1, g, b⟩ := hb x r s h1 h3
    have go : ∀ e, (∃ s', step s x = .go s' ∧ Sub e (uu s' env)) → ∃ s', Sub e (uu s' env) ∧ okRun okb step s' r ∧ runL step s' r = runL step s0 xs := fun e ⟨s', q, sb⟩ => by
      rw [q] at h2
      have h4 : runL step s (x :: r) = runL step s' r := by
        show (match step s x with | .go s' => runL step s' r | .brk s' => .brk s' | .ret r => .ret r) = _
        rw [q]
      exact ⟨s', sb, h2, h4.symm.trans h3⟩
    exact ⟨e1, g, b.imp go (fun _ _ h => h) (fun _ _ h => h) (fun _ h => h.elim) go⟩) (fun s ⟨_, h⟩ => hd s (.inl h.symm)) hs
/-! ### try -/
def tryV {S : Type} (b : Except Exn S) (h : Exn → S) : S := match b with | .ok s => s | .error e => h e
theorem tryV_ok {S : Type} {b : Except Exn S} {h : Exn → S} {s : S} (q : b = .ok s) : tryV b h = s := by subst q; rfl
theorem tryV_err {S : Type} {b : Except Exn S} {h : Exn → S} {e : Exn} (q : b = .error e) : tryV b h = h e := by subst q; rfl
def exnIn (l : List Str) : Exn → Bool
  | .one c => l.contains c
  | .clash _ _ => l.contains ("Clash" : Str)
  | .stuck _ _ _ => l.contains ("Stuck" : Str)
/-- a clause's class: which of the known errors it takes -/
structure CatC (K : PySem.W.Frag) (mg : Str → Option Value) (all some' : List Str) (x : Str) : Prop where
  ex : ∃ cv, mg x = some cv ∧ ∀ e Hf cls d, exnIn all e = true → ExAt mg K Hf e cls d → PySem.W.exmOne K cls cv = some (exnIn some' e)
/-- the class of an error as the clause's class takes it -/
theorem sx_tryO {x : Str} {cv : Value} {np ps' : Pos} {b0 : Stmt} {suite : List Stmt} (M : Env' → Prop) (Xb : Exn → Env' → Prop) (cat : Exn → Bool) (hs : X.stack = X.env :: X.outer) (hf : X.env.frame = some X.env.locals) (hc : Names X x cv) (tk : Takes X W)
    (hb : ∀ (W' : WX) (pn : List (Addr × Obj)) (xe : Value → Shared → Prop), Takes (X.tr pn xe) W' → PassesOwn (model X.prog X.w) X.A X.env xe → SX (X.tr pn xe) W' body env { po with N := M, X := Xb })
    (hk : ∀ e env', Xb e env' → ∀ Hf cls d, ExAt X.mg X.K Hf e cls d → PySem.W.exmOne X.K cls cv = some (cat e))
    (hsu : ∀ e env', Xb e env' → cat e = true → ∀ (ad : Addr) (oe : Obj) (cls : Value) (d : Option Addr) (pn : List (Addr × Obj)), Zc cls d oe → (∃ vs, oe.data = .fields vs) → SX (X.suite ad ((ad, oe) :: pn)) W (b0 :: suite) env' { po with N := M })
    (hn : ∀ e env', Xb e env' → cat e = false → po.X e env') (hr : ∀ e, M e → SX X W rest e po) : SX X W (.Try body [.ExceptHandler (some (.Name x np)) none (b0 :: suite) ps'] [] [] pos :: rest) env po :=
  sx_cons M (s1_of (ps_try_only (tb := fun W' D σ H => ∀ pn xe, Takes (X.tr pn xe) W' → PassesOwn (model X.prog X.w) X.A X.env xe → tSs (X.tr pn xe) body D σ H) (ts := fun ad cls d D σ H => ∀ oe pn, Zc cls d oe → (∃ vs, oe.data = .fields vs) → tSs (X.suite ad ((ad, oe) :: pn)) (b0 :: suite) D σ H) hs hf hc tk
    (fun W' pn xe t q => ⟨fun pins s σ H D I h => tSs_run (h pn xe t q) pins s I⟩) (fun ad oe cls d pn hz hfd => ⟨fun pins s σ H D I h => tSs_run (h oe pn hz hfd) pins s I⟩)) fun O fp σ H S D G => fun pn xe t q => hb _ pn xe t q O fp σ H S D ⟨G.nx, G.rt, fun e env' fp' σ' cls d H' hx kp S' xa => by
      refine ⟨cat e, hk e env' hx _ cls d xa, fun hce ad ha oe pn hz hfd => ?_, fun hce => G.ex e env' fp' σ' cls d H' (hn e env' hx hce) kp S' xa⟩
      exact hsu e env' hx hce ad oe cls d pn hz hfd O fp' σ' H' S' D (G.step kp), G.bk, G.ct⟩) hr
/-- try: .. except X: .. in a def where all that is raised is caught -/
theorem sx_tryO' {S : Type} {x : Str} {np ps' : Pos} {b0 : Stmt} {suite : List Stmt} {all some' : List Str} (uu : S → Env' → Env') (m : Except Exn S) (h : Exn → S) (hs : X.stack = X.env :: X.outer) (hf : X.env.frame = some X.env.locals) (cc : CatC X.K X.mg all some' x) (tk : Takes X W)
    (hv : ∀ e, m = .error e → exnIn all e = true ∧ exnIn some' e = true)
    (hb : ∀ (W' : WX) (pn : List (Addr × Obj)) (xe : Value → Shared → Prop), Takes (X.tr pn xe) W' → PassesOwn (model X.prog X.w) X.A X.env xe → SX (X.tr pn xe) W' body env { po with N := fun e => ∃ s, m = .ok s ∧ Sub e (uu s env), X := fun e env' => m = .error e ∧ env' = env })
    (hsu : ∀ e, m = .error e → ∀ (ad : Addr) (oe : Obj) (cls : Value) (d : Option Addr) (pn : List (Addr × Obj)), Zc cls d oe → (∃ vs, oe.data = .fields vs) → SX (X.suite ad ((ad, oe) :: pn)) W (b0 :: suite) env { po with N := fun e' => Sub e' (uu (h e) env) })
    (hr : SX X W rest (uu (tryV m h) env) po) (hg : Gl X x := by rfl) (hdb : (x == ("__debug__" : Str)) = false := by decide) : SX X W (.Try body [.ExceptHandler (some (.Name x np)) none (b0 :: suite) ps'] [] [] pos :: rest) env po := by
  obtain ⟨cv, hm, hx⟩ := cc.ex
  refine sx_tryO (fun e => Sub e (uu (tryV m h) env)) (fun e env' => m = .error e ∧ env' = env) (exnIn some') hs hf ⟨hg, hdb, .inl hm⟩ tk (fun W' pn xe t q => (hb W' pn xe t q).imp (fun e ⟨s, h1, h2⟩ => by rw [tryV_ok h1]; exact h2) (fun _ _ h => h) (fun _ _ h => h) (fun _ h => h) (fun _ h => h)) (fun e env' ⟨h1, _⟩ Hf cls d xa => hx e Hf cls d (hv e h1).1 xa) (fun e env' ⟨h1, h2⟩ _ ad oe cls d pn hz hfd => ?_) (fun e env' ⟨h1, _⟩ h2 => by rw [(hv e h1).2] at h2; cases h2) fun e h => sx_sub h hr
  subst h2
  exact (hsu e h1 ad oe cls d pn hz hfd).imp (fun e' h => by rw [tryV_err h1]; exact h) (fun _ _ h => h) (fun _ _ h => h) (fun _ h => h) (fun _ h => h)
end
end R
set_option maxHeartbeats 400000
set_option autoImplicit false
namespace R
open PySem PySem.Spec PyProof.Rows L2
/-! ### comprehensions -/
def wipeE (env : Env') : List Nat → Env'
  | [] => env
  | v :: vs => (wipeE env vs).set v .any
theorem SOk.wipe {K : PySem.W.Frag} {O : Addr → Prop} {fp : Nat → List Addr} {env : Env'} {σ : L2.St} {H : Hp} (S : SOk K O fp env σ H) : ∀ vs : List Nat, SOk K O fp (wipeE env vs) (L2.wipe σ vs) H
  | [] => S
  | v :: vs => (SOk.wipe S vs).forget v
/-- an own list in the making, out of sight -/
theorem SOk.hide {K : PySem.W.Frag} {O : Addr → Prop} {fp : Nat → List Addr} {env : Env'} {σ : L2.St} {H : Hp} {D : Addr} {o : HO} (S : SOk K O fp env σ H) (hD : H D = none) : SOk K (fun a => O a ∨ a = D) fp env σ (upd H D o) := by
  have nD : ¬ UU O fp D := S.fresh hD
  have le : Le (wo H (UU O fp)) (wo (upd H D o) (UU (fun a => O a ∨ a = D) fp)) := Ex.le fun b w h => by
    obtain ⟨n, q⟩ := wo_some h
    have nb : b ≠ D := ne_of_none q hD
    rw [wo_out, upd_ne nb]
    · exact q
    · rintro ((z | z) | z)
      · exact n (.inl z)
      · exact nb z
      · exact n (.inr z)
  exact {
    len := S.len
    bnd := fun a h => by
      rcases h with h | h
      · obtain ⟨w, q⟩ := S.bnd a h
        exact ⟨w, by rw [upd_ne (ne_of_none q hD)]; exact q⟩
      · subst h; exact ⟨o, upd_same⟩
    fpO := fun i a h => by
      rintro (z | z)
      · exact S.fpO i a h z
      · subst z; exact nD (.inr ⟨i, h⟩)
    sep := S.sep
    dom := fun i a h => by
      obtain ⟨w, q⟩ := S.dom i a h
      exact ⟨w, by rw [upd_ne (ne_of_none q hD)]; exact q⟩
    sl := fun i s q => by
      have r := S.sl i s q
      cases s with
      | any => exact trivial
      | dat x =>
        obtain ⟨v, a, b⟩ := r
        exact ⟨v, a, Dat.mono le b⟩
      | own x =>
        obtain ⟨v, a, b⟩ := r
        refine ⟨v, a, Own.frame le (fun c hc => ?_) b⟩
        obtain ⟨w, q⟩ := S.dom i c hc
        rw [upd_ne (ne_of_none q hD)] }
section
variable {X : Cx} {W : WX} {env env' : Env'} {ρ α β γ : Type} [Res ρ] [Dat α] [Dat β] [Dat γ] {po : Po ρ} {x : α} {y : β} {z : γ} {e a b c tg iter o : Expr} {es : List Expr} {pos p p2 pc p3 apos cpos : Pos} {rest body : List Stmt} {xs : List α}
/-- the block's contexts -/
abbrev Blk (X : Cx) (scope : Scope) (Φ : Cx → Prop) : Prop := ∀ (s : Shared) (H : Hp) (C : Addr) (cl : List (Str × Addr)) (fp : List Addr), Φ (X.blk s H scope (compEnvC scope cl C X.env) fp)
def tEb (X : Cx) (scope : Scope) (e : Expr) : TE := fun σ H Q => Blk X scope fun Y => tE Y e σ H Q
def tTb (X : Cx) (scope : Scope) (e : Expr) : TT := fun σ H Q => Blk X scope fun Y => tT Y e σ H Q
theorem mEb {scope : Scope} {e : Expr} (s : Shared) (H : Hp) (C : Addr) (cl : List (Str × Addr)) (fp : List Addr) : PE (X.blk s H scope (compEnvC scope cl C X.env) fp) e (tEb X scope e) := ⟨fun pins s1 σ H1 Q I h => tE_run (h s H C cl fp) pins s1 I⟩
theorem mTb {scope : Scope} {e : Expr} (s : Shared) (H : Hp) (C : Addr) (cl : List (Str × Addr)) (fp : List Addr) : PTs (X.blk s H scope (compEnvC scope cl C X.env) fp) [e] (tTb X scope e) := pts_one ⟨fun pins s1 σ H1 Q I h => tT_run (h s H C cl fp) pins s1 I⟩
/-- how a target stores an item: its own slots only -/
structure TgOk (α : Type) [Dat α] (X : Cx) (g : TG) (vs : List Nat) (env : Env') (mk : α → Env') : Prop where
  run : ∀ (x : α) O fp σ H v, SOk X.K O fp env σ H → Dat.rep X.K (wo H (UU O fp)) v x → L2.wipe σ vs = σ → ∀ Q : L2.St → Hp → Prop, (∀ σ', SOk X.K O fp (mk x) σ' H → L2.wipe σ' vs = σ → Q σ' H) → g v σ H Q
/-- what a comprehension gives -/
theorem lc_ev {scope : Scope} {tt : TT} {g : TG} {vs : List Nat} (mk : α → Env') (f : α → β) (t : α → Bool) (hi : IX X tg iter env xs) (hz : xs.length ≤ 100000) (hg : TgOk α X g vs (wipeE env vs) mk) (hww : ∀ σ : L2.St, L2.wipe (L2.wipe σ vs) vs = L2.wipe σ vs)
    (ht : ∀ x ∈ xs, EvT X.K tt (mk x) (t x)) (he : ∀ x ∈ xs, t x = true → Ev X.K (tEb X scope e) (mk x) (f x)) :
    ∀ O fp σ H, SOk X.K O fp env σ H → ∀ Q : VK, (∀ v L H', Ex H H' → (∀ a ∈ L, H a = none) → (∀ a ∈ L, ∃ o, H' a = some o) → (∀ Hf, Le (wo H' (fun a => UU O fp a ∨ a ∈ L)) Hf → Own.own X.K Hf H' v L (OL.mk ((xs.filter t).map f))) → Q v H') → tLc (tI X tg iter) g tt (tEb X scope e) vs σ H Q := by
  intro O fp σ H S Q q
  refine hi O fp σ H S _ fun J H1 e1 yl D hD => ?_
  have S1 := S.ex e1
  have S2 := S1.hide (o := .lst []) hD
  have hU : ∀ a, UU (fun a => O a ∨ a = D) fp a ↔ (UU O fp a ∨ a = D) := fun a => by
    constructor
    · rintro ((z | z) | z)
      · exact .inl (.inl z)
      · exact .inr z
      · exact .inl (.inr z)
    · rintro ((z | z) | z)
      · exact .inl (.inl z)
      · exact .inr z
      · exact .inl (.inr z)
  -- where one stands at turn i
  let Pv : Nat → Hp → Prop := fun i H' => ∃ ws, H' D = some (.lst ws) ∧ (∀ a o, a ≠ D → H1 a = some o → H' a = some o) ∧ repL X.K (wo H' (UU (fun a => O a ∨ a = D) fp)) ws (((xs.take i).filter t).map f)
  have SP : ∀ i H', Pv i H' → SOk X.K (fun a => O a ∨ a = D) fp env σ H' := fun i H' ⟨ws, h1, h2, _⟩ => by
    refine S2.conv (Ex.le fun a o hq => ?_) (fun j a ha => ?_) fun a o hq => ?_
    · obtain ⟨n, hq⟩ := wo_some hq
      have na : a ≠ D := fun z => n ((hU a).mpr (.inr z))
      rw [upd_ne na] at hq
      rw [wo_out n]
      exact h2 a o na hq
    · obtain ⟨o, hq⟩ := S1.dom j a ha
      have na : a ≠ D := ne_of_none hq hD
      rw [h2 a o na hq, upd_ne na, hq]
    · by_cases na : a = D
      · subst na; exact ⟨_, h1⟩
      · rw [upd_ne na] at hq; exact ⟨o, h2 a o na hq⟩
  have YL : ∀ i H', Pv i H' → (∀ x, xs[i]? = some x → J.go i H' ∧ ∀ v H'', J.yld i H' v H'' → Ex H' H'' ∧ Dat.rep X.K (wo H'' (UU (fun a => O a ∨ a = D) fp)) v x) ∧ (xs.length ≤ i → J.stop i H') := fun i H' pv => by
    refine yl H' _ (SP i H' pv).bndU (fun a o hq => ?_) i
    obtain ⟨ws, h1, h2, _⟩ := pv
    obtain ⟨n, hq⟩ := wo_some hq
    have na : a ≠ D := ne_of_none hq hD
    rw [wo_out fun z => ((hU a).mp z).elim n na]
    exact h2 a o na hq
  refine ⟨fun i m H' => m = xs.length - i ∧ i ≤ xs.length ∧ Pv i H', ⟨xs.length, by simp, Nat.zero_le _, [], upd_same, fun a o na h => by rw [upd_ne na]; exact h, .nil⟩, ?_⟩
  rintro i m H2 ⟨rfl, hle, pv⟩
  obtain ⟨y1, y2⟩ := YL i H2 pv
  by_cases hlt : i < xs.length
  · obtain ⟨x, hx⟩ : ∃ x, xs[i]? = some x := ⟨_, List.getElem?_eq_getElem hlt⟩
    have hm : x ∈ xs := List.mem_of_getElem? hx
    obtain ⟨go, yy⟩ := y1 x hx
    refine .inr ⟨go, Pv (i + 1), fun H' p' => ⟨_, by omega, rfl, hlt, p'⟩, fun v H3 yv => ?_⟩
    obtain ⟨e3, rv⟩ := yy v H3 yv
    have S3 := (SP i H2 pv).ex e3
    obtain ⟨ws, h1, h2, h3⟩ := pv
    have tk : xs.take (i + 1) = xs.take i ++ [x] := by rw [List.take_add_one, hx]; rfl
    refine hg.run x _ fp _ H3 v (S3.wipe vs) rv (hww σ) _ fun σ4 S4 w4 => ⟨w4.trans rfl, ?_⟩
    refine ht x hm _ fp σ4 H3 S4 _ fun H5 e5 => ?_
    cases htx : t x with
    | true =>
      show tEb X scope e σ4 H5 _
      refine he x hm htx _ fp σ4 H5 (S4.ex e5) _ fun y H6 e6 ry => ?_
      have e36 : Ex H2 H6 := (e3.trans e5).trans e6
      refine ⟨ws, e36 D _ h1, ?_, ws ++ [y], upd_same, fun a o na h => by rw [upd_ne na]; exact e36 a o (h2 a o na h), ?_⟩
      · have := Paired.length h3
        rw [List.length_map] at this
        have l2 := List.length_filter_le t (xs.take i)
        have l3 : (xs.take i).length ≤ xs.length := by rw [List.length_take]; omega
        exact Nat.lt_of_lt_of_le (show ws.length < 100001 by omega) (by decide)
      · rw [tk, List.filter_append, List.map_append]
        have : (List.filter t [x]).map f = [f x] := by simp [htx]
        rw [this, wo_upd_in (show UU (fun a => O a ∨ a = D) fp D from (hU D).mpr (.inr rfl))]
        exact Paired.app (h3.mono (wo_ex e36).le) ry
    | false =>
      show Pv (i + 1) H5
      have e35 : Ex H2 H5 := e3.trans e5
      refine ⟨ws, e35 D _ h1, fun a o na h => e35 a o (h2 a o na h), ?_⟩
      rw [tk, List.filter_append, List.map_append]
      have : (List.filter t [x]).map f = [] := by simp [htx]
      rw [this, List.append_nil]
      exact h3.mono (wo_ex e35).le
  · have ei : i = xs.length := by omega
    subst ei
    obtain ⟨ws, h1, h2, h3⟩ := pv
    have ek : ∀ a o, H1 a = some o → H2 a = some o := fun a o h => h2 a o (ne_of_none h hD) h
    refine .inl ⟨y2 (Nat.le_refl _), q (.ref D) [D] H2 (e1.trans ek) (fun a ha => by rw [List.mem_singleton.mp ha]; exact e1.free hD) (fun a ha => by rw [List.mem_singleton.mp ha]; exact ⟨_, h1⟩) fun Hf le => ⟨D, ws, rfl, rfl, h1, ?_⟩⟩
    rw [List.take_length] at h3
    refine h3.mono (Le.trans (wo_mono fun a z => ?_).le le)
    rcases z with z | z
    · exact (hU a).mpr (.inl z)
    · exact (hU a).mpr (.inr (List.mem_singleton.mp z))
/-- [e for n in it], [e for n in it if c] -/
theorem tg_name {j : Nat} {vs : List Nat} (hj : ∀ (σ : L2.St) (o : Option V), L2.wipe (σ.set j o) vs = L2.wipe σ vs) : TgOk α X (gName j) vs env (fun x => env.set j (.dat x)) := ⟨fun x O fp σ H v S r w Q q => q _ (S.set j r) (by rw [hj, w])⟩
theorem tg_pair {i j : Nat} {vs : List Nat} (hi : ∀ (σ : L2.St) (o : Option V), L2.wipe (σ.set i o) vs = L2.wipe σ vs) (hj : ∀ (σ : L2.St) (o : Option V), L2.wipe (σ.set j o) vs = L2.wipe σ vs) : TgOk (α × β) X (gTup X.K 2 (gCons (gName i) (gCons (gName j) gNil))) vs env (fun x => (env.set i (.dat x.1)).set j (.dat x.2)) := ⟨fun x O fp σ H v S r w Q q => by
  obtain ⟨ad, us, e, t, ar⟩ := r
  match us, ar with
  | [u1, u2], ⟨h1, h2, _⟩ =>
    exact ⟨ad, [u1, u2], e, wo_le.tup t, rfl, u1, [u2], rfl, u2, [], rfl, rfl, q _ ((S.set i h1).set j h2) (by rw [hj, hi, w])⟩⟩
theorem et_yes : EvT X.K tYes env true := fun O fp σ H S Q q => q H (Ex.refl H)
theorem ev_b {scope : Scope} (h : Blk X scope fun Y => EX Y e env x) : Ev X.K (tEb X scope e) env x := fun O fp σ H S Q q s H0 C cl fpp => h s H0 C cl fpp O fp σ H S Q q
theorem et_b {scope : Scope} {k : Bool} (h : Blk X scope fun Y => ET Y e env k) : EvT X.K (tTb X scope e) env k := fun O fp σ H S Q q s H0 C cl fpp => h s H0 C cl fpp O fp σ H S Q q
theorem en_lc {scope : Scope} {ifs : List Expr} {own : List (Str × Nat)} {tt : TT} {g : TG} (mk : α → Env') (f : α → β) (t : α → Bool) (hc : X.calm = true) (hN : X.N.Nodup) (ok : BlkOk X.N X.env.scope scope own) (hi : IX X tg iter env xs) (hz : xs.length ≤ 100000) (hg : TgOk α X g (own.map (·.2)) (wipeE env (own.map (·.2))) mk) (hww : ∀ σ : L2.St, L2.wipe (L2.wipe σ (own.map (·.2))) (own.map (·.2)) = L2.wipe σ (own.map (·.2)))
    (pg : ∀ (s : Shared) (H : Hp) (C : Addr) (cl : List (Str × Addr)) (fp : List Addr), PG (X.blk s H scope (compEnvC scope cl C X.env) fp) tg g) (pt : ∀ (s : Shared) (H : Hp) (C : Addr) (cl : List (Str × Addr)) (fp : List Addr), PTs (X.blk s H scope (compEnvC scope cl C X.env) fp) ifs tt)
    (ht : ∀ x ∈ xs, EvT X.K tt (mk x) (t x)) (he : ∀ x ∈ xs, t x = true → Blk X scope fun Y => EX Y e (mk x) (f x)) (hs : ∀ x, foldedSetIterable iter X.env x = pure x := by intro _; rfl) : EN X (.ListComp e [⟨tg, iter, ifs, 0⟩] scope pos) env (OL.mk ((xs.filter t).map f)) := fun O fp σ H S Q q => tE_of fun pins s I =>
  (pe_lc hc hN (mI X tg iter) ok pg pt (fun s H C cl fp => mEb s H C cl fp) hs).run pins s σ H Q I (lc_ev mk f t hi hz hg hww ht (fun x hx h => ev_b (he x hx h)) O fp σ H S Q q)
/-- y = [..], y a local name: one's own list -/
theorem sx_newLc {i : Nat} {y : Str} {scope : Scope} {ifs : List Expr} {own : List (Str × Nat)} {tt : TT} {g : TG} (mk : α → Env') (f : α → β) (t : α → Bool) (hc : X.calm = true) (hN : X.N.Nodup) (ok : BlkOk X.N X.env.scope scope own) (hi : IX X tg iter env xs) (hz : xs.length ≤ 100000) (hg : TgOk α X g (own.map (·.2)) (wipeE env (own.map (·.2))) mk) (hww : ∀ σ : L2.St, L2.wipe (L2.wipe σ (own.map (·.2))) (own.map (·.2)) = L2.wipe σ (own.map (·.2)))
    (pg : ∀ (s : Shared) (H : Hp) (C : Addr) (cl : List (Str × Addr)) (fp : List Addr), PG (X.blk s H scope (compEnvC scope cl C X.env) fp) tg g) (pt : ∀ (s : Shared) (H : Hp) (C : Addr) (cl : List (Str × Addr)) (fp : List Addr), PTs (X.blk s H scope (compEnvC scope cl C X.env) fp) ifs tt)
    (ht : ∀ x ∈ xs, EvT X.K tt (mk x) (t x)) (he : ∀ x ∈ xs, t x = true → Blk X scope fun Y => EX Y e (mk x) (f x)) (hr : SX X W rest (env.set i (.own (OL.mk ((xs.filter t).map f)))) po)
    (hy : X.N[i]? = some y) (hyl : X.env.scope.names.lookup y = some .local) (hsw : swapsWith (.ListComp e [⟨tg, iter, ifs, 0⟩] scope pos) (some (.Name y p2)) p3.line X.env = pure true) (hs : ∀ x, foldedSetIterable iter X.env x = pure x := by intro _; rfl) : SX X W (.Assign [.Name y p2] (.ListComp e [⟨tg, iter, ifs, 0⟩] scope pos) p3 :: rest) env po :=
  sx_step (ps_setLc hc hN hy hyl hsw (mI X tg iter) ok pg pt (fun s H C cl fp => mEb s H C cl fp) hs) (fun O fp σ H S D q => lc_ev mk f t hi hz hg hww ht (fun x hx h => ev_b (he x hx h)) O fp σ H S _ fun v L H1 e1 hL hd r1 => q (setF fp i L) _ H1 (Keep.new e1 hL) (S.new e1 hL hd r1)) hr
end
theorem wipe_set {i : Nat} (σ : L2.St) (o : Option V) : (σ.set i o).set i none = σ.set i none := List.set_set _
theorem wipe_1 (j : Nat) : ∀ (σ : L2.St) (o : Option V), L2.wipe (σ.set j o) [j] = L2.wipe σ [j] := fun σ o => List.set_set _
theorem hww_1 (j : Nat) : ∀ σ : L2.St, L2.wipe (L2.wipe σ [j]) [j] = L2.wipe σ [j] := fun σ => List.set_set _
theorem set2 (i j : Nat) (σ : L2.St) : ((((σ.set j none).set i none).set j none).set i none) = (σ.set j none).set i none := by
  by_cases e : i = j
  · subst e; rw [List.set_set, List.set_set, List.set_set]
  · rw [List.set_comm _ _ e, List.set_set, List.set_set]
theorem hww_2 (i j : Nat) : ∀ σ : L2.St, L2.wipe (L2.wipe σ [i, j]) [i, j] = L2.wipe σ [i, j] := fun σ => set2 i j σ
theorem wipe_2a (i j : Nat) : ∀ (σ : L2.St) (o : Option V), L2.wipe (σ.set i o) [i, j] = L2.wipe σ [i, j] := fun σ o => by
  show (((σ.set i o).set j none).set i none) = (σ.set j none).set i none
  by_cases e : i = j
  · subst e; rw [List.set_set, List.set_set, List.set_set]
  · rw [List.set_comm _ _ e, List.set_set]
theorem wipe_2b (i j : Nat) : ∀ (σ : L2.St) (o : Option V), L2.wipe (σ.set j o) [i, j] = L2.wipe σ [i, j] := fun σ o => by
  show (((σ.set j o).set j none).set i none) = (σ.set j none).set i none
  rw [List.set_set]
end R
set_option maxHeartbeats 400000
set_option autoImplicit false
namespace R
open PySem PySem.Spec PyProof.Rows L2
section
variable {X : Cx} {W : WX} {env env' : Env'} {ρ α β γ : Type} [Res ρ] [Dat α] [Dat β] [Dat γ] {po : Po ρ} {x : α} {y : β} {z : γ} {e a b c tg iter o : Expr} {es : List Expr} {pos p p2 pc p3 apos cpos : Pos} {rest body : List Stmt} {xs : List α} {st : Stmt}
theorem exx_some {Rp : α → Prop} {Xp : Exn → Prop} (h : EXX X W e env Rp Xp) : EXX X W e env (fun (o : Option α) => ∃ x, Rp x ∧ o = some x) Xp := fun O fp σ H S Q q qx => h O fp σ H S Q (fun r v H' hr e1 rp => q (some r) v H' ⟨r, hr, rfl⟩ e1 rp) qx
theorem filter_all {τ : Type} (xs : List τ) : (xs.filter fun _ => true) = xs := by simp
theorem en_all {τ υ : Type} [Dat υ] {f : τ → υ} {xs : List τ} (h : EN X e env (OL.mk ((xs.filter fun _ => true).map f))) : EN X e env (OL.mk (xs.map f)) := by rw [filter_all] at h; exact h
theorem hu64 {A : Around} {k : Nat} (hr : Room k A) : A.units + 64 < cLine := hr.units
abbrev Rng (n : Int) : Prop := -(2 ^ 62) ≤ n ∧ n < 2 ^ 62
abbrev Rng2 (n m : Int) : Prop := -(2 ^ 62) ≤ n ∧ n < 2 ^ 62 ∧ -(2 ^ 62) ≤ m ∧ m < 2 ^ 62
/-! any, all, min, max -/
theorem repL.bls {K : PySem.W.Frag} {H : Hp} : ∀ {vs : List V} {bs : List Bool}, repL K H vs bs → vs = bs.map V.bl
  | _, _, .nil => rfl
  | _, _, .cons h t => by
    have h : _ = V.bl _ := h
    rw [h, repL.bls t]; rfl
theorem repL.ints {K : PySem.W.Frag} {H : Hp} : ∀ {vs : List V} {bs : List Int}, repL K H vs bs → vs = bs.map V.int
  | _, _, .nil => rfl
  | _, _, .cons h t => by
    have h : _ = V.int _ := h
    rw [h, repL.ints t]; rfl
theorem repL.strs {K : PySem.W.Frag} {H : Hp} : ∀ {vs : List V} {bs : List Str}, repL K H vs bs → vs = bs.map V.str
  | _, _, .nil => rfl
  | _, _, .cons h t => by
    have h : _ = V.str _ := h
    rw [h, repL.strs t]; rfl
theorem ex_any {bs : List Bool} (hc : X.calm = true) (hm : X.mg "any" = none) (h : EX X a env bs) (he : starEach [a] X.env = (false, eval a X.env) :: starEach [] X.env := by exact star_plain rfl _ _) (hpl : (backTo pos (starEach [] X.env)).any (·.1) = false := by exact star_pl rfl) (hg : Gl X "any" := by rfl) : EX X (.Call (.Name "any" p) [a] [] pos) env (bs.any id) :=
  ex_callB (cr_any hc) hm (by decide +kernel) (ea1 h he) (rc1 fun U v H bn r Q q => by
    obtain ⟨ad, vs, e, l, rl⟩ := r
    have := rl.bls
    subst this
    exact ⟨ad, bs, by rw [e], wo_le.lst l, q _ H (Ex.refl H) rfl⟩) hg (by decide) (by decide) he hpl
theorem ex_all {bs : List Bool} (hc : X.calm = true) (hm : X.mg "all" = none) (h : EX X a env bs) (he : starEach [a] X.env = (false, eval a X.env) :: starEach [] X.env := by exact star_plain rfl _ _) (hpl : (backTo pos (starEach [] X.env)).any (·.1) = false := by exact star_pl rfl) (hg : Gl X "all" := by rfl) : EX X (.Call (.Name "all" p) [a] [] pos) env (bs.all id) :=
  ex_callB (cr_all hc) hm (by decide +kernel) (ea1 h he) (rc1 fun U v H bn r Q q => by
    obtain ⟨ad, vs, e, l, rl⟩ := r
    have := rl.bls
    subst this
    exact ⟨ad, bs, by rw [e], wo_le.lst l, q _ H (Ex.refl H) rfl⟩) hg (by decide) (by decide) he hpl
def maxI (i j : Int) : Int := if j > i then j else i
def minI (i j : Int) : Int := if j < i then j else i
theorem ex_max {i j : Int} (hc : X.calm = true) (hm : X.mg "max" = none) (h : EX X a env i) (h' : EX X b env j) (he : starEach [a, b] X.env = (false, eval a X.env) :: starEach [b] X.env := by exact star_plain rfl _ _) (he2 : starEach [b] X.env = (false, eval b X.env) :: starEach [] X.env := by exact star_plain rfl _ _) (hpl : (backTo pos (starEach [b] X.env)).any (·.1) = false := by exact star_pl rfl) (hg : Gl X "max" := by rfl) : EX X (.Call (.Name "max" p) [a, b] [] pos) env (maxI i j) :=
  ex_callB (call_max2 hc) hm (by decide +kernel) (ea_cons h (ea_cons h' ea_nil he2) he) (rc2 fun U v u H bn r1 r2 Q q => ⟨i, j, by rw [show v = .int i from r1, show u = .int j from r2], q _ H (Ex.refl H) rfl⟩) hg (by decide) (by decide) he hpl
theorem ex_min {i j : Int} (hc : X.calm = true) (hm : X.mg "min" = none) (h : EX X a env i) (h' : EX X b env j) (he : starEach [a, b] X.env = (false, eval a X.env) :: starEach [b] X.env := by exact star_plain rfl _ _) (he2 : starEach [b] X.env = (false, eval b X.env) :: starEach [] X.env := by exact star_plain rfl _ _) (hpl : (backTo pos (starEach [b] X.env)).any (·.1) = false := by exact star_pl rfl) (hg : Gl X "min" := by rfl) : EX X (.Call (.Name "min" p) [a, b] [] pos) env (minI i j) :=
  ex_callB (call_min2 hc) hm (by decide +kernel) (ea_cons h (ea_cons h' ea_nil he2) he) (rc2 fun U v u H bn r1 r2 Q q => ⟨i, j, by rw [show v = .int i from r1, show u = .int j from r2], q _ H (Ex.refl H) rfl⟩) hg (by decide) (by decide) he hpl
/-! options -/
theorem ex_isN {m : Option α} (hno : ∀ K H v (y : α), Dat.rep K H v y → v ≠ .non) (h : EX X a env m) {j : Nat} {pos' : Pos} : EX X (.Compare a [.Is] [.Constant .none j pos'] pos) env m.isNone := ex_of (pe_cmp (pc_isN (mE X a)) (nobehind _ (by decide) (by decide))) fun O fp σ H S Q q => h O fp σ H S _ fun v H' e1 r => by
  refine q _ H' e1 ?_
  show V.bl _ = V.bl _
  cases m with
  | none => rw [show v = .non from r]; rfl
  | some y => rw [decide_eq_false (hno _ _ _ _ r)]; rfl
theorem ex_isNotN {m : Option α} (hno : ∀ K H v (y : α), Dat.rep K H v y → v ≠ .non) (h : EX X a env m) {j : Nat} {pos' : Pos} : EX X (.Compare a [.IsNot] [.Constant .none j pos'] pos) env (!m.isNone) := ex_of (pe_cmp (pc_notN (mE X a)) (nobehind _ (by decide) (by decide))) fun O fp σ H S Q q => h O fp σ H S _ fun v H' e1 r => by
  refine q _ H' e1 ?_
  show V.bl _ = V.bl _
  cases m with
  | none => rw [show v = .non from r]; rfl
  | some y => rw [decide_eq_false (hno _ _ _ _ r)]; rfl
end
theorem catc_mk {K : PySem.W.Frag} {mg : Str → Option Value} {all some' : List Str} {x : Str} {Cx : Addr} (hm : mg x = some (.ref Cx)) (h1 : PySem.W.subIn K (.ref Cx) (.type "BaseException") = some true) (h2 : PySem.W.hasDictIn K Cx = true) (h3 : PySem.W.typeIn K (.ref Cx) = some (.type "type"))
    (tbl : ∀ n ∈ all, ∃ Cn, mg n = some (.ref Cn) ∧ PySem.W.subIn K (.ref Cn) (.ref Cx) = some (some'.contains n)) : CatC K mg all some' x := by
  refine ⟨.ref Cx, hm, fun e Hf cls d ha xa => ?_⟩
  have key : ∀ n, all.contains n = true → mg n = some cls → PySem.W.exmOne K cls (.ref Cx) = some (some'.contains n) := fun n hn hc => by
    obtain ⟨Cn, q1, q2⟩ := tbl n (List.contains_iff_mem.mp hn)
    rw [q1] at hc
    cases hc
    exact PySem.W.exm_ref h1 h2 h3 q2
  cases e with
  | one c => exact key c ha xa.1
  | clash ns ws => exact key _ ha xa.1
  | stuck w ns ws => exact key _ ha xa.1
/-! ### a law's end -/
def spLaw (K : PySem.W.Frag) : Sp := fun vs H Q _ => ∃ (a : Addr) (ns : List Int), vs = [.ref a] ∧ SqL K H a (ns.map V.int) ∧ ns.length ≤ 63 ∧ ∀ v H', v = .bl true → Q v H'
theorem ints_rep {K : PySem.W.Frag} {H : Hp} : ∀ ns : List Int, repL K H (ns.map V.int) ns
  | [] => .nil
  | _ :: r => .cons rfl (ints_rep r)
theorem law_end {K : PySem.W.Frag} {mg : Str → Option Value} {Φ : Phi Bool} (h : ∀ ns : List Int, ns.length ≤ 63 → Φ [.dat ns] (fun r => r = true) (fun _ => False)) : ∀ vs H Q E, spLaw K vs H Q E → spP K mg 1 Φ vs H Q E := fun vs H Q E ⟨a, ns, e, hs, hl, q⟩ => by
  subst e
  have ew : wo H (fun _ => False) = H := by funext b; exact wo_out fun z => z
  have ar : ARep K (wo H (fun _ => False)) [.ref a] [.dat ns] := ⟨⟨a, ns.map V.int, rfl, by rw [ew]; exact hs, ints_rep ns⟩, trivial⟩
  refine ⟨rfl, fun _ => False, [.dat ns], _, _, h ns hl, ARep.sok (fun _ z => z.elim) ar, fun r v H' hr e rp => q v H' ?_, fun _ _ _ _ z => z.elim⟩
  rw [hr] at rp
  exact rp
theorem cx_end {P : Program} {w : World} {H : Hp} {s : Shared} {e : Value} {s' : Shared} (h : L2.CX P w [] H s (fun _ _ _ => False) e s') : False := by
  obtain ⟨_, _, _, _, _, _, _, _, _, _, _, _, z⟩ := h
  exact z
end R
set_option maxHeartbeats 400000
set_option autoImplicit false
/-! == and != of data of any depth, dicts among them. -/
namespace RQ1
open PySem PySem.SeqAt
open AutoSeq1 (wpAny_loadPart')
open MeetsSeq MeetsSeq2 MeetsSeq3 SeqRoads2
section
variable {P : Program} {w : World}
def Items (P : Program) (w : World) (A : Around) (s : Shared) (us ws : Array Value) (f : Nat → Bool) : Prop := ∀ j (h1 : j < us.size) (h2 : j < ws.size), EqP P w A.in1 s us[j] ws[j] (f j)
theorem loop2 (p q : Addr) (us ws : Array Value) (n n2 : Nat) (da db : Option Addr) (sa sb : Array (Option Value)) (hz : us.size = ws.size) (f : Nat → Bool) (k : Nat) :
    ∀ i : Nat, us.size - i = k → MeetsIn P w (Builtin.«list.__eq__.loop» ⟨[.ref p, .ref q, rawInt i, rawInt 2], []⟩)
      (fun A R s => s.heap.get? p = some { cls := .type "list", dict := da, data := .seq us n, slots := sa } ∧ s.heap.get? q = some { cls := .type "list", dict := db, data := .seq ws n2, slots := sb } ∧
        Items P w A s us ws f ∧ R (.ok (.ret (.bool (((List.range us.size).drop i).all f)))) s) := by
  induction k with
  | zero =>
    intro i hk A R s ⟨hl, hb, he, h⟩
    obtain ⟨hp, g, d, tk, os⟩ := s
    wp_walk using wpAny_loadPart' hl, wpAny_loadPart' hb
    have o1 : us[((i : Nat) : Int).toNat]? = none := by simp; omega
    have o2 : ws[((i : Nat) : Int).toNat]? = none := by simp; omega
    rw [show (List.range us.size).drop i = [] by simp; omega] at h
    rw [o1, o2]
    wp_walk using wpAny_loadPart' hl, wpAny_loadPart' hb
    show R (.ok (.ret (.bool (us.size == ws.size)))) _
    rw [hz]
    simpa using h
  | succ k ih =>
    intro i hk A R s ⟨hl, hb, he, h⟩
    obtain ⟨hp, g, d, tk, os⟩ := s
    wp_walk using wpAny_loadPart' hl, wpAny_loadPart' hb
    have l1 : i < us.size := by omega
    have l2 : i < ws.size := by omega
    have o1 : us[((i : Nat) : Int).toNat]? = some us[i] := by simp [l1]
    have o2 : ws[((i : Nat) : Int).toNat]? = some ws[i] := by simp [l2]
    rw [show (List.range us.size).drop i = i :: (List.range us.size).drop (i + 1) by simp [List.drop_eq_getElem_cons, l1], List.all_cons] at h
    rw [o1, o2]
    refine wpAny_bind (he i l1 l2 _ _ ?_)
    cases fb : f i with
    | true =>
      rw [fb] at h
      wp_walk
      rw [show ((i : Int) + 1) = ((i + 1 : Nat) : Int) by omega]
      refine ⟨plainId_quiet plain_eq_loop _, codeAny_builtin entry_eq_loop ?_⟩
      rw [Around.under_plainId plain_eq_loop _]
      exact ih (i + 1) (by omega) A R _ ⟨hl, hb, he, by simpa using h⟩
    | false =>
      rw [fb] at h
      wp_walk using wpAny_loadPart' hl, wpAny_loadPart' hb
      rw [o1, o2]
      wp_walk
      simpa using h
theorem loop3 (p q : Addr) (us ws : Array Value) (n n2 : Nat) (da db : Option Addr) (sa sb : Array (Option Value)) (hz : us.size = ws.size) (f : Nat → Bool) (k : Nat) :
    ∀ i : Nat, us.size - i = k → MeetsIn P w (Builtin.«list.__eq__.loop» ⟨[.ref p, .ref q, rawInt i, rawInt 3], []⟩)
      (fun A R s => s.heap.get? p = some { cls := .type "list", dict := da, data := .seq us n, slots := sa } ∧ s.heap.get? q = some { cls := .type "list", dict := db, data := .seq ws n2, slots := sb } ∧
        Items P w A s us ws f ∧ R (.ok (.ret (.bool (!((List.range us.size).drop i).all f)))) s) := by
  induction k with
  | zero =>
    intro i hk A R s ⟨hl, hb, he, h⟩
    obtain ⟨hp, g, d, tk, os⟩ := s
    wp_walk using wpAny_loadPart' hl, wpAny_loadPart' hb
    have o1 : us[((i : Nat) : Int).toNat]? = none := by simp; omega
    have o2 : ws[((i : Nat) : Int).toNat]? = none := by simp; omega
    rw [show (List.range us.size).drop i = [] by simp; omega] at h
    rw [o1, o2]
    wp_walk using wpAny_loadPart' hl, wpAny_loadPart' hb
    show R (.ok (.ret (.bool (us.size != ws.size)))) _
    rw [hz]
    simpa using h
  | succ k ih =>
    intro i hk A R s ⟨hl, hb, he, h⟩
    obtain ⟨hp, g, d, tk, os⟩ := s
    wp_walk using wpAny_loadPart' hl, wpAny_loadPart' hb
    have l1 : i < us.size := by omega
    have l2 : i < ws.size := by omega
    have o1 : us[((i : Nat) : Int).toNat]? = some us[i] := by simp [l1]
    have o2 : ws[((i : Nat) : Int).toNat]? = some ws[i] := by simp [l2]
    rw [show (List.range us.size).drop i = i :: (List.range us.size).drop (i + 1) by simp [List.drop_eq_getElem_cons, l1], List.all_cons] at h
    rw [o1, o2]
    refine wpAny_bind (he i l1 l2 _ _ ?_)
    cases fb : f i with
    | true =>
      rw [fb] at h
      wp_walk
      rw [show ((i : Int) + 1) = ((i + 1 : Nat) : Int) by omega]
      refine ⟨plainId_quiet plain_eq_loop _, codeAny_builtin entry_eq_loop ?_⟩
      rw [Around.under_plainId plain_eq_loop _]
      exact ih (i + 1) (by omega) A R _ ⟨hl, hb, he, by simpa using h⟩
    | false =>
      rw [fb] at h
      wp_walk using wpAny_loadPart' hl, wpAny_loadPart' hb
      rw [o1, o2]
      wp_walk
      simpa using h
theorem list2 (p q : Addr) (us ws : Array Value) (n n2 : Nat) (da db : Option Addr) (sa sb : Array (Option Value)) (f : Nat → Bool) :
    MeetsIn P w (Builtin.«list.__eq__» ⟨[.ref p, .ref q], []⟩)
      (fun A R s => s.heap.get? p = some { cls := .type "list", dict := da, data := .seq us n, slots := sa } ∧ s.heap.get? q = some { cls := .type "list", dict := db, data := .seq ws n2, slots := sb } ∧
        Items P w A s us ws f ∧ R (.ok (.ret (.bool (us.size == ws.size && (List.range us.size).all f)))) s) := by
  intro A R s ⟨hl, hb, he, h⟩
  by_cases hz : us.size = ws.size
  · have h' : R (.ok (.ret (.bool ((List.range us.size).all f)))) s := by simpa [hz] using h
    obtain ⟨hp, g, d, tk, os⟩ := s
    have f3 := AutoSeq1.sub_list_list
    have hne : ¬ (us.size != ws.size) = true := by simp [hz]
    wp_walk using wpAny_loadPart' hl, wpAny_loadPart' hb
    refine ⟨plainId_quiet plain_eq_loop _, codeAny_builtin entry_eq_loop ?_⟩
    rw [Around.under_plainId plain_eq_loop _]
    exact loop2 p q us ws n n2 da db sa sb hz f _ 0 rfl A R _ ⟨hl, hb, he, by simpa using h'⟩
  · have h' : R (.ok (.ret (.bool false))) s := by
      have e : (us.size == ws.size) = false := by simpa using hz
      rw [e] at h
      exact h
    exact (list_eq_lengthsAt p q us ws n n2 da db sa sb (by simpa using hz)) P w A R s ⟨hl, hb, h'⟩
theorem list3 (p q : Addr) (us ws : Array Value) (n n2 : Nat) (da db : Option Addr) (sa sb : Array (Option Value)) (f : Nat → Bool) :
    MeetsIn P w (Builtin.«list.__ne__» ⟨[.ref p, .ref q], []⟩)
      (fun A R s => s.heap.get? p = some { cls := .type "list", dict := da, data := .seq us n, slots := sa } ∧ s.heap.get? q = some { cls := .type "list", dict := db, data := .seq ws n2, slots := sb } ∧
        Items P w A s us ws f ∧ R (.ok (.ret (.bool (!(us.size == ws.size && (List.range us.size).all f))))) s) := by
  intro A R s ⟨hl, hb, he, h⟩
  by_cases hz : us.size = ws.size
  · have h' : R (.ok (.ret (.bool (!(List.range us.size).all f)))) s := by simpa [hz] using h
    obtain ⟨hp, g, d, tk, os⟩ := s
    have f3 := AutoSeq1.sub_list_list
    have hne : ¬ (us.size != ws.size) = true := by simp [hz]
    wp_walk using wpAny_loadPart' hl, wpAny_loadPart' hb
    refine ⟨plainId_quiet plain_eq_loop _, codeAny_builtin entry_eq_loop ?_⟩
    rw [Around.under_plainId plain_eq_loop _]
    exact loop3 p q us ws n n2 da db sa sb hz f _ 0 rfl A R _ ⟨hl, hb, he, by simpa using h'⟩
  · have h' : R (.ok (.ret (.bool true))) s := by
      have e : (us.size == ws.size) = false := by simpa using hz
      rw [e] at h
      exact h
    exact (list_ne_lengthsAt p q us ws n n2 da db sa sb (by simpa using hz)) P w A R s ⟨hl, hb, h'⟩
theorem tup2 (p q : Addr) (us ws : Array Value) (n n2 : Nat) (da db : Option Addr) (sa sb : Array (Option Value)) (hz : us.size = ws.size) (f : Nat → Bool) :
    MeetsIn P w (Builtin.«tuple.__eq__» ⟨[.ref p, .ref q], []⟩)
      (fun A R s => s.heap.get? p = some { cls := .type "tuple", dict := da, data := .seq us n, slots := sa } ∧ s.heap.get? q = some { cls := .type "tuple", dict := db, data := .seq ws n2, slots := sb } ∧
        Items P w A s us ws f ∧ R (.ok (.ret (.bool ((List.range us.size).all f)))) s) :=
  .of_wp fun A R s ⟨hl, hb, he, h⟩ => by
    obtain ⟨hp, g, d, tk, os⟩ := s
    have f2 := AutoSeq1.sub_tuple_tuple
    have hZ : (us.toList.zip ws.toList).length = us.size := by simp [hz]
    wp_walk using wpAny_loadPart' hl, wpAny_loadPart' hb, wpAny_forIn_list _ (fun rest b s' => b.1 = none ∧ s' = ⟨hp, g, d, tk, os⟩ ∧ ∃ i, rest = (us.toList.zip ws.toList).drop i ∧ R (.ok (.ret (.bool (((List.range us.size).drop i).all f)))) ⟨hp, g, d, tk, os⟩) _
    case turn =>
      rintro ⟨y, x⟩ rest b s' ⟨hb', rfl, i, hz', hR⟩
      have lt : i < (us.toList.zip ws.toList).length := by
        rcases Nat.lt_or_ge i (us.toList.zip ws.toList).length with h' | h'
        · exact h'
        · rw [List.drop_of_length_le h'] at hz'; cases hz'
      have l1 : i < us.size := hZ ▸ lt
      have l2 : i < ws.size := hz ▸ l1
      rw [List.drop_eq_getElem_cons lt] at hz'
      injection hz' with hyx hrest
      have hy : y = us[i] := by have := congrArg Prod.fst hyx; simpa using this
      have hx : x = ws[i] := by have := congrArg Prod.snd hyx; simpa using this
      subst hy hx
      rw [show (List.range us.size).drop i = i :: (List.range us.size).drop (i + 1) by simp [List.drop_eq_getElem_cons, l1], List.all_cons] at hR
      refine wpAny_bind (he i l1 l2 _ _ ?_)
      cases fb : f i with
      | true =>
        rw [fb] at hR
        wp_walk
        exact ⟨rfl, rfl, i + 1, hrest, by simpa using hR⟩
      | false =>
        rw [fb] at hR
        wp_walk
        exact ⟨_, rfl, by simpa using hR⟩
    case fin =>
      rintro ⟨b1, b2⟩ s' ⟨hb', rfl, i, hz', hR⟩
      simp only at hb'
      subst hb'
      have ge : us.size ≤ i := by
        rcases Nat.lt_or_ge i (us.toList.zip ws.toList).length with h' | h'
        · rw [List.drop_eq_getElem_cons h'] at hz'; cases hz'
        · exact hZ ▸ h'
      rw [List.drop_of_length_le (by simpa using ge)] at hR
      wp_walk
      exact ⟨_, rfl, by simpa [Builtin.Tuple.tupleCompareSizes, hz] using hR⟩
    case h =>
      exact ⟨rfl, rfl, 0, rfl, by simpa using h⟩
theorem tup3 (p q : Addr) (us ws : Array Value) (n n2 : Nat) (da db : Option Addr) (sa sb : Array (Option Value)) (hz : us.size = ws.size) (f : Nat → Bool) :
    MeetsIn P w (Builtin.«tuple.__ne__» ⟨[.ref p, .ref q], []⟩)
      (fun A R s => s.heap.get? p = some { cls := .type "tuple", dict := da, data := .seq us n, slots := sa } ∧ s.heap.get? q = some { cls := .type "tuple", dict := db, data := .seq ws n2, slots := sb } ∧
        Items P w A s us ws f ∧ R (.ok (.ret (.bool (!(List.range us.size).all f)))) s) :=
  .of_wp fun A R s ⟨hl, hb, he, h⟩ => by
    obtain ⟨hp, g, d, tk, os⟩ := s
    have f2 := AutoSeq1.sub_tuple_tuple
    have hZ : (us.toList.zip ws.toList).length = us.size := by simp [hz]
    wp_walk using wpAny_loadPart' hl, wpAny_loadPart' hb, wpAny_forIn_list _ (fun rest b s' => b.1 = none ∧ s' = ⟨hp, g, d, tk, os⟩ ∧ ∃ i, rest = (us.toList.zip ws.toList).drop i ∧ R (.ok (.ret (.bool (!((List.range us.size).drop i).all f)))) ⟨hp, g, d, tk, os⟩) _
    case turn =>
      rintro ⟨y, x⟩ rest b s' ⟨hb', rfl, i, hz', hR⟩
      have lt : i < (us.toList.zip ws.toList).length := by
        rcases Nat.lt_or_ge i (us.toList.zip ws.toList).length with h' | h'
        · exact h'
        · rw [List.drop_of_length_le h'] at hz'; cases hz'
      have l1 : i < us.size := hZ ▸ lt
      have l2 : i < ws.size := hz ▸ l1
      rw [List.drop_eq_getElem_cons lt] at hz'
      injection hz' with hyx hrest
      have hy : y = us[i] := by have := congrArg Prod.fst hyx; simpa using this
      have hx : x = ws[i] := by have := congrArg Prod.snd hyx; simpa using this
      subst hy hx
      rw [show (List.range us.size).drop i = i :: (List.range us.size).drop (i + 1) by simp [List.drop_eq_getElem_cons, l1], List.all_cons] at hR
      refine wpAny_bind (he i l1 l2 _ _ ?_)
      cases fb : f i with
      | true =>
        rw [fb] at hR
        wp_walk
        exact ⟨rfl, rfl, i + 1, hrest, by simpa using hR⟩
      | false =>
        rw [fb] at hR
        wp_walk
        exact ⟨_, rfl, by simpa using hR⟩
    case fin =>
      rintro ⟨b1, b2⟩ s' ⟨hb', rfl, i, hz', hR⟩
      simp only at hb'
      subst hb'
      have ge : us.size ≤ i := by
        rcases Nat.lt_or_ge i (us.toList.zip ws.toList).length with h' | h'
        · rw [List.drop_eq_getElem_cons h'] at hz'; cases hz'
        · exact hZ ▸ h'
      rw [List.drop_of_length_le (by simpa using ge)] at hR
      wp_walk
      exact ⟨_, rfl, by simpa [Builtin.Tuple.tupleCompareSizes, hz, bne] using hR⟩
    case h =>
      exact ⟨rfl, rfl, 0, rfl, by simpa using h⟩
/-- what == and != of two references answer -/
def RcP (P : Program) (w : World) (A : Around) (s : Shared) (u v : Value) (b : Bool) : Prop :=
  (∀ E Q : Value → Shared → Prop, Q (.bool b) s → wpAny (model P w) A (richCompare .Eq u v) Q E s) ∧ (∀ E Q : Value → Shared → Prop, Q (.bool (!b)) s → wpAny (model P w) A (richCompare .NotEq u v) Q E s)
theorem rc_lists {A : Around} {s : Shared} {p q : Addr} {us ws : Array Value} {f : Nat → Bool} (hl : s.heap.IsList p us) (hb : s.heap.IsList q ws) (hu : A.units < cLine) (he : Items P w A s us ws f) : RcP P w A s (.ref p) (.ref q) (us.size == ws.size && (List.range us.size).all f) := by
  obtain ⟨⟨c1, d1, x1, s1⟩, o1, e1, n1, y1⟩ := id hl
  obtain ⟨⟨c2, d2, x2, s2⟩, o2, e2, n2, y2⟩ := id hb
  simp only at e1 y1 e2 y2
  subst e1 y1 e2 y2
  have t1 : s.TypeIs (.ref p) "list" := ⟨_, o1, rfl⟩
  have t2 : s.TypeIs (.ref q) "list" := ⟨_, o2, rfl⟩
  refine ⟨fun E Q h => ?_, fun E Q h => ?_⟩
  · exact wpAny_richCompare_same_room (op := .Eq) t1 t2 F.slot_list_eq (call_meetsIn F.slot_list_eq t1 F.entry_list_eq (F.args_list_eq_2 _ _) (list2 p q us ws n1 n2 d1 d2 s1 s2 f) ⟨o1, o2, he, ⟨(fun x => nomatch x), h⟩⟩) hu
  · exact wpAny_richCompare_same_room (op := .NotEq) t1 t2 F.slot_list_ne (call_meetsIn F.slot_list_ne t1 F.entry_list_ne (F.args_list_ne_2 _ _) (list3 p q us ws n1 n2 d1 d2 s1 s2 f) ⟨o1, o2, he, ⟨(fun x => nomatch x), h⟩⟩) hu
theorem rc_tups {A : Around} {s : Shared} {p q : Addr} {us ws : Array Value} {f : Nat → Bool} (hl : s.heap.IsTuple p us) (hb : s.heap.IsTuple q ws) (hz : us.size = ws.size) (hu : A.units < cLine) (he : Items P w A s us ws f) : RcP P w A s (.ref p) (.ref q) ((List.range us.size).all f) := by
  obtain ⟨⟨c1, d1, x1, s1⟩, o1, e1, n1, y1⟩ := id hl
  obtain ⟨⟨c2, d2, x2, s2⟩, o2, e2, n2, y2⟩ := id hb
  simp only at e1 y1 e2 y2
  subst e1 y1 e2 y2
  have t1 : s.TypeIs (.ref p) "tuple" := ⟨_, o1, rfl⟩
  have t2 : s.TypeIs (.ref q) "tuple" := ⟨_, o2, rfl⟩
  refine ⟨fun E Q h => ?_, fun E Q h => ?_⟩
  · exact wpAny_richCompare_same_room (op := .Eq) t1 t2 F.slot_tuple_eq (call_meetsIn F.slot_tuple_eq t1 F.entry_tuple_eq (F.args_tuple_eq_2 _ _) (tup2 p q us ws n1 n2 d1 d2 s1 s2 hz f) ⟨o1, o2, he, ⟨(fun x => nomatch x), h⟩⟩) hu
  · exact wpAny_richCompare_same_room (op := .NotEq) t1 t2 F.slot_tuple_ne (call_meetsIn F.slot_tuple_ne t1 F.entry_tuple_ne (F.args_tuple_ne_2 _ _) (tup3 p q us ws n1 n2 d1 d2 s1 s2 hz f) ⟨o1, o2, he, ⟨(fun x => nomatch x), h⟩⟩) hu
end
section
variable {P : Program} {w : World} {T : Type} [DecidableEq T] {knd : KeyKind P w T} {A : Around} {s : Shared}
open PySem.W
theorem rc_dicts {a b : Addr} {ka kb : List (T × Value)} {r : Bool} (ha : (a == sysModules) = false) (hb : (b == sysModules) = false) (da : s.heap.DictOf knd a ka) (db : s.heap.DictOf knd b kb) (hu : A.units < cLine)
    (hits : ka.length = kb.length → KeqHitsP P w A.in1 s kb ka r) : RcP P w A s (.ref a) (.ref b) (ka.length == kb.length && r) := by
  refine ⟨fun E Q h => rcP_dicts ha hb da db hu hits E Q h, fun E Q h => ?_⟩
  refine wpAny_richCompare_same_room (op := .NotEq) da.typeIs db.typeIs PySem.F.slot_dict_ne (wpAny_call_entry PySem.F.slot_dict_ne da.typeIs PySem.F.entry_dict_ne ?_ (PySem.F.args_dict_ne_2 _ _)) hu
  show wpAny _ _ (Builtin.Dict.dictSlotArgs "__ne__" ⟨[.ref a, .ref b], []⟩ >>= _) _ _ s
  refine wpAny_bind ?_
  unfold Builtin.Dict.dictSlotArgs
  refine wpAny_bind (wpAny_notOrdered_dict da.typeIs ?_)
  show wpAny _ _ (pure (Value.ref a, Value.ref b)) _ _ s
  refine wpAny_pure (wpAny_bind (wpAny_isInstance (T := "dict") db.typeIs PySem.F.sub_dict_dict ?_))
  simp only [Bool.not_true, Bool.false_eq_true, if_false]
  refine wpAny_bind (wpAny_pure (wpAny_bind (wpAny_pure (wpAny_bind (samePairsP ha hb da db hits ?_)))))
  refine wpAny_pure ⟨_, rfl, (fun x => nomatch x), ?_⟩
  cases hk : (ka.length == kb.length && r) <;> rw [hk] at h <;> exact h
end
end RQ1
set_option maxHeartbeats 400000
set_option autoImplicit false
namespace R
open PySem PySem.Spec PyProof.Rows L2 RQ1
abbrev EqS (X : Cx) (A : Around) (s : Shared) (v w : V) (b : Bool) : Prop := ∀ u u', RelV v u → RelV w u' → SeqAt.EqP X.prog X.w A s u u' b
/-- data that can be compared -/
class DEq (α : Type) [Dat α] where
  dep : Nat
  eqv : α → α → Bool
  same : ∀ {X : Cx} {pins : List (Addr × Obj)} {σ : L2.St} {H : Hp} {s : Shared} {v : V} {x y : α}, Inv X pins σ H s → Dat.rep X.K H v x → Dat.rep X.K H v y → eqv x y = true
  run : ∀ {X : Cx} {pins : List (Addr × Obj)} {σ : L2.St} {H : Hp} {s : Shared} {A : Around} {v w : V} {x y : α}, Inv X pins σ H s → A.units + dep < cLine → Dat.rep X.K H v x → Dat.rep X.K H w y → EqS X A s v w (eqv x y)
/-- of these, what lies behind a reference -/
class DRc (α : Type) [Dat α] [DEq α] where
  rc : ∀ {X : Cx} {pins : List (Addr × Obj)} {σ : L2.St} {H : Hp} {s : Shared} {A : Around} {v w : V} {x y : α}, Inv X pins σ H s → A.units + DEq.dep α < cLine → Dat.rep X.K H v x → Dat.rep X.K H w y → ∃ a b, v = .ref a ∧ w = .ref b ∧ RcP X.prog X.w A s (.ref a) (.ref b) (DEq.eqv x y)
def deq {α : Type} [Dat α] [DEq α] (x y : α) : Bool := DEq.eqv x y
section
variable {X : Cx} {pins : List (Addr × Obj)} {σ : L2.St} {H : Hp} {s : Shared} {A : Around}
theorem eqS_flat {v w : V} (hv : flatV v = true) (hw : flatV w = true) : EqS X A s v w (eqV v w) := fun u u' r r' => (eqAt_V r r' hv hw).eqP
theorem eqS_ref {α : Type} {a b : Addr} {k : Bool} (hs : a = b → k = true) (h : RcP X.prog X.w A s (.ref a) (.ref b) k) : EqS X A s (.ref a) (.ref b) k := fun u u' r r' => by
  cases (show u = Value.ref a from r)
  cases (show u' = Value.ref b from r')
  by_cases e : a = b
  · rw [hs e]
    subst e
    exact (SeqAt.EqAt.same _).eqP
  · exact SeqAt.eqP_refs e h.1
end
instance : DEq Int := ⟨0, fun x y => decide (x = y), fun {X pins σ H s v x y} I h h' => by cases (show v = .int x from h); cases (show V.int x = .int y from h'); simp, fun {X pins σ H s A v w x y} I hu h h' => by
  cases (show v = .int x from h)
  cases (show w = .int y from h')
  exact eqS_flat (v := .int x) (w := .int y) rfl rfl⟩
instance : DEq Str := ⟨0, fun x y => decide (x = y), fun {X pins σ H s v x y} I h h' => by cases (show v = .str x from h); cases (show V.str x = .str y from h'); simp, fun {X pins σ H s A v w x y} I hu h h' => by
  cases (show v = .str x from h)
  cases (show w = .str y from h')
  have q := eqS_flat (X := X) (A := A) (s := s) (v := .str x) (w := .str y) rfl rfl
  have e : eqV (.str x) (.str y) = decide (x = y) := by
    show (x == y) = decide (x = y)
    by_cases k : x = y
    · rw [k]; simp
    · rw [decide_eq_false k]; exact beq_false_of_ne k
  rw [e] at q
  exact q⟩
instance : DEq Bool := ⟨0, fun x y => decide (x = y), fun {X pins σ H s v x y} I h h' => by cases (show v = .bl x from h); cases (show V.bl x = .bl y from h'); simp, fun {X pins σ H s A v w x y} I hu h h' => by
  cases (show v = .bl x from h)
  cases (show w = .bl y from h')
  have q := eqS_flat (X := X) (A := A) (s := s) (v := .bl x) (w := .bl y) rfl rfl
  have e : eqV (.bl x) (.bl y) = decide (x = y) := by cases x <;> cases y <;> rfl
  rw [e] at q
  exact q⟩
instance : DEq Unit := ⟨0, fun _ _ => true, fun _ _ _ => rfl, fun {X pins σ H s A v w x y} I hu h h' => by
  cases (show v = .non from h)
  cases (show w = .non from h')
  exact eqS_flat (v := .non) (w := .non) rfl rfl⟩
/-! tuples -/
section
variable {X : Cx} {pins : List (Addr × Obj)} {σ : L2.St} {H : Hp} {s : Shared} {A : Around}
theorem items_of {vs ws : List V} {us us' : List Value} {f : Nat → Bool} (r : Vals vs us) (r' : Vals ws us') (h : ∀ j v w, vs[j]? = some v → ws[j]? = some w → EqS X A.in1 s v w (f j)) : Items X.prog X.w A s us.toArray us'.toArray f := fun j h1 h2 => by
  have k1 : j < vs.length := by rw [r.length]; simpa using h1
  have k2 : j < ws.length := by rw [r'.length]; simpa using h2
  obtain ⟨u, hu, ru⟩ := r.get (List.getElem?_eq_getElem k1)
  obtain ⟨u', hu', ru'⟩ := r'.get (List.getElem?_eq_getElem k2)
  have e1 : us[j]? = some us.toArray[j] := by
    have q : j < us.length := by simpa using h1
    rw [List.getElem?_eq_getElem q]
    simp
  have e2 : us'[j]? = some us'.toArray[j] := by
    have q : j < us'.length := by simpa using h2
    rw [List.getElem?_eq_getElem q]
    simp
  rw [e1] at hu
  rw [e2] at hu'
  cases hu
  cases hu'
  exact h j _ _ (List.getElem?_eq_getElem k1) (List.getElem?_eq_getElem k2) _ _ ru ru'
theorem rc_tupS (I : Inv X pins σ H s) {a b : Addr} {vs ws : List V} {f : Nat → Bool} (hu : A.units < cLine) (h1 : SqT X.K H a vs) (h2 : SqT X.K H b ws) (hz : vs.length = ws.length) (h : ∀ j v w, vs[j]? = some v → ws[j]? = some w → EqS X A.in1 s v w (f j)) :
    RcP X.prog X.w A s (.ref a) (.ref b) ((List.range vs.length).all f) := by
  obtain ⟨us, r, e, _⟩ := I.tuple h1
  obtain ⟨us', r', e', _⟩ := I.tuple h2
  have q := rc_tups (P := X.prog) (w := X.w) e e' (by rw [List.size_toArray, List.size_toArray, ← r.length, ← r'.length]; exact hz) hu (items_of r r' h)
  rw [List.size_toArray, ← r.length] at q
  exact q
theorem rc_listS (I : Inv X pins σ H s) {a b : Addr} {vs ws : List V} {f : Nat → Bool} (hu : A.units < cLine) (h1 : SqL X.K H a vs) (h2 : SqL X.K H b ws) (h : ∀ j v w, vs[j]? = some v → ws[j]? = some w → EqS X A.in1 s v w (f j)) :
    RcP X.prog X.w A s (.ref a) (.ref b) (vs.length == ws.length && (List.range vs.length).all f) := by
  obtain ⟨us, r, p, _⟩ := I.list h1
  obtain ⟨us', r', p', _⟩ := I.list h2
  have q := rc_lists (P := X.prog) (w := X.w) p.isList p'.isList hu (items_of r r' h)
  rw [List.size_toArray, List.size_toArray, ← r.length, ← r'.length] at q
  exact q
theorem units_in1 {A : Around} {n : Nat} (h : A.units + (n + 1) < cLine) : A.in1.units + n < cLine := by
  show A.units + 1 + n < cLine
  omega
end
section
variable {α β γ δ : Type} [Dat α] [Dat β] [Dat γ] [Dat δ] [DEq α] [DEq β] [DEq γ] [DEq δ]
theorem rc_pair {X : Cx} {pins : List (Addr × Obj)} {σ : L2.St} {H : Hp} {s : Shared} {A : Around} {v w : V} {x1 y1 : α} {x2 y2 : β} (I : Inv X pins σ H s) (hu : A.units + (max (DEq.dep α) (DEq.dep β) + 1) < cLine) (h : repT X.K H v [.dat x1, .dat x2]) (h' : repT X.K H w [.dat y1, .dat y2]) :
    ∃ a b, v = .ref a ∧ w = .ref b ∧ RcP X.prog X.w A s (.ref a) (.ref b) (DEq.eqv x1 y1 && DEq.eqv x2 y2) := by
  obtain ⟨a, vs, rfl, t1, a1⟩ := h
  obtain ⟨b, ws, rfl, t2, a2⟩ := h'
  match vs, ws, a1, a2 with
  | [v1, v2], [w1, w2], ⟨p1, p2, _⟩, ⟨q1, q2, _⟩ =>
    have hv := units_in1 hu
    have q := rc_tupS (A := A) I (f := fun j => if j = 0 then DEq.eqv x1 y1 else DEq.eqv x2 y2) (by omega) t1 t2 rfl (fun j v w hj hk => by
      match j with
      | 0 => cases hj; cases hk; exact DEq.run I (by omega) p1 q1
      | 1 => cases hj; cases hk; exact DEq.run I (by omega) p2 q2
      | j + 2 => simp at hj)
    exact ⟨a, b, rfl, rfl, by simpa [List.range_succ] using q⟩
theorem same_pair {X : Cx} {pins : List (Addr × Obj)} {σ : L2.St} {H : Hp} {s : Shared} {v : V} {x1 y1 : α} {x2 y2 : β} (I : Inv X pins σ H s) (h : repT X.K H v [.dat x1, .dat x2]) (h' : repT X.K H v [.dat y1, .dat y2]) : (DEq.eqv x1 y1 && DEq.eqv x2 y2) = true := by
  obtain ⟨a, vs, rfl, t1, a1⟩ := h
  obtain ⟨b, ws, e, t2, a2⟩ := h'
  cases e
  cases I.tuple_inj t1 t2
  match vs, a1, a2 with
  | [v1, v2], ⟨p1, p2, _⟩, ⟨q1, q2, _⟩ => rw [DEq.same I p1 q1, DEq.same I p2 q2]; rfl
instance : DEq (α × β) := ⟨max (DEq.dep α) (DEq.dep β) + 1, fun x y => DEq.eqv x.1 y.1 && DEq.eqv x.2 y.2, fun {X pins σ H s v x y} I h h' => same_pair I h h', fun {X pins σ H s A v w x y} I hu h h' => by
  obtain ⟨a, b, rfl, rfl, q⟩ := rc_pair I hu h h'
  refine eqS_ref (α := α) (fun e => ?_) q
  subst e
  exact same_pair I h h'⟩
instance : DRc (α × β) := ⟨fun {X pins σ H s A v w x y} I hu h h' => rc_pair I hu h h'⟩
instance : DEq Rat := ⟨1, fun x y => decide (x = y), fun {X pins σ H s v x y} I h h' => by
  have q := same_pair I h h'
  rw [Bool.and_eq_true] at q
  exact decide_eq_true (Rat.ext (of_decide_eq_true q.1) (by have := of_decide_eq_true q.2; exact Int.ofNat.inj this)), fun {X pins σ H s A v w x y} I hu h h' => by
  obtain ⟨a, b, rfl, rfl, q⟩ := rc_pair I (by show A.units + (max 0 0 + 1) < cLine; exact hu) h h'
  have e : (DEq.eqv x.num y.num && DEq.eqv (x.den : Int) (y.den : Int)) = decide (x = y) := by
    show (decide (x.num = y.num) && decide ((x.den : Int) = (y.den : Int))) = _
    by_cases k : x = y
    · subst k; simp
    · rw [decide_eq_false k]
      by_cases k1 : x.num = y.num
      · have k2 : ¬ ((x.den : Int) = (y.den : Int)) := fun z => k (Rat.ext k1 (Int.ofNat.inj z))
        rw [decide_eq_false k2, Bool.and_false]
      · rw [decide_eq_false k1, Bool.false_and]
  rw [e] at q
  refine eqS_ref (α := Int) (fun z => ?_) q
  subst z
  have q := same_pair I h h'
  rw [← e]
  exact q⟩
instance : DRc Rat := ⟨fun {X pins σ H s A v w x y} I hu h h' => by
  obtain ⟨a, b, e1, e2, q⟩ := rc_pair I (by show A.units + (max 0 0 + 1) < cLine; exact hu) h h'
  have e : (DEq.eqv x.num y.num && DEq.eqv (x.den : Int) (y.den : Int)) = decide (x = y) := by
    show (decide (x.num = y.num) && decide ((x.den : Int) = (y.den : Int))) = _
    by_cases k : x = y
    · subst k; simp
    · rw [decide_eq_false k]
      by_cases k1 : x.num = y.num
      · have k2 : ¬ ((x.den : Int) = (y.den : Int)) := fun z => k (Rat.ext k1 (Int.ofNat.inj z))
        rw [decide_eq_false k2, Bool.and_false]
      · rw [decide_eq_false k1, Bool.false_and]
  rw [e] at q
  exact ⟨a, b, e1, e2, q⟩⟩
theorem rc_three {X : Cx} {pins : List (Addr × Obj)} {σ : L2.St} {H : Hp} {s : Shared} {A : Around} {v w : V} {x1 y1 : α} {x2 y2 : β} {x3 y3 : γ} (I : Inv X pins σ H s) (hu : A.units + (max (DEq.dep α) (max (DEq.dep β) (DEq.dep γ)) + 1) < cLine) (h : repT X.K H v [.dat x1, .dat x2, .dat x3]) (h' : repT X.K H w [.dat y1, .dat y2, .dat y3]) :
    ∃ a b, v = .ref a ∧ w = .ref b ∧ RcP X.prog X.w A s (.ref a) (.ref b) (DEq.eqv x1 y1 && (DEq.eqv x2 y2 && DEq.eqv x3 y3)) := by
  obtain ⟨a, vs, rfl, t1, a1⟩ := h
  obtain ⟨b, ws, rfl, t2, a2⟩ := h'
  match vs, ws, a1, a2 with
  | [v1, v2, v3], [w1, w2, w3], ⟨p1, p2, p3, _⟩, ⟨q1, q2, q3, _⟩ =>
    have hv := units_in1 hu
    have q := rc_tupS (A := A) I (f := fun j => if j = 0 then DEq.eqv x1 y1 else if j = 1 then DEq.eqv x2 y2 else DEq.eqv x3 y3) (by omega) t1 t2 rfl (fun j v w hj hk => by
      match j with
      | 0 => cases hj; cases hk; exact DEq.run I (by omega) p1 q1
      | 1 => cases hj; cases hk; exact DEq.run I (by omega) p2 q2
      | 2 => cases hj; cases hk; exact DEq.run I (by omega) p3 q3
      | j + 3 => simp at hj)
    exact ⟨a, b, rfl, rfl, by simpa [List.range_succ, Bool.and_assoc] using q⟩
theorem same_three {X : Cx} {pins : List (Addr × Obj)} {σ : L2.St} {H : Hp} {s : Shared} {v : V} {x1 y1 : α} {x2 y2 : β} {x3 y3 : γ} (I : Inv X pins σ H s) (h : repT X.K H v [.dat x1, .dat x2, .dat x3]) (h' : repT X.K H v [.dat y1, .dat y2, .dat y3]) : (DEq.eqv x1 y1 && (DEq.eqv x2 y2 && DEq.eqv x3 y3)) = true := by
  obtain ⟨a, vs, rfl, t1, a1⟩ := h
  obtain ⟨b, ws, e, t2, a2⟩ := h'
  cases e
  cases I.tuple_inj t1 t2
  match vs, a1, a2 with
  | [v1, v2, v3], ⟨p1, p2, p3, _⟩, ⟨q1, q2, q3, _⟩ => rw [DEq.same I p1 q1, DEq.same I p2 q2, DEq.same I p3 q3]; rfl
instance : DEq (T3 α β γ) := ⟨max (DEq.dep α) (max (DEq.dep β) (DEq.dep γ)) + 1, fun x y => DEq.eqv x.a y.a && (DEq.eqv x.b y.b && DEq.eqv x.c y.c), fun {X pins σ H s v x y} I h h' => same_three I h h', fun {X pins σ H s A v w x y} I hu h h' => by
  obtain ⟨a, b, rfl, rfl, q⟩ := rc_three I hu h h'
  refine eqS_ref (α := α) (fun e => ?_) q
  subst e
  exact same_three I h h'⟩
instance : DRc (T3 α β γ) := ⟨fun {X pins σ H s A v w x y} I hu h h' => rc_three I hu h h'⟩
/-! lists -/
def eqL : List α → List α → Bool
  | [], [] => true
  | x :: xs, y :: ys => DEq.eqv x y && eqL xs ys
  | _, _ => false
def atE (xs ys : List α) (j : Nat) : Bool := match xs[j]?, ys[j]? with
  | some x, some y => DEq.eqv x y
  | _, _ => true
theorem range_all (n : Nat) (f : Nat → Bool) : (List.range (n + 1)).all f = (f 0 && (List.range n).all fun j => f (j + 1)) := by
  rw [List.range_succ_eq_map, List.all_cons, List.all_map]
  rfl
theorem eqL_is : ∀ xs ys : List α, (xs.length == ys.length && (List.range xs.length).all (atE xs ys)) = eqL xs ys
  | [], [] => rfl
  | [], _ :: _ => rfl
  | _ :: _, [] => rfl
  | x :: xs, y :: ys => by
    have ih := eqL_is xs ys
    have e : (List.range (xs.length + 1)).all (atE (x :: xs) (y :: ys)) = (DEq.eqv x y && (List.range xs.length).all (atE xs ys)) := by
      rw [range_all]
      congr 1
    rw [List.length_cons, List.length_cons, e]
    show _ = (DEq.eqv x y && eqL xs ys)
    rw [← ih]
    have : (xs.length + 1 == ys.length + 1) = (xs.length == ys.length) := by
      by_cases k : xs.length = ys.length
      · rw [k]; simp
      · rw [beq_false_of_ne k, beq_false_of_ne (by omega)]
    rw [this]
    cases (xs.length == ys.length) <;> cases DEq.eqv x y <;> rfl
theorem repL_at {X : Cx} {H : Hp} : ∀ {vs : List V} {xs : List α}, repL X.K H vs xs → ∀ {j : Nat} {v : V}, vs[j]? = some v → ∃ x, xs[j]? = some x ∧ Dat.rep X.K H v x := fun {vs xs} h => by
  unfold repL at h
  induction h with
  | nil => intro j v e; simp at e
  | cons h0 t ih =>
    intro j v e
    cases j with
    | zero =>
      have e' := e
      simp at e'
      subst e'
      exact ⟨_, rfl, h0⟩
    | succ j => simpa using ih (by simpa using e)
theorem same_list {X : Cx} {pins : List (Addr × Obj)} {σ : L2.St} {H : Hp} {s : Shared} (I : Inv X pins σ H s) : ∀ {vs : List V} {xs ys : List α}, repL X.K H vs xs → repL X.K H vs ys → eqL xs ys = true
  | [], [], [], _, _ => rfl
  | v :: vs, x :: xs, y :: ys, .cons a b, .cons c d => by
    show (DEq.eqv x y && eqL xs ys) = true
    rw [DEq.same I a c, same_list I b d]
    rfl
theorem rc_lst {X : Cx} {pins : List (Addr × Obj)} {σ : L2.St} {H : Hp} {s : Shared} {A : Around} {v w : V} {x y : List α} (I : Inv X pins σ H s) (hu : A.units + (DEq.dep α + 1) < cLine) (h : Dat.rep X.K H v x) (h' : Dat.rep X.K H w y) : ∃ a b, v = .ref a ∧ w = .ref b ∧ RcP X.prog X.w A s (.ref a) (.ref b) (eqL x y) := by
  obtain ⟨a, vs, rfl, t1, a1⟩ := h
  obtain ⟨b, ws, rfl, t2, a2⟩ := h'
  have hv := units_in1 hu
  refine ⟨a, b, rfl, rfl, ?_⟩
  have q := rc_listS (A := A) I (f := atE x y) (by omega) t1 t2 (fun j v w hj hk => by
    obtain ⟨x0, e1, r1⟩ := repL_at a1 hj
    obtain ⟨y0, e2, r2⟩ := repL_at a2 hk
    unfold atE
    rw [e1, e2]
    exact DEq.run I (by omega) r1 r2)
  rw [Paired.length a1, Paired.length a2, eqL_is] at q
  exact q
theorem same_lst {X : Cx} {pins : List (Addr × Obj)} {σ : L2.St} {H : Hp} {s : Shared} {v : V} {x y : List α} (I : Inv X pins σ H s) (h : Dat.rep X.K H v x) (h' : Dat.rep X.K H v y) : eqL x y = true := by
  obtain ⟨a, vs, rfl, t1, a1⟩ := h
  obtain ⟨b, ws, e, t2, a2⟩ := h'
  cases e
  cases I.list_inj t1 t2
  exact same_list I a1 a2
instance : DEq (List α) := ⟨DEq.dep α + 1, eqL, fun {X pins σ H s v x y} I h h' => same_lst I h h', fun {X pins σ H s A v w x y} I hu h h' => by
  obtain ⟨a, b, rfl, rfl, q⟩ := rc_lst I hu h h'
  refine eqS_ref (α := α) (fun e => ?_) q
  subst e
  exact same_lst I h h'⟩
instance : DRc (List α) := ⟨fun {X pins σ H s A v w x y} I hu h h' => rc_lst I hu h h'⟩
/-! dicts -/
def hitE (ys : List (Str × α)) (p : Str × α) : Bool := match lookD ys p.1 with
  | some q => DEq.eqv p.2 q
  | none => false
def eqD (xs ys : List (Str × α)) : Bool := xs.length == ys.length && xs.all (hitE ys)
theorem hits_of {X : Cx} {pins : List (Addr × Obj)} {σ : L2.St} {H : Hp} {s : Shared} {A : Around} (I : Inv X pins σ H s) (hu : A.units + DEq.dep α < cLine) {ks ls : List (Key × V)} {va vb : List (Key × Value)} {xs ys : List (Str × α)} (rb : KV ls vb) (db : repD X.K H ls ys) (ra : KV ks va) (da : repD X.K H ks xs) :
    PySem.W.KeqHitsP X.prog X.w A s vb va (xs.all (hitE ys)) := by
  unfold repD at da
  induction da generalizing va with
  | nil =>
    cases ra
    exact .nil
  | @cons p x ps xs' h t ih =>
    obtain ⟨key, v⟩ := p
    cases ra with
    | @cons _ q _ qs h1 h2 =>
      obtain ⟨key', u⟩ := q
      obtain ⟨e1, ru⟩ := h1
      have e1 : key = key' := e1
      subst e1
      have e2 : key = .inr x.1 := h.1
      subst e2
      rw [List.all_cons]
      have rr : RelO (valV ls (.inr x.1)) (valueAt vb (.inr x.1)) := rb.val _
      rcases db.look x.1 with ⟨n1, n2⟩ | ⟨v', y, hv, hy, ry⟩
      · rw [n1] at rr
        have n3 : valueAt vb (.inr x.1) = none := by
          cases hh : valueAt vb (.inr x.1) with
          | none => rfl
          | some z => rw [hh] at rr; exact rr.elim
        have : hitE ys x = false := by unfold hitE; rw [n2]
        rw [this, Bool.false_and]
        exact .miss n3
      · rw [hv] at rr
        obtain ⟨u', hu', ru'⟩ := rr.some_of
        have : hitE ys x = DEq.eqv x.2 y := by unfold hitE; rw [hy]
        rw [this]
        exact .hit hu' (DEq.run I hu h.2 ry _ _ ru ru') (ih h2)
theorem rc_dct {X : Cx} {pins : List (Addr × Obj)} {σ : L2.St} {H : Hp} {s : Shared} {A : Around} {v w : V} {x y : Dc α} (I : Inv X pins σ H s) (hu : A.units + (DEq.dep α + 1) < cLine) (h : Dat.rep X.K H v x) (h' : Dat.rep X.K H w y) : ∃ a b, v = .ref a ∧ w = .ref b ∧ RcP X.prog X.w A s (.ref a) (.ref b) (eqD x.kvs y.kvs) := by
  obtain ⟨a, ks, rfl, t1, a1⟩ := h
  obtain ⟨b, ls, rfl, t2, a2⟩ := h'
  have hv := units_in1 hu
  obtain ⟨_, ya, va, ra, da⟩ := dk_rd I.hok t1
  obtain ⟨_, yb, vb, rb, db⟩ := dk_rd I.hok t2
  have q := rc_dicts (P := X.prog) (w := X.w) ya yb da db (by omega) (fun _ => hits_of I (A := A.in1) (by omega) rb a2 ra a1)
  rw [← ra.length, ← rb.length, Paired.length a1, Paired.length a2] at q
  exact ⟨a, b, rfl, rfl, q⟩
theorem nodup_of {X : Cx} {pins : List (Addr × Obj)} {σ : L2.St} {H : Hp} {s : Shared} (I : Inv X pins σ H s) {a : Addr} {ks : List (Key × V)} {xs : List (Str × α)} (t : Rd H a (.dK ks)) (r : repD X.K H ks xs) : (xs.map Prod.fst).Nodup := by
  obtain ⟨zz, ya, va, ra, dd⟩ := dk_rd I.hok t
  have nd : (va.map (·.1)).Nodup := by
    obtain ⟨_, _, _, _, _, _, _, _, nd⟩ := dd
    exact nd
  rw [← ra.keys] at nd
  have e : ks.map (·.1) = (xs.map Prod.fst).map Sum.inr := by
    clear nd ra t dd zz
    unfold repD at r
    induction r with
    | nil => rfl
    | cons h _ ih => rw [List.map_cons, List.map_cons, List.map_cons, ih, h.1]
  rw [e] at nd
  exact (List.pairwise_map.mp nd).imp fun h e => h (by rw [e])
theorem lookD_mem : ∀ {ys : List (Str × α)} {p : Str × α}, (ys.map Prod.fst).Nodup → p ∈ ys → lookD ys p.1 = some p.2
  | [], _, _, h => by cases h
  | q :: ys, p, nd, h => by
    rw [List.map_cons, List.nodup_cons] at nd
    rcases List.mem_cons.mp h with rfl | h
    · unfold lookD; simp
    · have k : ¬ q.1 = p.1 := fun e => nd.1 (List.mem_map.mpr ⟨p, h, e.symm⟩)
      have e : lookD (q :: ys) p.1 = lookD ys p.1 := by unfold lookD; rw [List.find?_cons, decide_eq_false k]
      rw [e]
      exact lookD_mem nd.2 h
theorem same_dct {X : Cx} {pins : List (Addr × Obj)} {σ : L2.St} {H : Hp} {s : Shared} {v : V} {x y : Dc α} (I : Inv X pins σ H s) (h : Dat.rep X.K H v x) (h' : Dat.rep X.K H v y) : eqD x.kvs y.kvs = true := by
  obtain ⟨a, ks, rfl, t1, a1⟩ := h
  obtain ⟨b, ls, e, t2, a2⟩ := h'
  cases e
  have ek : ks = ls := by
    rcases t1 with t1 | ⟨o, t1⟩ <;> rcases t2 with t2 | ⟨o', t2⟩ <;> (rw [t1] at t2; cases t2) <;> rfl
  subst ek
  have nd := nodup_of I t1 a2
  unfold eqD
  rw [← Paired.length a1, ← Paired.length a2, beq_self_eq_true, Bool.true_and, List.all_eq_true]
  intro p hp
  have : ∃ q ∈ y.kvs, q.1 = p.1 ∧ DEq.eqv p.2 q.2 = true := by
    clear nd t1 t2
    generalize x.kvs = xs at a1 hp
    generalize y.kvs = ys at a2
    unfold repD at a1 a2
    induction a1 generalizing ys with
    | nil => cases hp
    | @cons k0 x0 ks' xs' h0 t ih =>
      cases a2 with
      | @cons _ y0 _ ys' h1 t1 =>
        rcases List.mem_cons.mp hp with rfl | hp
        · exact ⟨y0, List.mem_cons_self, by have := h0.1.symm.trans h1.1; injection this with this; exact this.symm, DEq.same I h0.2 h1.2⟩
        · obtain ⟨q, hq, r⟩ := ih hp _ t1
          exact ⟨q, List.mem_cons_of_mem _ hq, r⟩
  obtain ⟨q, hq, e1, e2⟩ := this
  unfold hitE
  rw [← e1, lookD_mem nd hq]
  exact e2
instance : DEq (Dc α) := ⟨DEq.dep α + 1, fun x y => eqD x.kvs y.kvs, fun {X pins σ H s v x y} I h h' => same_dct I h h', fun {X pins σ H s A v w x y} I hu h h' => by
  obtain ⟨a, b, rfl, rfl, q⟩ := rc_dct I hu h h'
  refine eqS_ref (α := α) (fun e => ?_) q
  subst e
  exact same_dct I h h'⟩
instance : DRc (Dc α) := ⟨fun {X pins σ H s A v w x y} I hu h h' => rc_dct I hu h h'⟩
/-! as expressions -/
def rEqX (α : Type) [Dat α] [DEq α] (K : PySem.W.Frag) : R2 := fun u v H Q => ∃ (x y : α), Dat.rep K H u x ∧ Dat.rep K H v y ∧ Q (.bl (deq x y)) H
def rNeX (α : Type) [Dat α] [DEq α] (K : PySem.W.Frag) : R2 := fun u v H Q => ∃ (x y : α), Dat.rep K H u x ∧ Dat.rep K H v y ∧ Q (.bl (!deq x y)) H
theorem op_eqX {X : Cx} [DRc α] (hu : X.A.units + 64 < cLine) (hd : DEq.dep α ≤ 60) : OpR X (compareOp .Eq) (rEqX α X.K) := by
  intro pins s σ H v w u u' Q I rx ry ⟨x, y, h1, h2, q⟩
  obtain ⟨a, b, rfl, rfl, k⟩ := DRc.rc (A := X.A) I (by omega) h1 h2
  cases rx
  cases ry
  exact k.1 _ _ ⟨.bl _, H, I, rfl, q⟩
theorem op_neX {X : Cx} [DRc α] (hu : X.A.units + 64 < cLine) (hd : DEq.dep α ≤ 60) : OpR X (compareOp .NotEq) (rNeX α X.K) := by
  intro pins s σ H v w u u' Q I rx ry ⟨x, y, h1, h2, q⟩
  obtain ⟨a, b, rfl, rfl, k⟩ := DRc.rc (A := X.A) I (by omega) h1 h2
  cases rx
  cases ry
  exact k.2 _ _ ⟨.bl _, H, I, rfl, q⟩
variable {X : Cx} {env : Env'} {x y : α} {a b : Expr} {pos : Pos}
theorem rv_eqX [DRc α] : RV X.K (rEqX α X.K) x y (deq x y) := fun U v1 v2 H _ r1 r2 Q q => ⟨x, y, Dat.mono wo_le r1, Dat.mono wo_le r2, q _ H (Ex.refl H) rfl⟩
theorem rv_neX [DRc α] : RV X.K (rNeX α X.K) x y (!deq x y) := fun U v1 v2 H _ r1 r2 Q q => ⟨x, y, Dat.mono wo_le r1, Dat.mono wo_le r2, q _ H (Ex.refl H) rfl⟩
theorem ex_eqD [DRc α] (hu : X.A.units + 64 < cLine) (ha : EX X a env x) (hb : EX X b env y) (hd : DEq.dep α ≤ 60 := by decide) : EX X (.Compare a [.Eq] [b] pos) env (deq x y) := ex_cmp (op_eqX hu hd) ha hb rv_eqX (nomark _)
theorem ex_neD [DRc α] (hu : X.A.units + 64 < cLine) (ha : EX X a env x) (hb : EX X b env y) (hd : DEq.dep α ≤ 60 := by decide) : EX X (.Compare a [.NotEq] [b] pos) env (!deq x y) := ex_cmp (op_neX hu hd) ha hb rv_neX (nomark _)
theorem et_eqD [DRc α] (hu : X.A.units + 64 < cLine) (ha : EX X a env x) (hb : EX X b env y) (hd : DEq.dep α ≤ 60 := by decide) : ET X (.Compare a [.Eq] [b] pos) env (deq x y) := et_cmp (op_eqX hu hd) ha hb rv_eqX (nomark _)
theorem et_neD [DRc α] (hu : X.A.units + 64 < cLine) (ha : EX X a env x) (hb : EX X b env y) (hd : DEq.dep α ≤ 60 := by decide) : ET X (.Compare a [.NotEq] [b] pos) env (!deq x y) := et_cmp (op_neX hu hd) ha hb rv_neX (nomark _)
end
end R
set_option maxHeartbeats 400000
set_option autoImplicit false
namespace R
open PySem PySem.Spec PyProof.Rows L2
/-! ### lists joined -/
theorem meets_joined (p q : Addr) (us ws : Array Value) (n n2 : Nat) (da db : Option Addr) (sa sb : Array (Option Value)) (hz : us.size + ws.size ≤ sizeLine) :
    Meets (Builtin.«list.__add__» ⟨[.ref p, .ref q], []⟩) (fun _ R s => s.heap.get? p = some { cls := .type "list", dict := da, data := .seq us n, slots := sa } ∧ s.heap.get? q = some { cls := .type "list", dict := db, data := .seq ws n2, slots := sb } ∧
      R (.ok (.ret (Value.ref s.heap.objs.size))) { s with heap := s.heap.push { cls := Value.type "list", data := Data.seq (us ++ ws) }, toks := s.toks }) :=
  .of_wp fun P w A R s h => by
    obtain ⟨hp, g, d, tk, os⟩ := s
    obtain ⟨hl, hb, h⟩ := h
    have f3 := AutoSeq1.sub_list_list
    wp_walk using AutoSeq1.wpAny_loadPart' hl, AutoSeq1.wpAny_loadPart' hb
    exact ⟨_, rfl, h⟩
def rJoin (K : PySem.W.Frag) : R2 := fun x y H Q => ∃ l b xs zs, x = .ref l ∧ y = .ref b ∧ SqL K H l xs ∧ SqL K H b zs ∧ xs.length + zs.length ≤ sizeLine ∧ ∀ p, H p = none → Q (.ref p) (upd H p (.lst (xs ++ zs)))
theorem op_join {X : Cx} : OpR X (binaryOp .Add) (rJoin X.K) := by
  intro pins s σ H x y v u Q I rx ry ⟨l, b, xs, zs, e1, e2, h1, h2, hz, q⟩
  subst e1 e2
  cases rx
  cases ry
  obtain ⟨us, r, pl, _⟩ := I.list h1
  obtain ⟨ws, r2, pl2, _⟩ := I.list h2
  obtain ⟨⟨c1, d1, x1, s1⟩, o1, k1, n1, y1⟩ := pl.isList
  obtain ⟨⟨c2, d2, x2, s2⟩, o2, k2, n2, y2⟩ := pl2.isList
  simp only at k1 y1 k2 y2
  subst k1 y1 k2 y2
  refine concat_meets ⟨_, o1, rfl⟩ ⟨_, o2, rfl⟩ noFill_list_add seq_list_add F.slot_list_add F.entry_list_add (F.args_list_add_2 _ _) (meets_joined l b us.toArray ws.toArray n1 n2 d1 d2 s1 s2 (by rw [List.size_toArray, List.size_toArray, ← r.length, ← r2.length]; exact hz)) ⟨o1, o2, ?_⟩
  rw [show us.toArray ++ ws.toArray = (us ++ ws).toArray by simp]
  exact ⟨.ref _, _, I.lnew (t' := s.toks) (r.append r2) (by rw [List.length_append]; omega), rfl, q _ I.fresh⟩
theorem repL.app {α : Type} [Dat α] {K : PySem.W.Frag} {H : Hp} : ∀ {vs ws : List V} {xs ys : List α}, repL K H vs xs → repL K H ws ys → repL K H (vs ++ ws) (xs ++ ys)
  | [], _, [], _, _, h => h
  | _ :: _, _, _ :: _, _, .cons a b, h => .cons a (repL.app b h)
section
variable {X : Cx} {W : WX} {env env' : Env'} {ρ α β γ : Type} [Res ρ] [Dat α] [Dat β] [Dat γ] {po : Po ρ} {x : α} {y : β} {z : γ} {e a b c tg iter o : Expr} {es elts : List Expr} {pos p p2 pc p3 apos cpos tpos : Pos} {rest body : List Stmt} {xs ys : List α} {st : Stmt}
theorem en_cat (h : EX X a env xs) (h' : EX X b env ys) (g : xs.length + ys.length ≤ 100000) : EN X (.BinOp a .Add b pos) env (OL.mk (xs ++ ys)) := by
  intro O fp σ H S Q q
  refine tE_of fun pins s I => ?_
  refine (pe_op op_join (mE X a) (mE X b)).run pins s σ H Q I ?_
  refine h O fp σ H S _ fun v1 H1 e1 r1 => h' O fp σ H1 (S.ex e1) _ fun v2 H2 e2 r2 => ?_
  obtain ⟨l, vs, rfl, t1, l1⟩ := r1
  obtain ⟨l', ws, rfl, t2, l2⟩ := r2
  have t1' : SqL X.K (wo H2 (UU O fp)) l vs := (wo_ex e2).le.lst t1
  refine ⟨l, l', vs, ws, rfl, rfl, wo_le.lst t1', wo_le.lst t2, by rw [Paired.length l1, Paired.length l2]; exact sz_of g, fun u hu => ?_⟩
  exact q (.ref u) [u] _ ((e1.trans e2).trans (Ex.new hu)) (fun c hc => by rw [List.mem_singleton.mp hc]; exact (e1.trans e2).free hu) (fun c hc => by rw [List.mem_singleton.mp hc]; exact ⟨_, upd_same⟩)
    fun Hf le => ⟨u, vs ++ ws, rfl, rfl, upd_same, ((l1.mono (wo_ex e2).le).app l2).mono (Le.trans (le_new hu) le)⟩
/-! ### parts of lists and texts -/
@[irreducible] def tPo (X : Cx) (e : Option Expr) : L2.TO := fun σ H Q => ∀ pins s, Inv X pins σ H s → wpAny (model X.prog X.w) X.A (evalPart e X.env) (fun u s' => ∃ o H', Inv X pins σ H' s' ∧ IsPart u o ∧ Q o H') X.xe s
theorem tPo_of {X : Cx} {e : Option Expr} {σ : L2.St} {H : Hp} {Q : Option Int → Hp → Prop} (h : ∀ pins s, Inv X pins σ H s → wpAny (model X.prog X.w) X.A (evalPart e X.env) (fun u s' => ∃ o H', Inv X pins σ H' s' ∧ IsPart u o ∧ Q o H') X.xe s) : tPo X e σ H Q := by unfold tPo; exact h
theorem tPo_run {X : Cx} {e : Option Expr} {σ : L2.St} {H : Hp} {Q : Option Int → Hp → Prop} (h : tPo X e σ H Q) : ∀ pins s, Inv X pins σ H s → wpAny (model X.prog X.w) X.A (evalPart e X.env) (fun u s' => ∃ o H', Inv X pins σ H' s' ∧ IsPart u o ∧ Q o H') X.xe s := by unfold tPo at h; exact h
theorem mPo (X : Cx) (e : Option Expr) : PO X e (tPo X e) := ⟨fun pins s σ H Q I h => tPo_run h pins s I⟩
def EXO (X : Cx) (e : Option Expr) (env : Env') (o : Option Int) : Prop := ∀ O fp σ H, SOk X.K O fp env σ H → ∀ Q : Option Int → Hp → Prop, (∀ H', Ex H H' → Q o H') → tPo X e σ H Q
theorem exo_none : EXO X none env none := fun O fp σ H S Q q => tPo_of fun pins s I => po_none.run pins s σ H Q I (q H (Ex.refl H))
theorem exo_some {i : Int} (h : EX X e env i) : EXO X (some e) env (some i) := fun O fp σ H S Q q => tPo_of fun pins s I => (po_some (mE X e)).run pins s σ H Q I (h O fp σ H S _ fun v H' e1 r => ⟨i, r, q H' e1⟩)
def cutL {τ : Type} (xs : List τ) (lo hi : Option Int) : List τ := (xs.drop (HT.sIx xs.length 0 lo)).take (HT.sIx xs.length xs.length hi - HT.sIx xs.length 0 lo)
theorem repL.drop {K : PySem.W.Frag} {H : Hp} : ∀ {vs : List V} {xs : List α} (n : Nat), repL K H vs xs → repL K H (vs.drop n) (xs.drop n)
  | _, _, 0, h => h
  | [], [], n + 1, _ => .nil
  | _ :: _, _ :: _, n + 1, .cons _ t => repL.drop n t
theorem repL.take {K : PySem.W.Frag} {H : Hp} : ∀ {vs : List V} {xs : List α} (n : Nat), repL K H vs xs → repL K H (vs.take n) (xs.take n)
  | _, _, 0, _ => .nil
  | [], [], n + 1, _ => .nil
  | _ :: _, _ :: _, n + 1, .cons h t => .cons h (repL.take n t)
theorem en_slice {lo hi : Option Expr} {l u : Option Int} (h : EX X a env xs) (hl : EXO X lo env l) (hu : EXO X hi env u) : EN X (.Subscript a (.Slice lo hi none p2) pos) env (OL.mk (cutL xs l u)) := by
  intro O fp σ H S Q q
  refine tE_of fun pins s I => ?_
  refine (pe_slice sl_list (mE X a) (mPo X lo) (mPo X hi)).run pins s σ H Q I ?_
  refine h O fp σ H S _ fun v1 H1 e1 r1 => hl O fp σ H1 (S.ex e1) _ fun H2 e2 => hu O fp σ H2 ((S.ex e1).ex e2) _ fun H3 e3 => ?_
  obtain ⟨ad, vs, rfl, t1, l1⟩ := r1
  have ee := e2.trans e3
  have t1' : SqL X.K (wo H3 (UU O fp)) ad vs := (wo_ex ee).le.lst t1
  refine ⟨ad, vs, rfl, wo_le.lst t1', fun p hp => ?_⟩
  have rl : repL X.K (wo H3 (UU O fp)) (cutV vs l u) (cutL xs l u) := by
    unfold cutV cutL
    rw [Paired.length l1]
    exact ((l1.mono (wo_ex ee).le).drop _).take _
  exact q (.ref p) [p] _ ((e1.trans ee).trans (Ex.new hp)) (fun c hc => by rw [List.mem_singleton.mp hc]; exact (e1.trans ee).free hp) (fun c hc => by rw [List.mem_singleton.mp hc]; exact ⟨_, upd_same⟩)
    fun Hf le => ⟨p, _, rfl, rfl, upd_same, rl.mono (Le.trans (le_new hp) le)⟩
def cutSt (x : Str) (lo hi : Option Int) : Str := cutS x lo hi
theorem ex_sliceS {lo hi : Option Expr} {l u : Option Int} {x : Str} (h : EX X a env x) (hl : EXO X lo env l) (hu : EXO X hi env u) (g : x.length ≤ 100000) : EX X (.Subscript a (.Slice lo hi none p2) pos) env (cutSt x l u) := by
  intro O fp σ H S Q q
  refine tE_of fun pins s I => ?_
  refine (pe_slice sl_str (mE X a) (mPo X lo) (mPo X hi)).run pins s σ H Q I ?_
  refine h O fp σ H S _ fun v1 H1 e1 r1 => hl O fp σ H1 (S.ex e1) _ fun H2 e2 => hu O fp σ H2 ((S.ex e1).ex e2) _ fun H3 e3 => ?_
  exact ⟨x, r1, sz_of g, q _ H3 ((e1.trans e2).trans e3) rfl⟩
/-! ### texts -/
def StrIx (x : Str) (i : Int) : Prop := 0 ≤ i ∧ i < (x.length : Int) ∧ x.length ≤ 100000
def strAt (x : Str) (i : Int) : Str := ⟨#[x.cps.toList.getD i.toNat 0]⟩
theorem ex_ixS {x : Str} {i : Int} (h : EX X a env x) (hb : EX X b env i) (g : StrIx x i) (hs : PlainIx b := by exact fun _ _ => rfl) : EX X (.Subscript a b pos) env (strAt x i) := ex_of (pe_ix ix_str (mE X a) (mE X _) hs) (ev_op h hb fun U v1 v2 H _ r1 r2 Q q => by
  have hl : i.toNat < x.cps.toList.length := by
    have := g.2.1
    have e : x.length = x.cps.toList.length := by rw [Array.length_toList]; rfl
    rw [e] at this
    have := g.1
    omega
  have e1 : x.cps.toList[i.toNat]? = some (x.cps.toList.getD i.toNat 0) := by rw [List.getD_eq_getElem?_getD, List.getElem?_eq_getElem hl]; rfl
  refine ⟨x, i, _, r1, r2, sz_of g.2.2, ?_, q _ H (Ex.refl H) rfl⟩
  rw [← Int.toNat_of_nonneg g.1]
  rw [← Int.toNat_of_nonneg g.1] at e1
  exact atI_nat e1)
theorem ex_lenS {x : Str} (hm : X.mg "len" = none) (h : EX X a env x) (g : x.length ≤ 100000) (he : starEach [a] X.env = (false, eval a X.env) :: starEach [] X.env := by exact star_plain rfl _ _) (hpl : (backTo pos (starEach [] X.env)).any (·.1) = false := by exact star_pl rfl) (hg : Gl X "len" := by rfl) : EX X (.Call (.Name "len" p) [a] [] pos) env (x.length : Int) :=
  ex_callB call_len_str hm PySem.boot_len (ea1 h he) (rc1 fun U v H bn r Q q => ⟨x, by rw [show v = .str x from r], sz_of g, q _ H (Ex.refl H) rfl⟩) hg (by decide) (by decide) he hpl
/-- x * n of a text -/
def StrTimes (x : Str) (n : Int) : Prop := n < 2 ^ 60 ∧ -(2 ^ 60) < n ∧ x.length * n.toNat ≤ 100000
def repS (x : Str) (n : Int) : Str := ⟨(List.replicate n.toNat x.cps).foldl (· ++ ·) #[]⟩
theorem repS_none {x : Str} {n : Int} (h : n < 1) : repS x n = Str.empty := by
  unfold repS
  rw [show n.toNat = 0 by omega]
  rfl
theorem op_repS : OpR X (binaryOp .Mult) (fun x y H Q => ∃ (z : Str) (n : Int), x = .str z ∧ y = .int n ∧ StrTimes z n ∧ Q (.str (repS z n)) H) := by
  intro pins s σ H x y v u Q I rx ry ⟨z, n, e1, e2, ⟨g1, g2, g3⟩, q⟩
  subst e1 e2
  obtain ⟨t, rfl⟩ := rx
  obtain ⟨t', rfl⟩ := ry
  refine PySem.P.mul_str (by
    have h1 : ¬ n < -(2 ^ 63 : Int) := by omega
    have h2 : ¬ n ≥ 2 ^ 63 := by omega
    rw [decide_eq_false h1, decide_eq_false h2]; rfl) (fun h1 h2 h3 => ?_) (fun h1 h2 => ?_) ?_
  · have hp : 0 < n := by omega
    have h4 := Int.lt_mul_of_ediv_lt hp h3
    have e : ((z.length * n.toNat : Nat) : Int) = (z.length : Int) * n := by
      rw [Int.natCast_mul, Int.toNat_of_nonneg (by omega)]
    have h5 : (z.length : Int) * n ≤ 100000 := by rw [← e]; exact Int.ofNat_le.mpr g3
    have h6 : ((2 : Int) ^ 63 - 1) = 9223372036854775807 := by decide
    rw [h6] at h4
    omega
  · show decide (z.length * n.toNat > sizeLine) = false
    have := sz_of g3
    exact decide_eq_false (by omega)
  · have I1 : Inv X pins σ H { s with toks := s.toks + 1 } := I.tok _
    by_cases h1 : n < 1
    · rw [if_pos h1]
      rw [repS_none h1] at q
      exact ⟨by decide, .str _, H, I1, ⟨_, rfl⟩, q⟩
    · rw [if_neg h1]
      by_cases h2 : (n == 1 || z.length == 0) = true
      · rw [if_pos h2]
        refine ⟨.str z, H, I, ⟨_, rfl⟩, ?_⟩
        have e : repS z n = z := by
          unfold repS
          rcases Bool.or_eq_true_iff.mp h2 with h2 | h2
          · rw [show n = 1 from eq_of_beq h2]
            show Str.mk (#[] ++ z.cps) = z
            rw [Array.empty_append]
          · have h3 : z.cps = #[] := Array.eq_empty_of_size_eq_zero (eq_of_beq h2)
            obtain ⟨zc⟩ := z
            have h3 : zc = #[] := h3
            subst h3
            have : ∀ m : Nat, (List.replicate m (#[] : Array Nat)).foldl (· ++ ·) #[] = #[] := fun m => by
              induction m with
              | zero => rfl
              | succ m ih => rw [List.replicate_succ, List.foldl_cons]; exact ih
            rw [this]
        rw [e] at q
        exact q
      · rw [if_neg h2]
        refine ⟨?_, .str _, H, I1, ⟨_, rfl⟩, q⟩
        exact PySem.fits_reps (decide_eq_false (by have := sz_of g3; omega))
theorem ex_repS {x : Str} {n : Int} (h : EX X a env x) (hb : EX X b env n) (g : StrTimes x n) : EX X (.BinOp a .Mult b pos) env (repS x n) := ex_op op_repS h hb fun U v1 v2 H _ r1 r2 Q q => ⟨x, n, r1, r2, g, q _ H (Ex.refl H) rfl⟩
/-! ### enumerate, zip, reversed, a text -/
theorem ARep.one {K : PySem.W.Frag} {H : Hp} {vs : List V} (h : ARep K H vs [.dat x]) : ∃ v, vs = [v] ∧ Dat.rep K H v x := by
  match vs, h with
  | [v], ⟨h1, _⟩ => exact ⟨v, rfl, h1⟩
theorem ARep.two {K : PySem.W.Frag} {H : Hp} {vs : List V} (h : ARep K H vs [.dat x, .dat y]) : ∃ v u, vs = [v, u] ∧ Dat.rep K H v x ∧ Dat.rep K H u y := by
  match vs, h with
  | [v, u], ⟨h1, h2, _⟩ => exact ⟨v, u, rfl, h1, h2⟩
def enumI {τ : Type} (xs : List τ) : List (Int × τ) := xs.mapIdx fun (i : Nat) x => ((i : Int), x)
theorem new_rep {H' : Hp} {U' : Addr → Prop} {K : PySem.W.Frag} {T : Addr} {v1 v2 : V} {x1 : α} {x2 : β} (bn : ∀ a, U' a → ∃ o, H' a = some o) (hT : H' T = none) (r1 : Dat.rep K (wo H' U') v1 x1) (r2 : Dat.rep K (wo H' U') v2 x2) : Dat.rep K (wo (upd H' T (.tup [v1, v2])) U') (.ref T) (x1, x2) := by
  have nt : ¬ U' T := fun z => by obtain ⟨o, e⟩ := bn T z; rw [hT] at e; cases e
  have le : Le (wo H' U') (wo (upd H' T (.tup [v1, v2])) U') := (wo_ex (Ex.new hT)).le
  exact ⟨T, [v1, v2], rfl, .inl (.inl (upd_out nt)), Dat.mono le r1, Dat.mono le r2, trivial⟩
theorem ix_enum (hm : X.mg "enumerate" = none) (h : EX X e env xs) {kk : Nat} (hg : Gl X "enumerate" := by rfl) (hs : starEach [e] X.env = [(false, eval e X.env)] := by exact star_plain rfl _ _) : IX X (.Tuple elts kk tpos) (.Call (.Name "enumerate" p) [e] [] pos) env (enumI xs) :=
  ix_of (pi_enum hg hm (mA X _) hs) fun O fp σ H S R r => ea1 h hs O fp σ H S _ fun vs H1 e1 ar => by
      obtain ⟨v, ev, h1⟩ := ar.one
      subst ev
      obtain ⟨ad, ws, e, l, rl⟩ := h1
      subst e
      refine ⟨ad, ws, rfl, wo_le.lst l, r _ H1 e1 fun H' U' bn ex i => ⟨fun x hx => ?_, fun hi => ?_⟩⟩
      · unfold enumI at hx
        rw [List.getElem?_mapIdx] at hx
        cases hy : xs[i]? with
        | none => rw [hy] at hx; cases hx
        | some y =>
          rw [hy] at hx
          have hx : ((i : Int), y) = x := Option.some.inj hx
          subst hx
          obtain ⟨v, hv, rv⟩ := rl.get hy
          have l' : SqL X.K H' ad ws := wo_le.lst (ex.le.lst l)
          refine ⟨⟨ws, v, l', hv⟩, fun u H'' ⟨T, x', e1, e2, e3, e4⟩ => ?_⟩
          subst e1 e3
          have := e4 ws l'
          rw [hv] at this
          cases this
          exact ⟨Ex.new e2, new_rep bn e2 rfl (Dat.mono ex.le rv)⟩
      · exact ⟨ws, wo_le.lst (ex.le.lst l), by rw [Paired.length rl]; unfold enumI at hi; simpa using hi⟩
theorem ix_zip {zs : List β} (hm : X.mg "zip" = none) (h : EX X a env xs) (h' : EX X b env zs) {kk : Nat} (hg : Gl X "zip" := by rfl) (hs : starEach [a, b] X.env = (false, eval a X.env) :: starEach [b] X.env := by exact star_plain rfl _ _) (hs2 : starEach [b] X.env = (false, eval b X.env) :: starEach [] X.env := by exact star_plain rfl _ _) (hpl : (backTo pos (starEach [b] X.env)).any (·.1) = false := by exact star_pl rfl) :
    IX X (.Tuple elts kk tpos) (.Call (.Name "zip" p) [a, b] [] pos) env (List.zip xs zs) :=
  ix_of (pi_zip hg hm (mA X _) hs hpl) fun O fp σ H S R r => ea_cons h (ea_cons h' ea_nil hs2) hs O fp σ H S _ fun vs H1 e1 ar => by
      obtain ⟨v, v', ev, h1, h2⟩ := ar.two
      subst ev
      obtain ⟨ad, ws, e, l, rl⟩ := h1
      obtain ⟨ad', ws', e', l', rl'⟩ := h2
      subst e e'
      refine ⟨ad, ad', ws, ws', rfl, wo_le.lst l, wo_le.lst l', r _ H1 e1 fun H' U' bn ex i => ⟨fun x hx => ?_, fun hi => ?_⟩⟩
      · have k : SqL X.K H' ad ws := wo_le.lst (ex.le.lst l)
        have k' : SqL X.K H' ad' ws' := wo_le.lst (ex.le.lst l')
        obtain ⟨x1, x2⟩ := x
        rw [List.getElem?_zip_eq_some] at hx
        obtain ⟨v1, hv1, rv1⟩ := rl.get hx.1
        obtain ⟨v2, hv2, rv2⟩ := rl'.get hx.2
        refine ⟨⟨ws, ws', v1, v2, k, k', hv1, hv2⟩, fun u H'' ⟨T, y1, y2, e1, e2, e3, e4, e5⟩ => ?_⟩
        subst e1 e3
        have q1 := e4 ws k
        have q2 := e5 ws' k'
        rw [hv1] at q1
        rw [hv2] at q2
        cases q1
        cases q2
        exact ⟨Ex.new e2, new_rep bn e2 (Dat.mono ex.le rv1) (Dat.mono ex.le rv2)⟩
      · refine ⟨ws, ws', wo_le.lst (ex.le.lst l), wo_le.lst (ex.le.lst l'), ?_⟩
        rw [List.length_zip] at hi
        rw [Paired.length rl, Paired.length rl']
        omega
theorem ix_rev (hm : X.mg "reversed" = none) (h : EX X e env xs) (hg : Gl X "reversed" := by rfl) (hs : starEach [e] X.env = [(false, eval e X.env)] := by exact star_plain rfl _ _) : IX X tg (.Call (.Name "reversed" p) [e] [] pos) env (List.reverse xs) :=
  ix_of (pi_reversed hg hm (mA X _) hs) fun O fp σ H S R r => ea1 h hs O fp σ H S _ fun vs H1 e1 ar => by
      obtain ⟨v, ev, h1⟩ := ar.one
      subst ev
      obtain ⟨ad, ws, e, l, rl⟩ := h1
      subst e
      have hlen := Paired.length rl
      refine ⟨ad, ws, rfl, wo_le.lst l, r _ H1 e1 fun H' U' bn ex i => ⟨fun x hx => ?_, fun hi => by show ws.length ≤ i; rw [hlen]; simpa using hi⟩⟩
      have hi : i < xs.length := by
        have := (List.getElem?_eq_some_iff.mp hx).1
        simpa using this
      rw [List.getElem?_reverse hi] at hx
      obtain ⟨v, hv, rv⟩ := rl.get hx
      have l' : SqL X.K H' ad ws := wo_le.lst (ex.le.lst l)
      rw [← hlen] at hv
      refine ⟨⟨by omega, ws, v, l', hv⟩, fun u H'' ⟨e1, e2⟩ => ?_⟩
      subst e1
      have := e2 ws l'
      rw [hv] at this
      cases this
      exact ⟨Ex.refl _, Dat.mono ex.le rv⟩
def signs (x : Str) : List Str := x.cps.toList.map fun c => ⟨#[c]⟩
theorem ix_str {x : Str} (h : EX X e env x) : IX X tg e env (signs x) := ix_of (pi_str (mE X e)) fun O fp σ H S R r => h O fp σ H S _ fun v H1 e1 rp => by
  refine ⟨x, rp, r _ H1 e1 fun H' U' bn ex i => ⟨fun y hy => ?_, fun hi => ?_⟩⟩
  · unfold signs at hy
    rw [List.getElem?_map, Array.getElem?_toList] at hy
    cases hc : x.cps[i]? with
    | none => rw [hc] at hy; cases hy
    | some c =>
      rw [hc] at hy
      have hy : (⟨#[c]⟩ : Str) = y := Option.some.inj hy
      subst hy
      refine ⟨(Array.getElem?_eq_some_iff.mp hc).1, fun u H'' ⟨q1, c', q2, q3⟩ => ?_⟩
      subst q1 q3
      rw [hc] at q2
      cases q2
      exact ⟨Ex.refl _, rfl⟩
  · show x.cps.size ≤ i
    unfold signs at hi
    simpa using hi
/-! ### a dict's names as a list -/
theorem en_listD {d : Dc α} (hc : X.calm = true) (hm : X.mg "list" = none) (h : EX X a env d) (he : starEach [a] X.env = (false, eval a X.env) :: starEach [] X.env := by exact star_plain rfl _ _) (hpl : (backTo pos (starEach [] X.env)).any (·.1) = false := by exact star_pl rfl) (hg : Gl X "list" := by rfl) : EN X (.Call (.Name "list" p) [a] [] pos) env (OL.mk (d.kvs.map Prod.fst)) :=
  en_callTy1 (call_listD hc) hm (by decide +kernel) h (fun U v H r1 Q q => by
      obtain ⟨ad, ws, h1, h2, h3⟩ := r1
      refine ⟨ad, ws, by rw [h1], wo_le _ _ trivial h2, fun u hu => ?_⟩
      have rl : ∀ Hf, repL X.K Hf (ws.map fun kv => kV kv.1) (d.kvs.map Prod.fst) := fun Hf => by
        clear h2
        unfold repD at h3
        generalize d.kvs = kvs at h3
        induction h3 with
        | nil => exact .nil
        | cons h0 _ ih =>
          rw [List.map_cons, List.map_cons]
          refine .cons ?_ ih
          rw [h0.1]
          rfl
      exact q (.ref u) [u] _ (Ex.new hu) (fun b hb => by rw [List.mem_singleton.mp hb]; exact hu) (fun b hb => by rw [List.mem_singleton.mp hb]; exact ⟨_, upd_same⟩) fun Hf le => ⟨u, _, rfl, rfl, upd_same, rl Hf⟩) hg (by decide) (by decide) he hpl
end
end R
set_option maxHeartbeats 400000
set_option autoImplicit false
namespace R
open PySem PySem.Spec PyProof.Rows L2
/-! ### plain: how large a fraction is -/
def QB (n : Nat) (q : Rat) : Prop := q.num.natAbs < 2 ^ n ∧ q.den < 2 ^ n
theorem two_le {m n : Nat} (h : m ≤ n) : 2 ^ m ≤ 2 ^ n := Nat.pow_le_pow_right (by decide) h
theorem nb_mono {a m n : Nat} (h : a < 2 ^ m) (k : m ≤ n) : a < 2 ^ n := Nat.lt_of_lt_of_le h (two_le k)
theorem nb_mul {a b : Int} {m n : Nat} (h : a.natAbs < 2 ^ m) (k : b.natAbs < 2 ^ n) : (a * b).natAbs < 2 ^ (m + n) := by
  rw [Int.natAbs_mul, Nat.pow_add]
  exact Nat.mul_lt_mul_of_lt_of_le h (Nat.le_of_lt k) (Nat.two_pow_pos n)
theorem nb_add {a b : Int} {m : Nat} (h : a.natAbs < 2 ^ m) (k : b.natAbs < 2 ^ m) : (a + b).natAbs < 2 ^ (m + 1) := by
  have := Int.natAbs_add_le a b
  rw [Nat.pow_succ]
  omega
theorem nb_sub {a b : Int} {m : Nat} (h : a.natAbs < 2 ^ m) (k : b.natAbs < 2 ^ m) : (a - b).natAbs < 2 ^ (m + 1) := by
  have := Int.natAbs_sub_le a b
  rw [Nat.pow_succ]
  omega
theorem QB.mono {m n : Nat} {q : Rat} (h : QB m q) (k : m ≤ n) : QB n q := ⟨nb_mono h.1 k, nb_mono h.2 k⟩
theorem QB.den' {n : Nat} {q : Rat} (h : QB n q) : ((q.den : Nat) : Int).natAbs < 2 ^ n := by rw [Int.natAbs_natCast]; exact h.2
theorem QB.divInt {n : Nat} {t b : Int} (h : t.natAbs < 2 ^ n) (k : b.natAbs < 2 ^ n) (z : b ≠ 0) : QB n (Rat.divInt t b) := by
  have g1 : (t / ((Int.gcd b t : Nat) : Int)).natAbs ≤ t.natAbs := Int.natAbs_ediv_le_natAbs _ _
  refine ⟨?_, ?_⟩
  · rw [Rat.num_divInt]
    refine Nat.lt_of_le_of_lt (Int.natAbs_ediv_le_natAbs _ _) ?_
    rw [Int.natAbs_mul, Int.natAbs_sign_of_ne_zero z, Nat.one_mul]
    exact h
  · rw [Rat.den_divInt, if_neg z]
    exact Nat.lt_of_le_of_lt (Nat.div_le_self _ _) k
theorem QB.add {m n : Nat} {x y : Rat} (h : QB m x) (k : QB n y) : QB (m + n + 1) (x + y) := by
  rw [← plus_eq]
  exact .divInt (nb_add (nb_mul h.1 k.den') (Nat.add_comm n m ▸ nb_mul k.1 h.den')) (nb_mono (nb_mul h.den' k.den') (by omega)) (dens_ne x y)
theorem QB.sub {m n : Nat} {x y : Rat} (h : QB m x) (k : QB n y) : QB (m + n + 1) (x - y) := by
  rw [← minus_eq]
  exact .divInt (nb_sub (nb_mul h.1 k.den') (Nat.add_comm n m ▸ nb_mul k.1 h.den')) (nb_mono (nb_mul h.den' k.den') (by omega)) (dens_ne x y)
theorem QB.mul {m n : Nat} {x y : Rat} (h : QB m x) (k : QB n y) : QB (m + n) (x * y) := by
  rw [← times_eq]
  exact .divInt (nb_mul h.1 k.1) (nb_mul h.den' k.den') (dens_ne x y)
theorem QB.neg {n : Nat} {x : Rat} (h : QB n x) : QB n (-x) := by
  have e : (-x).num = -x.num := rfl
  refine ⟨?_, h.2⟩
  rw [e, Int.natAbs_neg]
  exact h.1
theorem QB.zero : QB 1 (0 : Rat) := ⟨by decide, by decide⟩
theorem QB.one : QB 1 (1 : Rat) := ⟨by decide, by decide⟩
/-- room for a product -/
theorem mulW {a b : Int} {m n : Nat} (h : a.natAbs < 2 ^ m) (k : b.natAbs < 2 ^ n) (hm : 0 < m) (hn : 0 < n) (l : m + n ≤ 1000000) : CMulW a b := wide_mul h k hm hn l
/-- a fraction over its own parts -/
theorem divInt_cross {t b : Int} (z : b ≠ 0) : (Rat.divInt t b).num * b = (((Rat.divInt t b).den : Nat) : Int) * t := by
  have h : Rat.divInt (Rat.divInt t b).num ((Rat.divInt t b).den : Int) = Rat.divInt t b := Rat.num_divInt_den _
  have := (Rat.divInt_eq_divInt_iff (Int.ne_of_gt (den_pos _)) z).mp h
  rw [this, Int.mul_comm]
theorem gcd_own (q : Rat) : gcdI q.num ((q.den : Nat) : Int) = 1 := by
  have : q.num.natAbs.gcd q.den = 1 := q.reduced
  unfold gcdI Int.gcd
  rw [Int.natAbs_natCast, this]
  rfl
theorem isQ_own (q : Rat) : IsQ q.num (q.den : Int) := by
  have : q.num.natAbs.gcd q.den = 1 := q.reduced
  refine ⟨den_pos q, ?_⟩
  unfold Int.gcd
  rw [Int.natAbs_natCast, this]
theorem isQ_neg {t b : Int} (h : IsQ t b) : IsQ (0 - t) b := ⟨h.1, by rw [show 0 - t = -t by omega, Int.neg_gcd]; exact h.2⟩
theorem isQ_low {t b : Int} (h : 0 < b) : IsQ (t / gcdI t b) (b / gcdI t b) := by
  have h1 := isQ_own (Rat.divInt t b)
  rw [divInt_num h, divInt_den h] at h1
  exact h1
theorem divInt_low {t b : Int} (h : 0 < b) : Rat.divInt (t / gcdI t b) (b / gcdI t b) = Rat.divInt t b := by
  rw [← divInt_num h, ← divInt_den h]
  exact Rat.num_divInt_den _
theorem nb_div {t g : Int} {n : Nat} (h : t.natAbs < 2 ^ n) : (t / g).natAbs < 2 ^ n := Nat.lt_of_le_of_lt (Int.natAbs_ediv_le_natAbs _ _) h
end R
set_option maxHeartbeats 400000
set_option autoImplicit false
namespace R
open PySem PySem.Spec PyProof.Rows L2
section
variable {X : Cx} {W : WX} {env env' : Env'} {ρ α β γ : Type} [Res ρ] [Dat α] [Dat β] [Dat γ] {po : Po ρ} {x : α} {y : β} {z : γ} {e a b c tg iter o : Expr} {es elts : List Expr} {pos p p2 pc p3 apos cpos tpos : Pos} {rest body : List Stmt} {xs ys : List α} {st : Stmt}
/-! range with a step -/
def rangeABC (i j c : Int) : List Int := (List.range (Builtin.Range.rangeSize i j c).toNat).map fun (k : Nat) => i + (k : Int) * c
def Rng3 (i j c : Int) : Prop := RgC i j c (Builtin.Range.rangeSize i j c).toNat
theorem ix_range3 {i j k : Int} (hm : X.mg "range" = none) (h : EX X a env i) (h' : EX X b env j) (h'' : EX X c env k) (g : Rng3 i j k) (hg : Gl X "range" := by rfl) (hs : starEach [a, b, c] X.env = (false, eval a X.env) :: starEach [b, c] X.env := by exact star_plain rfl _ _) (hs1 : starEach [b, c] X.env = (false, eval b X.env) :: starEach [c] X.env := by exact star_plain rfl _ _)
    (hs2 : starEach [c] X.env = (false, eval c X.env) :: starEach [] X.env := by exact star_plain rfl _ _) (hpl : (backTo pos (starEach [b, c] X.env)).any (·.1) = false := by exact star_pl rfl) : IX X tg (.Call (.Name "range" p) [a, b, c] [] pos) env (rangeABC i j k) :=
  ix_of (pi_range3 hg hm (mA X _) hs hpl) fun O fp σ H S R r => ea_cons h (ea_cons h' (ea_cons h'' ea_nil hs2) hs1) hs O fp σ H S _ fun vs H1 e1 ar => by
    have h3 : vs = [.int i, .int j, .int k] := by
      match vs, ar with
      | [v, u, w], ⟨h1, h2, h3, _⟩ => rw [show v = .int i from h1, show u = .int j from h2, show w = .int k from h3]
    refine ⟨i, j, k, _, h3, g, r _ H1 e1 fun H' U' bn ex n => ⟨fun x hx => ?_, fun hi => ?_⟩⟩
    · unfold rangeABC at hx
      rw [List.getElem?_map] at hx
      by_cases hn : n < (Builtin.Range.rangeSize i j k).toNat
      · rw [List.getElem?_range hn] at hx
        have hx : i + (n : Int) * k = x := by simpa using hx
        refine ⟨hn, fun v H'' q => ?_⟩
        obtain ⟨q1, q2⟩ := q
        subst q1 q2 hx
        exact ⟨Ex.refl _, rfl⟩
      · rw [List.getElem?_eq_none (by simpa using hn)] at hx
        cases hx
    · show (Builtin.Range.rangeSize i j k).toNat ≤ n
      unfold rangeABC at hi
      simpa using hi
theorem rng3_up {i j c : Int} (hc : 0 < c) (hc' : c < 1000000) (hi : -(2 ^ 40) < i) (hi' : i < 2 ^ 40) (hj : -(2 ^ 40) < j) (hj' : j < 2 ^ 40) : Rng3 i j c := by
  have hz : 0 ≤ Builtin.Range.rangeSize i j c ∧ Builtin.Range.rangeSize i j c < 2 ^ 43 := by
    unfold Builtin.Range.rangeSize
    rw [if_pos hc]
    split
    · have h1 : 0 ≤ (j - i - 1) / c := Int.ediv_nonneg (by omega) (by omega)
      have h2 : (j - i - 1) / c ≤ j - i - 1 := Int.ediv_le_self _ (by omega)
      omega
    · omega
  refine ⟨by omega, by omega, ?_, by omega⟩
  unfold Builtin.Range.small
  have f : ∀ z : Int, -(2 ^ 60) < z → z < 2 ^ 60 → Builtin.Range.rangeFitsLong z = true := fun z h1 h2 => by
    unfold Builtin.Range.rangeFitsLong
    simp
    omega
  have hm : Builtin.Range.rangeSize i j c * c ≤ (2 ^ 41 + 2 ^ 41) := by
    unfold Builtin.Range.rangeSize
    rw [if_pos hc]
    split
    · have h1 : (j - i - 1) / c * c ≤ j - i - 1 := Int.ediv_mul_le _ (by omega)
      rw [Int.add_mul]
      omega
    · omega
  have hm0 : 0 ≤ Builtin.Range.rangeSize i j c * c := Int.mul_nonneg hz.1 (by omega)
  rw [f i (by omega) (by omega), f j (by omega) (by omega), f c (by omega) (by omega), f _ (by omega) (by omega)]
  rw [f _ (by omega) (by omega), if_pos hc]
  simp
end
section
variable {α β γ δ : Type} [Dat α] [DEq α] [Dat β] [DEq β] [Dat γ] [DEq γ] [Dat δ] [DEq δ]
theorem rc_tup4 {X : Cx} {pins : List (Addr × Obj)} {σ : L2.St} {H : Hp} {s : Shared} {A : Around} {v w : V} {x1 y1 : α} {x2 y2 : β} {x3 y3 : γ} {x4 y4 : δ} (I : Inv X pins σ H s) (hu : A.units + ((max (DEq.dep α) (max (DEq.dep β) (max (DEq.dep γ) (DEq.dep δ)))) + 1) < cLine) (h : repT X.K H v [.dat x1, .dat x2, .dat x3, .dat x4]) (h' : repT X.K H w [.dat y1, .dat y2, .dat y3, .dat y4]) :
    ∃ a b, v = .ref a ∧ w = .ref b ∧ RQ1.RcP X.prog X.w A s (.ref a) (.ref b) (DEq.eqv x1 y1 && ((DEq.eqv x2 y2 && ((DEq.eqv x3 y3 && (DEq.eqv x4 y4)))))) := by
  obtain ⟨a, vs, rfl, t1, a1⟩ := h
  obtain ⟨b, ws, rfl, t2, a2⟩ := h'
  match vs, ws, a1, a2 with
  | [v1, v2, v3, v4], [w1, w2, w3, w4], ⟨p1, p2, p3, p4, _⟩, ⟨q1, q2, q3, q4, _⟩ =>
    have hv := units_in1 hu
    have q := rc_tupS (A := A) I (f := fun j => if j = 0 then DEq.eqv x1 y1 else if j = 1 then DEq.eqv x2 y2 else if j = 2 then DEq.eqv x3 y3 else DEq.eqv x4 y4) (by omega) t1 t2 rfl (fun j v w hj hk => by
      match j with
      | 0 => cases hj; cases hk; exact DEq.run I (by omega) p1 q1
      | 1 => cases hj; cases hk; exact DEq.run I (by omega) p2 q2
      | 2 => cases hj; cases hk; exact DEq.run I (by omega) p3 q3
      | 3 => cases hj; cases hk; exact DEq.run I (by omega) p4 q4
      | j + 4 => simp at hj)
    exact ⟨a, b, rfl, rfl, by simpa [List.range_succ, Bool.and_assoc] using q⟩
theorem same_tup4 {X : Cx} {pins : List (Addr × Obj)} {σ : L2.St} {H : Hp} {s : Shared} {v : V} {x1 y1 : α} {x2 y2 : β} {x3 y3 : γ} {x4 y4 : δ} (I : Inv X pins σ H s) (h : repT X.K H v [.dat x1, .dat x2, .dat x3, .dat x4]) (h' : repT X.K H v [.dat y1, .dat y2, .dat y3, .dat y4]) : (DEq.eqv x1 y1 && ((DEq.eqv x2 y2 && ((DEq.eqv x3 y3 && (DEq.eqv x4 y4)))))) = true := by
  obtain ⟨a, vs, rfl, t1, a1⟩ := h
  obtain ⟨b, ws, e, t2, a2⟩ := h'
  cases e
  cases I.tuple_inj t1 t2
  match vs, a1, a2 with
  | [v1, v2, v3, v4], ⟨p1, p2, p3, p4, _⟩, ⟨q1, q2, q3, q4, _⟩ => rw [DEq.same I p1 q1, DEq.same I p2 q2, DEq.same I p3 q3, DEq.same I p4 q4]; rfl
instance : DEq (T4 α β γ δ) := ⟨(max (DEq.dep α) (max (DEq.dep β) (max (DEq.dep γ) (DEq.dep δ)))) + 1, fun x y => (DEq.eqv x.a y.a && ((DEq.eqv x.b y.b && ((DEq.eqv x.c y.c && (DEq.eqv x.d y.d)))))), fun {X pins σ H s v x y} I h h' => same_tup4 I h h', fun {X pins σ H s A v w x y} I hu h h' => by
  obtain ⟨a, b, rfl, rfl, q⟩ := rc_tup4 I hu h h'
  refine eqS_ref (α := α) (fun e => ?_) q
  subst e
  exact same_tup4 I h h'⟩
instance : DRc (T4 α β γ δ) := ⟨fun {X pins σ H s A v w x y} I hu h h' => rc_tup4 I hu h h'⟩
end
section
variable {α β γ δ ε : Type} [Dat α] [DEq α] [Dat β] [DEq β] [Dat γ] [DEq γ] [Dat δ] [DEq δ] [Dat ε] [DEq ε]
theorem rc_tup5 {X : Cx} {pins : List (Addr × Obj)} {σ : L2.St} {H : Hp} {s : Shared} {A : Around} {v w : V} {x1 y1 : α} {x2 y2 : β} {x3 y3 : γ} {x4 y4 : δ} {x5 y5 : ε} (I : Inv X pins σ H s) (hu : A.units + ((max (DEq.dep α) (max (DEq.dep β) (max (DEq.dep γ) (max (DEq.dep δ) (DEq.dep ε))))) + 1) < cLine) (h : repT X.K H v [.dat x1, .dat x2, .dat x3, .dat x4, .dat x5]) (h' : repT X.K H w [.dat y1, .dat y2, .dat y3, .dat y4, .dat y5]) :
    ∃ a b, v = .ref a ∧ w = .ref b ∧ RQ1.RcP X.prog X.w A s (.ref a) (.ref b) (DEq.eqv x1 y1 && ((DEq.eqv x2 y2 && ((DEq.eqv x3 y3 && ((DEq.eqv x4 y4 && (DEq.eqv x5 y5)))))))) := by
  obtain ⟨a, vs, rfl, t1, a1⟩ := h
  obtain ⟨b, ws, rfl, t2, a2⟩ := h'
  match vs, ws, a1, a2 with
  | [v1, v2, v3, v4, v5], [w1, w2, w3, w4, w5], ⟨p1, p2, p3, p4, p5, _⟩, ⟨q1, q2, q3, q4, q5, _⟩ =>
    have hv := units_in1 hu
    have q := rc_tupS (A := A) I (f := fun j => if j = 0 then DEq.eqv x1 y1 else if j = 1 then DEq.eqv x2 y2 else if j = 2 then DEq.eqv x3 y3 else if j = 3 then DEq.eqv x4 y4 else DEq.eqv x5 y5) (by omega) t1 t2 rfl (fun j v w hj hk => by
      match j with
      | 0 => cases hj; cases hk; exact DEq.run I (by omega) p1 q1
      | 1 => cases hj; cases hk; exact DEq.run I (by omega) p2 q2
      | 2 => cases hj; cases hk; exact DEq.run I (by omega) p3 q3
      | 3 => cases hj; cases hk; exact DEq.run I (by omega) p4 q4
      | 4 => cases hj; cases hk; exact DEq.run I (by omega) p5 q5
      | j + 5 => simp at hj)
    exact ⟨a, b, rfl, rfl, by simpa [List.range_succ, Bool.and_assoc] using q⟩
theorem same_tup5 {X : Cx} {pins : List (Addr × Obj)} {σ : L2.St} {H : Hp} {s : Shared} {v : V} {x1 y1 : α} {x2 y2 : β} {x3 y3 : γ} {x4 y4 : δ} {x5 y5 : ε} (I : Inv X pins σ H s) (h : repT X.K H v [.dat x1, .dat x2, .dat x3, .dat x4, .dat x5]) (h' : repT X.K H v [.dat y1, .dat y2, .dat y3, .dat y4, .dat y5]) : (DEq.eqv x1 y1 && ((DEq.eqv x2 y2 && ((DEq.eqv x3 y3 && ((DEq.eqv x4 y4 && (DEq.eqv x5 y5)))))))) = true := by
  obtain ⟨a, vs, rfl, t1, a1⟩ := h
  obtain ⟨b, ws, e, t2, a2⟩ := h'
  cases e
  cases I.tuple_inj t1 t2
  match vs, a1, a2 with
  | [v1, v2, v3, v4, v5], ⟨p1, p2, p3, p4, p5, _⟩, ⟨q1, q2, q3, q4, q5, _⟩ => rw [DEq.same I p1 q1, DEq.same I p2 q2, DEq.same I p3 q3, DEq.same I p4 q4, DEq.same I p5 q5]; rfl
instance : DEq (T5 α β γ δ ε) := ⟨(max (DEq.dep α) (max (DEq.dep β) (max (DEq.dep γ) (max (DEq.dep δ) (DEq.dep ε))))) + 1, fun x y => (DEq.eqv x.a y.a && ((DEq.eqv x.b y.b && ((DEq.eqv x.c y.c && ((DEq.eqv x.d y.d && (DEq.eqv x.e y.e)))))))), fun {X pins σ H s v x y} I h h' => same_tup5 I h h', fun {X pins σ H s A v w x y} I hu h h' => by
  obtain ⟨a, b, rfl, rfl, q⟩ := rc_tup5 I hu h h'
  refine eqS_ref (α := α) (fun e => ?_) q
  subst e
  exact same_tup5 I h h'⟩
instance : DRc (T5 α β γ δ ε) := ⟨fun {X pins σ H s A v w x y} I hu h h' => rc_tup5 I hu h h'⟩
end
end R
set_option maxHeartbeats 400000
set_option autoImplicit false
/-! what is new comes back as one's own -/
namespace R
open PySem PySem.Spec PyProof.Rows L2
/-- a dict and more, as one's own pair -/
structure OS (α β : Type) where
  p : Dc α × β
instance {α β : Type} [Dat α] [Dat β] : Own (OS α β) where
  own K Hf H v L x := ∃ t a ws u, v = .ref t ∧ SqT K Hf t [.ref a, u] ∧ L = [a] ∧ H a = some (.dK ws) ∧ repD K Hf ws x.p.1.kvs ∧ Dat.rep K Hf u x.p.2
  frame := fun e f ⟨t, a, ws, u, h1, h2, h3, h4, h5, h6⟩ => ⟨t, a, ws, u, h1, e.tup h2, h3, by rw [f a (by rw [h3]; exact List.mem_singleton.mpr rfl)]; exact h4, h5.mono e, Dat.mono e h6⟩
/-- one's own, without lists and dicts within -/
class OwnNM (β : Type) [Own β] : Prop where
  cut : ∀ (K : PySem.W.Frag) (Hf Hf' H : Hp) (v : V) (L : List Addr) (x : β), (∀ a xs, Rd Hf a (.tup xs) → Rd Hf' a (.tup xs)) → Own.own K Hf H v L x → Own.own K Hf' H v L x
instance {α : Type} [Dat α] [NoMut α] : OwnNM (OL α) := ⟨fun K Hf Hf' H v L x h ⟨a, vs, h1, h2, h3, h4⟩ => ⟨a, vs, h1, h2, h3, Paired.imp h4 fun _ _ q => NoMut.cut K Hf Hf' _ _ h q⟩⟩
instance {α : Type} [Dat α] [NoMut α] : OwnNM (OD α) := ⟨fun K Hf Hf' H v L x h ⟨a, vs, h1, h2, h3, h4⟩ => ⟨a, vs, h1, h2, h3, Paired.imp h4 fun _ _ q => ⟨q.1, NoMut.cut K Hf Hf' _ _ h q.2⟩⟩⟩
instance {α β : Type} [Dat α] [NoMut α] [Dat β] [NoMut β] : OwnNM (OS α β) := ⟨fun K Hf Hf' H v L x h ⟨t, a, ws, u, h1, h2, h3, h4, h5, h6⟩ => ⟨t, a, ws, u, h1, cut_tup h h2, h3, h4, Paired.imp h5 fun _ _ q => ⟨q.1, NoMut.cut K Hf Hf' _ _ h q.2⟩, NoMut.cut K Hf Hf' _ _ h h6⟩⟩
theorem own_frzS {α β : Type} [Dat α] [Dat β] {K : PySem.W.Frag} {Hf H : Hp} {v : V} {L : List Addr} {x : Dc α × β} (h : Own.own K Hf H v L (OS.mk x)) (q : ∀ a ∈ L, Hf a = H a) : Dat.rep K Hf v x := by
  obtain ⟨t, a, ws, u, h1, h2, h3, h4, h5, h6⟩ := h
  exact ⟨t, [.ref a, u], h1, h2, ⟨a, ws, rfl, .inl (by rw [q a (by rw [h3]; exact List.mem_singleton.mpr rfl)]; exact h4), h5⟩, h6, trivial⟩
section
variable {X : Cx} {W : WX} {env env' : Env'} {ρ α β γ : Type} [Res ρ] [Dat α] [Dat β] [Dat γ] {po : Po ρ} {x : α} {y : β} {z : γ} {e a b c tg iter o : Expr} {es elts : List Expr} {pos p p2 pc p3 apos cpos tpos : Pos} {rest body : List Stmt} {xs ys : List α} {st : Stmt}
theorem sx_retO {ω : Type} [Own ω] {x : ω} {i : Nat} {n : Str} {po : Po ω} (h : env[i]? = some (.own x)) (hR : po.R x env) (hN : X.N[i]? = some n := by rfl) (hv : Vis X.env.scope n := by first | exact Or.inl rfl | exact Or.inr (Or.inl rfl) | exact Or.inr (Or.inr rfl)) (hd : (n == ("__debug__" : Str)) = false := by decide) (hc : (n == ("__classdict__" : Str)) = false := by decide) :
    SX X W [.Return (some (.Name n p)) pos] env po :=
  sx_of (pss_one (ps_ret (mE X _))) fun O fp σ H S D G => by
    obtain ⟨v, h1, h2⟩ := S.sl i _ h
    exact tE_of fun pins s I => (pe_var hN hv hd hc).run pins s σ H _ I ⟨v, h1, G.rt x env fp σ v H hR Keep.refl S ⟨fp i, fun a ha => ⟨i, ha⟩, h2⟩⟩
theorem sx_retE {ω : Type} [Own ω] {x : ω} {po : Po ω} (he : EN X e env x) (hR : po.R x env) : SX X W [.Return (some e) pos] env po :=
  sx_of (pss_one (ps_ret (mE X _))) fun O fp σ H S D G => he O fp σ H S _ fun v L H1 e1 hL hd ow => by
    have S1 := S.new (i := env.length) e1 hL hd ow
    rw [List.set_eq_of_length_le (Nat.le_refl _), List.set_eq_of_length_le (by rw [S.len]; exact Nat.le_refl _)] at S1
    refine G.rt x env _ σ v H1 hR (Keep.new (i := env.length) e1 hL) S1 ⟨L, fun a ha => ⟨env.length, by unfold setF; rw [if_pos rfl]; exact ha⟩, ow _ (Ex.le ?_)⟩
    exact wo_mono fun a z => by
      rcases z with z | ⟨j, z⟩
      · exact .inl (.inl z)
      · unfold setF at z
        split at z
        · exact .inr z
        · exact .inl (.inr ⟨j, z⟩)
theorem sx_retS {d : Dc α} {i : Nat} {n : Str} {j : Nat} {po : Po (OS α β)} (h : env[i]? = some (.own (OD.mk d))) (he : EX X b env y) (hR : po.R (OS.mk (d, y)) env) (hN : X.N[i]? = some n := by rfl) (hv : Vis X.env.scope n := by first | exact Or.inl rfl | exact Or.inr (Or.inl rfl) | exact Or.inr (Or.inr rfl)) (hd : (n == ("__debug__" : Str)) = false := by decide) (hc : (n == ("__classdict__" : Str)) = false := by decide)
    (hs : starEach [.Name n p, b] X.env = (false, eval (.Name n p) X.env) :: starEach [b] X.env := by exact star_plain rfl _ _) (hs2 : starEach [b] X.env = (false, eval b X.env) :: starEach [] X.env := by exact star_plain rfl _ _) : SX X W [.Return (some (.Tuple [.Name n p, b] j tpos)) pos] env po :=
  sx_of (pss_one (ps_ret (mE X _))) fun O fp σ H S D G => by
    obtain ⟨ad, ws, h1, h2, h3, h4⟩ := S.od h
    refine tE_of fun pins s I => (pe_tup (pa_cons (pe_var hN hv hd hc) (pa_cons (mE X b) pa_nil hs2) hs)).run pins s σ H _ I ⟨.ref ad, h1, ?_⟩
    refine he O fp σ H S _ fun u H1 e1 r1 => ⟨show 2 ≤ sizeLine from by decide, fun t ht => ?_⟩
    have S1 := S.ex e1
    have nt := S1.fresh ht
    have e2 : Ex H1 (upd H1 t (.tup [.ref ad, u])) := Ex.new ht
    have le := (wo_ex (U := UU O fp) (e1.trans e2)).le
    refine G.rt _ env fp σ _ _ hR (Keep.ex (e1.trans e2)) (S1.ex e2) ⟨[ad], fun a ha => ⟨i, by rw [h2]; exact ha⟩, t, ad, ws, u, rfl, .inl (.inl (upd_out nt)), rfl, (e1.trans e2) ad _ h3, h4.mono le, Dat.mono (wo_ex e2).le r1⟩
theorem en_call {ω : Type} [Own ω] {n : Str} {k m : Nat} {ps : List Str} {dvs : List V} {dxs xs : List Sl} {Φ : Phi ω} {r : ω} (d : DefOk X.prog X.w X.K X.mg X.base n k ps dvs (spP X.K X.mg m Φ)) (hr : Room k X.A) (ha : EA X (e :: es) env xs) (hΦ : Φ (xs ++ dxs) (fun r' => r' = r) (fun _ => False)) (hd : ∀ H, ARep X.K H dvs dxs)
    (hl : (xs ++ dxs).length = m := by rfl) (hg : Gl X n := by rfl) (hdb : (n == ("__debug__" : Str)) = false := by decide) (he : starEach (e :: es) X.env = (false, eval e X.env) :: starEach es X.env := by exact star_plain rfl _ _) (hpl : (backTo pos (starEach es X.env)).any (·.1) = false := by exact star_pl rfl) : EN X (.Call (.Name n p) (e :: es) [] pos) env r := by
  obtain ⟨f, fd, ds, F, hm, hk, hb, hv⟩ := d.ex
  intro O fp σ H S Q q
  refine tE_of fun pins s I => ?_
  refine (pe_call F hr hg hm hk hb hv passL (mA X _) hdb he hpl).run pins s σ H Q I ?_
  refine ha O fp σ H S _ fun vs H1 e1 r1 => ?_
  have r2 := dvs_rep r1 (hd _)
  have S2 := ARep.sok (S.ex e1).bndU r2
  refine ⟨by rw [r2.length]; exact hl, UU O fp, xs ++ dxs, _, _, hΦ, S2, fun r' v H' hr' e2 ro => ?_, fun _ _ _ _ h => h.elim⟩
  subst hr'
  obtain ⟨L, g1, g2, g3⟩ := ro
  exact q v L H' (e1.trans e2) (fun a ha => e1.free (g1 a ha)) g2 fun Hf le => Own.frame le (fun _ _ => rfl) g3
theorem cut_slot {O : Addr → Prop} {fp : Nat → List Addr} {H' Hf : Hp} {i : Nat} {ad : Addr} {ob : HO} {L : List Addr} (hL : fp i = [ad]) (hl : H' ad = some ob) (ho : ∀ ys, ob ≠ .tup ys) (ho' : ∀ o ys, ob ≠ .frz o (.tup ys)) (le : Le (wo H' (fun a => UU O fp a ∨ a ∈ L)) Hf) (b : Addr) (ys : List V) (t : Rd (wo H' (fun a => UU O (setF fp i []) a ∨ a ∈ L)) b (.tup ys)) : Rd Hf b (.tup ys) := by
  have nb : b ≠ ad := fun z => by
    subst z
    rcases t with t | ⟨o, t⟩
    · have := (wo_some t).2; rw [hl] at this; exact ho ys (Option.some.inj this)
    · have := (wo_some t).2; rw [hl] at this; exact ho' o ys (Option.some.inj this)
  refine le b _ trivial ?_
  have nu : ¬ (UU O (setF fp i []) b ∨ b ∈ L) := by rcases t with t | ⟨o, t⟩ <;> exact (wo_some t).1
  have nu2 : ¬ (UU O fp b ∨ b ∈ L) := fun z => by
    rcases z with (z | ⟨j, z⟩) | z
    · exact nu (.inl (.inl z))
    · by_cases ej : j = i
      · subst ej
        rw [hL] at z
        exact nb (List.mem_singleton.mp z)
      · exact nu (.inl (.inr ⟨j, by unfold setF; rw [if_neg ej]; exact z⟩))
    · exact nu (.inr z)
  rcases t with t | ⟨o, t⟩
  · exact .inl (by rw [wo_out nu2]; exact (wo_some t).2)
  · exact .inr ⟨o, by rw [wo_out nu2]; exact (wo_some t).2⟩
theorem en_thawL {ω : Type} [Own ω] [OwnNM ω] {r : ω} {i : Nat} (hi : env[i]? = some (.own (OL.mk xs))) (h : EN X e (env.set i (.dat xs)) r) : EN X e env r := fun O fp σ H S Q q => h O (setF fp i []) σ H (S.frz hi fun v Hf r q => own_frzL r q) Q fun v L H' e1 hL hd ow => q v L H' e1 hL hd fun Hf le => by
  obtain ⟨ad, vs, h1, h2, h3, h4⟩ := S.ol hi
  exact OwnNM.cut X.K _ _ H' v L r (fun b ys t => cut_slot h2 (e1 ad _ h3) (fun _ z => by cases z) (fun _ _ z => by cases z) le b ys t) (ow _ (Le.refl _))
theorem en_thawD {ω : Type} [Own ω] [OwnNM ω] {r : ω} {i : Nat} {d : Dc α} (hi : env[i]? = some (.own (OD.mk d))) (h : EN X e (env.set i (.dat d)) r) : EN X e env r := fun O fp σ H S Q q => h O (setF fp i []) σ H (S.frz hi fun v Hf r q => own_frzD r q) Q fun v L H' e1 hL hd ow => q v L H' e1 hL hd fun Hf le => by
  obtain ⟨ad, vs, h1, h2, h3, h4⟩ := S.od hi
  exact OwnNM.cut X.K _ _ H' v L r (fun b ys t => cut_slot h2 (e1 ad _ h3) (fun _ z => by cases z) (fun _ _ z => by cases z) le b ys t) (ow _ (Le.refl _))
theorem ex_newS {x : Dc α × β} (h : EN X e env (OS.mk x)) : EX X e env x := ex_new h fun _ _ _ _ _ => own_frzS
theorem sx_frzS {i : Nat} {x : Dc α × β} (hi : env[i]? = some (.own (OS.mk x))) (h : SX X W rest (env.set i (.dat x)) po) : SX X W rest env po := fun O fp σ H S D G => h O (setF fp i []) σ H (S.frz hi fun v Hf r q => own_frzS r q) D (G.step Keep.frz')
/-! l.clear(), d.clear(), x = d.pop(k, e) -/
theorem sx_clearL {i : Nat} {st : Stmt} (ps : PS X st (tDrop (tBM0 X.K "list" rClear (tVar i)))) (hi : env[i]? = some (.own (OL.mk xs))) (h : SX X W rest (env.set i (.own (OL.mk ([] : List α)))) po) : SX X W (st :: rest) env po :=
  sx_step ps (fun O fp σ H S D q => by
    obtain ⟨ad, vs, h1, h2, h3, h4⟩ := S.ol hi
    refine ⟨.ref ad, h1, .inl ⟨rfl, vs, .inl (.inl h3)⟩, ad, vs, rfl, rfl, h3, ?_⟩
    exact q fp σ _ (Keep.mut ⟨i, by rw [h2]; exact List.mem_singleton.mpr rfl⟩) (S.mut hi h2 fun v' hv' => by
      rw [h1] at hv'
      cases hv'
      exact ⟨ad, [], rfl, rfl, upd_same, .nil⟩)) h
theorem sx_clearD {i : Nat} {st : Stmt} {d : Dc α} (ps : PS X st (tDrop (tBM0 X.K "dict" rDClear (tVar i)))) (hi : env[i]? = some (.own (OD.mk d))) (h : SX X W rest (env.set i (.own (OD.mk (⟨[]⟩ : Dc α)))) po) : SX X W (st :: rest) env po :=
  sx_step ps (fun O fp σ H S D q => by
    obtain ⟨ad, vs, h1, h2, h3, h4⟩ := S.od hi
    refine ⟨.ref ad, h1, .inr (.inr (.inl ⟨rfl, .inl ⟨vs, h3⟩⟩)), ad, vs, rfl, rfl, h3, ?_⟩
    exact q fp σ _ (Keep.mut ⟨i, by rw [h2]; exact List.mem_singleton.mpr rfl⟩) (S.mut hi h2 fun v' hv' => by
      rw [h1] at hv'
      cases hv'
      exact ⟨ad, [], rfl, rfl, upd_same, .nil⟩)) h
theorem repD.none {K : PySem.W.Frag} {H : Hp} {ws : List (Key × V)} {kvs : List (Str × α)} (h : repD K H ws kvs) {k : Str} (n : valV ws (.inr k) = none) : dropD kvs k = kvs := by
  unfold repD at h
  induction h with
  | nil => rfl
  | @cons q p _ _ h0 t ih =>
    obtain ⟨q1, q2⟩ := q
    have h1 : q1 = .inr p.1 := h0.1
    subst h1
    by_cases e : p.1 = k
    · subst e
      rw [valV_pos rfl] at n
      cases n
    · rw [valV_neg (p := ((.inr p.1 : Key), q2)) (fun z => e (Sum.inr.inj z))] at n
      unfold dropD at ih ⊢
      rw [List.filter_cons, decide_eq_true e, if_pos rfl, ih n]
theorem sx_popD {i j : Nat} {n : Str} {d : Dc α} {k : Str} (hN : X.N.Nodup) (m : M2 X o "pop" apos a e cpos) (hpv : PE X o (tVar i)) (hi : env[i]? = some (.own (OD.mk d))) (hk : EX X a env k) (he : EX X e env x) (hij : i ≠ j) (h : SX X W rest ((env.set i (.own (OD.mk (d.drop k)))).set j (.dat ((d.look k).getD x))) po) (hj : X.N[j]? = some n := by rfl) (hx : Loc X.env.scope n := by first | exact Or.inl rfl | exact Or.inr rfl)
    (hs : swapsWith (.Call (.Attribute o "pop" apos) [a, e] [] cpos) (some (.Name n p2)) pos.line X.env = pure false := by rfl) (hf : X.fn n = true ∨ X.env.scope.names.lookup n = some .local := by first | exact .inl rfl | exact .inr rfl | assumption) : SX X W (.Assign [.Name n p2] (.Call (.Attribute o "pop" apos) [a, e] [] cpos) pos :: rest) env po :=
  sx_step (ps_set hN hj hx (pe_dpop2 hpv (mE X a) (mE X e) m) hs hf) (fun O fp σ H S D q => by
    obtain ⟨ad, ws, h1, h2, h3, h4⟩ := S.od hi
    refine ⟨.ref ad, h1, ad, rfl, .inl ⟨ws, .inl h3⟩, hk O fp σ H S _ fun u H1 e1 r1 => he O fp σ H1 (S.ex e1) _ fun w H2 e2 r2 => ?_⟩
    have r1 : u = .str k := r1
    subst r1
    have S2 := (S.ex e1).ex e2
    have h5 := h4.mono (wo_ex (U := UU O fp) (e1.trans e2)).le
    refine ⟨ws, .inr k, (e1.trans e2) ad _ h3, rfl, fun v hv => ?_, fun hn => ?_⟩
    · have kp : Keep fp H fp (upd H2 ad (.dK (dropK ws (.inr k)))) := (Keep.ex (e1.trans e2)).trans (Keep.mut ⟨i, by rw [h2]; exact List.mem_singleton.mpr rfl⟩)
      have S3 := S2.mut (o := .dK (dropK ws (.inr k))) hi h2 (y := OD.mk (d.drop k)) (fun v' hv' => by
        rw [h1] at hv'
        cases hv'
        exact ⟨ad, _, rfl, rfl, upd_same, h5.drop k⟩)
      refine q fp _ _ kp (S3.set j ?_)
      rw [wo_upd_in (.inr ⟨i, by rw [h2]; exact List.mem_singleton.mpr rfl⟩)]
      rcases h5.look k with ⟨n1, n2⟩ | ⟨v', x', hv1, hx1, rx1⟩
      · rw [n1] at hv; cases hv
      · rw [hv1] at hv
        cases hv
        show Dat.rep _ _ _ ((lookD d.kvs k).getD x)
        rw [hx1]
        exact rx1
    · have e0 : d.drop k = d := by
        show Dc.mk (dropD d.kvs k) = d
        rw [h5.none hn]
      have e3 : env.set i (.own (OD.mk (d.drop k))) = env := by
        rw [e0]
        have hl := (List.getElem?_eq_some_iff.mp hi).1
        have := (List.getElem?_eq_some_iff.mp hi).2
        rw [← this, List.set_getElem_self]
      rw [e3] at q
      refine q fp _ _ (Keep.ex (e1.trans e2)) (S2.set j ?_)
      rcases h5.look k with ⟨n1, n2⟩ | ⟨v', x', hv1, hx1, rx1⟩
      · show Dat.rep _ _ _ ((lookD d.kvs k).getD x)
        rw [n2]
        exact r2
      · rw [hn] at hv1; cases hv1) h
end
end R
set_option maxHeartbeats 400000
set_option autoImplicit false
namespace R
open PySem PySem.Spec PyProof.Rows L2
section
variable {X : Cx} {W : WX} {env env' : Env'} {ρ α β γ : Type} [Res ρ] [Dat α] [Dat β] [Dat γ] {po : Po ρ} {x : α} {y : β} {z : γ} {e a b c tg iter o : Expr} {es elts : List Expr} {pos p p2 pc p3 apos cpos tpos : Pos} {rest body : List Stmt} {xs ys : List α} {st : Stmt}
theorem SOk.os {O : Addr → Prop} {fp : Nat → List Addr} {σ : L2.St} {H : Hp} {i : Nat} {q : Dc α × β} (S : SOk X.K O fp env σ H) (hi : env[i]? = some (.own (OS.mk q))) : ∃ t ad ws u, σ[i]? = some (some (.ref t)) ∧ fp i = [ad] ∧ SqT X.K (wo H (UU O fp)) t [.ref ad, u] ∧ H ad = some (.dK ws) ∧ repD X.K (wo H (UU O fp)) ws q.1.kvs ∧ Dat.rep X.K (wo H (UU O fp)) u q.2 := by
  obtain ⟨v, h1, t, ad, ws, u, h2, h3, h4, h5, h6, h7⟩ := S.sl i _ hi
  subst h2
  exact ⟨t, ad, ws, u, h1, h4, h3, h5, h6, h7⟩
theorem cut_slot1 {O : Addr → Prop} {fp : Nat → List Addr} {H' : Hp} {i : Nat} {ad : Addr} {ob : HO} (hL : fp i = [ad]) (hl : H' ad = some ob) (ho : ∀ ys, ob ≠ .tup ys) (ho' : ∀ o ys, ob ≠ .frz o (.tup ys)) (b : Addr) (ys : List V) (t : Rd (wo H' (UU O (setF fp i []))) b (.tup ys)) : Rd (wo H' (UU O fp)) b (.tup ys) := by
  have e : (fun a => UU O (setF fp i []) a ∨ a ∈ ([] : List Addr)) = UU O (setF fp i []) := by funext a; simp
  have e2 : (fun a => UU O fp a ∨ a ∈ ([] : List Addr)) = UU O fp := by funext a; simp
  have := cut_slot (O := O) (L := []) hL hl ho ho' (by rw [e2]; exact Le.refl (wo H' (UU O fp))) b ys (by rw [e]; exact t)
  exact this
theorem ex_thawS [NoMut γ] {i : Nat} {q : Dc α × β} (hi : env[i]? = some (.own (OS.mk q))) (h : EX X e (env.set i (.dat q)) z) : EX X e env z := fun O fp σ H S Q k => h O (setF fp i []) σ H (S.frz hi fun v Hf r q => own_frzS r q) Q fun v H' e1 r => k v H' e1 (by
  obtain ⟨t, ad, ws, u, h1, h2, h3, h4, h5, h6⟩ := S.os hi
  exact NoMut.cut X.K _ _ v z (fun b ys t => cut_slot1 h2 (e1 ad _ h4) (fun _ z => by cases z) (fun _ _ z => by cases z) b ys t) r)
theorem et_thawS {k : Bool} {i : Nat} {q : Dc α × β} (hi : env[i]? = some (.own (OS.mk q))) (h : ET X e (env.set i (.dat q)) k) : ET X e env k := fun O fp σ H S Q r => h O (setF fp i []) σ H (S.frz hi fun v Hf r q => own_frzS r q) Q r
theorem SOk.osMut {O : Addr → Prop} {fp : Nat → List Addr} {σ : L2.St} {H : Hp} {i : Nat} {q : Dc α × β} (S : SOk X.K O fp env σ H) (hi : env[i]? = some (.own (OS.mk q))) {t ad : Addr} {ws : List (Key × V)} {u : V} {d : Dc α} {ws' : List (Key × V)} (h1 : σ[i]? = some (some (.ref t))) (h2 : fp i = [ad]) (h3 : SqT X.K (wo H (UU O fp)) t [.ref ad, u]) (hr : repD X.K (wo H (UU O fp)) ws' d.kvs) (h6 : Dat.rep X.K (wo H (UU O fp)) u q.2) : SOk X.K O fp (env.set i (.own (OS.mk (d, q.2)))) σ (upd H ad (.dK ws')) :=
  S.mut hi h2 fun v' hv' => by
    rw [h1] at hv'
    cases hv'
    exact ⟨t, ad, ws', u, rfl, h3, rfl, upd_same, hr, h6⟩
/-- x[0].clear() of one's own pair -/
theorem sx_clearS {i : Nat} {n : Str} {q : Dc α × β} {j : Nat} {pos' : Pos} (hi : env[i]? = some (.own (OS.mk q))) (h : SX X W rest (env.set i (.own (OS.mk ((⟨[]⟩ : Dc α), q.2)))) po) (hN : X.N[i]? = some n := by rfl) (hv : Vis X.env.scope n := by first | exact Or.inl rfl | exact Or.inr (Or.inl rfl) | exact Or.inr (Or.inr rfl)) (hd : (n == ("__debug__" : Str)) = false := by decide) (hc : (n == ("__classdict__" : Str)) = false := by decide)
    (hbase : attributeBase (.Subscript (.Name n p) (.Constant (.int 0) j pos') p2) "clear" X.env (eval (.Subscript (.Name n p) (.Constant (.int 0) j pos') p2) X.env) = eval (.Subscript (.Name n p) (.Constant (.int 0) j pos') p2) X.env := by rfl) (hline : (apos.endLine == cpos.line) = true := by rfl) (hs : swapsWith (.Call (.Attribute (.Subscript (.Name n p) (.Constant (.int 0) j pos') p2) "clear" apos) [] [] cpos) none pos.line X.env = pure false := by rfl) :
    SX X W (.Expr (.Call (.Attribute (.Subscript (.Name n p) (.Constant (.int 0) j pos') p2) "clear" apos) [] [] cpos) pos :: rest) env po :=
  sx_step (ps_expr (pe_dclear (pe_ix ix_tup (pe_var hN hv hd hc) pe_int (fun _ _ => rfl)) hbase hline) hs) (fun O fp σ H S D k => by
    obtain ⟨t, ad, ws, u, h1, h2, h3, h4, h5, h6⟩ := S.os hi
    refine ⟨.ref t, h1, t, [.ref ad, u], 0, _, rfl, rfl, wo_le.tup h3, atI_nat (j := 0) rfl, .inr (.inr (.inl ⟨rfl, .inl ⟨ws, h4⟩⟩)), ad, ws, rfl, rfl, h4, ?_⟩
    exact k fp σ _ (Keep.mut ⟨i, by rw [h2]; exact List.mem_singleton.mpr rfl⟩) (S.osMut hi (ws := ws) h1 h2 h3 .nil h6)) h
/-- f(..)[0].clear() of something new -/
theorem sx_clearT {q : Dc α × β} {j : Nat} {pos' : Pos} (he : EN X e env (OS.mk q)) (h : SX X W rest env po)
    (hbase : attributeBase (.Subscript e (.Constant (.int 0) j pos') p2) "clear" X.env (eval (.Subscript e (.Constant (.int 0) j pos') p2) X.env) = eval (.Subscript e (.Constant (.int 0) j pos') p2) X.env := by rfl) (hline : (apos.endLine == cpos.line) = true := by rfl) (hs : swapsWith (.Call (.Attribute (.Subscript e (.Constant (.int 0) j pos') p2) "clear" apos) [] [] cpos) none pos.line X.env = pure false := by rfl) :
    SX X W (.Expr (.Call (.Attribute (.Subscript e (.Constant (.int 0) j pos') p2) "clear" apos) [] [] cpos) pos :: rest) env po :=
  sx_step (ps_expr (pe_dclear (pe_ix ix_tup (mE X e) pe_int (fun _ _ => rfl)) hbase hline) hs) (fun O fp σ H S D k => by
    refine he O fp σ H S _ fun v L H1 e1 hL hd ow => ?_
    obtain ⟨t, ad, ws, u, h1, h3, h2, h4, h5, h6⟩ := ow _ (Le.refl _)
    subst h1
    have fr : H ad = none := hL ad (by rw [h2]; exact List.mem_singleton.mpr rfl)
    have e2 : Ex H (upd H1 ad (.dK [])) := fun b ob hb => by
      rw [upd_ne (ne_of_none hb fr)]
      exact e1 b ob hb
    refine ⟨t, [.ref ad, u], 0, _, rfl, rfl, wo_le.tup h3, atI_nat (j := 0) rfl, .inr (.inr (.inl ⟨rfl, .inl ⟨ws, h4⟩⟩)), ad, ws, rfl, rfl, h4, ?_⟩
    exact k fp σ _ (Keep.ex e2) (S.ex e2)) h
end
end R
set_option maxHeartbeats 400000
set_option autoImplicit false
namespace R
open PySem PySem.Spec PyProof.Rows L2
section
variable {X : Cx} {W : WX} {env env' : Env'} {ρ α β γ : Type} [Res ρ] [Dat α] [Dat β] [Dat γ] {po : Po ρ} {x : α} {y : β} {z : γ} {e a b c tg iter o : Expr} {es elts : List Expr} {pos p p2 pc p3 apos cpos tpos : Pos} {rest body : List Stmt} {xs ys : List α} {st : Stmt}
/-- str(i) -/
def showI (i : Int) : Str := toString i
def Shown (i : Int) : Prop := i.natAbs.log2 < 1920
theorem ex_strI {i : Int} (hm : X.mg "str" = none) (h : EX X a env i) (g : Shown i) (he : starEach [a] X.env = (false, eval a X.env) :: starEach [] X.env := by exact star_plain rfl _ _) (hpl : (backTo pos (starEach [] X.env)).any (·.1) = false := by exact star_pl rfl) (hg : Gl X "str" := by rfl) : EX X (.Call (.Name "str" p) [a] [] pos) env (showI i) :=
  ex_callTy call_str_int hm (by decide +kernel) (ea1 h he) (rc1 fun U v H bn r Q q => ⟨i, by rw [show v = .int i from r], g, q _ H (Ex.refl H) rfl⟩) hg (by decide) (by decide) he hpl
/-- f(..).append(x) of something new -/
theorem sx_appT (he : EN X e env (OL.mk xs)) (hx : EX X a env x) (hz : xs.length < 100000) (h : SX X W rest env po) (ps : PS X st (tDrop (tBM X.K "list" rAppend (tE X e) (tCons (tE X a) tNil)))) : SX X W (st :: rest) env po :=
  sx_step ps (fun O fp σ H S D k => by
    refine he O fp σ H S _ fun v L H1 e1 hL hd ow => ?_
    obtain ⟨ad, vs, h1, h2, h3, h4⟩ := ow _ (Le.refl _)
    subst h1
    have fr : H ad = none := hL ad (by rw [h2]; exact List.mem_singleton.mpr rfl)
    refine ⟨.inl ⟨rfl, vs, .inl (.inl h3)⟩, hx O fp σ H1 (S.ex e1) _ fun u H2 e2 r2 => ⟨ad, vs, u, rfl, rfl, e2 ad _ h3, ?_, ?_⟩⟩
    · rw [Paired.length h4]
      exact Nat.lt_of_lt_of_le hz (by decide)
    · have e3 : Ex H (upd H2 ad (.lst (vs ++ [u]))) := fun b ob hb => by
        rw [upd_ne (ne_of_none hb fr)]
        exact e2 b ob (e1 b ob hb)
      exact k fp σ _ (Keep.ex e3) (S.ex e3)) h
end
end R
set_option maxHeartbeats 1000000
set_option autoImplicit false
/-! calls that are handed one's own lists and change them -/
namespace R
open PySem PySem.Spec PyProof.Rows L2
/-- one's own, at a value that is known -/
structure At (β : Type) where
  v : V
  x : β
instance {β : Type} [Own β] : Own (At β) := ⟨fun K Hf H v L a => v = a.v ∧ Own.own K Hf H v L a.x, fun h hc ⟨e, q⟩ => ⟨e, Own.frame h hc q⟩⟩
section
variable {K : PySem.W.Frag} {O : Addr → Prop} {fp : Nat → List Addr} {env : Env'} {σ : L2.St} {H H' : Hp}
theorem SOk.pin {β : Type} [Own β] {i : Nat} {x : β} (S : SOk K O fp env σ H) (hi : env[i]? = some (.own x)) : ∃ v, σ[i]? = some (some v) ∧ SOk K O fp (env.set i (.own (At.mk v x))) σ H := by
  obtain ⟨v, h1, h2⟩ := S.sl i _ hi
  refine ⟨v, h1, { len := by rw [List.length_set]; exact S.len, bnd := S.bnd, fpO := S.fpO, sep := S.sep, dom := S.dom, sl := fun j s q => ?_ }⟩
  by_cases e : i = j
  · subst e
    rw [List.getElem?_set_self (List.getElem?_eq_some_iff.mp hi).1] at q
    cases q
    exact ⟨v, h1, rfl, h2⟩
  · rw [List.getElem?_set_ne e] at q
    exact S.sl j s q
theorem SOk.unpin {β : Type} [Own β] {i : Nat} {v : V} {x : β} (S : SOk K O fp env σ H) (hi : env[i]? = some (.own (At.mk v x))) : SOk K O fp (env.set i (.own x)) σ H where
  len := by rw [List.length_set]; exact S.len
  bnd := S.bnd
  fpO := S.fpO
  sep := S.sep
  dom := S.dom
  sl := fun j s q => by
    by_cases e : i = j
    · subst e
      rw [List.getElem?_set_self (List.getElem?_eq_some_iff.mp hi).1] at q
      cases q
      obtain ⟨w, h1, h2, h3⟩ := S.sl i _ hi
      exact ⟨w, h1, h3⟩
    · rw [List.getElem?_set_ne e] at q
      exact S.sl j s q
end
/-- what is handed over: data, or one's own in a slot -/
inductive Arg : Type 1
  | dat (s : Sl)
  | slot (i : Nat) (keep : Bool)
def AM (K : PySem.W.Frag) (Hf : Hp) (σ : L2.St) : List V → List Arg → Prop
  | [], [] => True
  | v :: vs, .dat (.dat (i := i) x) :: as => i.rep K Hf v x ∧ AM K Hf σ vs as
  | v :: vs, .slot i _ :: as => σ[i]? = some (some v) ∧ AM K Hf σ vs as
  | _, _ => False
theorem AM.mono {K : PySem.W.Frag} {H H' : Hp} {σ : L2.St} (e : Le H H') : ∀ {vs : List V} {as : List Arg}, AM K H σ vs as → AM K H' σ vs as
  | [], [], _ => trivial
  | _ :: _, .dat (.dat (i := i) x) :: _, h => ⟨i.mono e h.1, AM.mono e h.2⟩
  | _ :: _, .slot _ _ :: _, h => ⟨h.1, AM.mono e h.2⟩
  | [], _ :: _, h => by simp [AM] at h
  | _ :: _, [], h => by simp [AM] at h
  | _ :: _, .dat .any :: _, h => by simp [AM] at h
  | _ :: _, .dat (.own (i := _) _) :: _, h => by simp [AM] at h
theorem AM.len {K : PySem.W.Frag} {H : Hp} {σ : L2.St} : ∀ {vs : List V} {as : List Arg}, AM K H σ vs as → vs.length = as.length
  | [], [], _ => rfl
  | _ :: _, .dat (.dat (i := i) x) :: _, h => congrArg (· + 1) (AM.len h.2)
  | _ :: _, .slot _ _ :: _, h => congrArg (· + 1) (AM.len h.2)
  | [], _ :: _, h => by simp [AM] at h
  | _ :: _, [], h => by simp [AM] at h
  | _ :: _, .dat .any :: _, h => by simp [AM] at h
  | _ :: _, .dat (.own (i := _) _) :: _, h => by simp [AM] at h
/-- what the called def's slots hold at its start -/
def pinS (v : V) : Option Sl → Sl
  | some (.own (i := _) x) => .own (At.mk v x)
  | _ => .any
def mkA (env : Env') : List V → List Arg → Env'
  | v :: vs, .dat s :: as => s :: mkA env vs as
  | v :: vs, .slot i b :: as => (if b = true then pinS v env[i]? else env[i]?.getD .any) :: mkA env vs as
  | _, _ => []
/-- what the caller's slots hold behind the call -/
def upA (e' : Env') : Nat → List Arg → Env' → Env'
  | _, [], env => env
  | k, .dat _ :: as, env => upA e' (k + 1) as env
  | k, .slot i b :: as, env => upA e' (k + 1) as (env.set i (if b = true then e'.getD k .any else .any))
def isPin (v : V) : Sl → Prop
  | s => ∃ (β : Type) (_ : Own β) (y : β), s = .own (At.mk v y)
theorem mkA_len (env : Env') : ∀ {vs : List V} {as : List Arg}, vs.length = as.length → (mkA env vs as).length = vs.length
  | [], [], _ => rfl
  | _ :: _, .dat _ :: _, h => congrArg (· + 1) (mkA_len env (Nat.succ.inj h))
  | _ :: _, .slot _ _ :: _, h => congrArg (· + 1) (mkA_len env (Nat.succ.inj h))
theorem AM.get {K : PySem.W.Frag} {H : Hp} {σ : L2.St} {env : Env'} : ∀ {vs : List V} {as : List Arg}, AM K H σ vs as → ∀ {k : Nat} {v : V}, vs[k]? = some v → (∃ (α : Type) (i : Dat α) (x : α), as[k]? = some (.dat (.dat x)) ∧ (mkA env vs as)[k]? = some (.dat x) ∧ i.rep K H v x) ∨ ∃ (i : Nat) (b : Bool), as[k]? = some (.slot i b) ∧ (mkA env vs as)[k]? = some (if b = true then pinS v env[i]? else env[i]?.getD .any) ∧ σ[i]? = some (some v)
  | v :: vs, .dat (.dat (i := i) x) :: as, h, 0, w, e => by cases e; exact .inl ⟨_, i, x, rfl, rfl, h.1⟩
  | v :: vs, .slot i b :: as, h, 0, w, e => by cases e; exact .inr ⟨i, b, rfl, rfl, h.1⟩
  | v :: vs, .dat (.dat (i := i) x) :: as, h, k + 1, w, e => AM.get (vs := vs) (as := as) h.2 (by simpa using e)
  | v :: vs, .slot i b :: as, h, k + 1, w, e => AM.get (vs := vs) (as := as) h.2 (by simpa using e)
  | [], _, _, k, w, e => by simp at e
  | _ :: _, [], h, _, _, _ => by simp [AM] at h
  | _ :: _, .dat .any :: _, h, _, _, _ => by simp [AM] at h
  | _ :: _, .dat (.own (i := _) _) :: _, h, _, _, _ => by simp [AM] at h
/-- which slot stands at which place -/
def posOf (as : List Arg) (i : Nat) : Option Nat := as.findIdx? fun a => match a with
  | .slot j _ => decide (j = i)
  | .dat _ => false
theorem posOf_some {as : List Arg} {i k : Nat} (h : posOf as i = some k) : ∃ b, as[k]? = some (.slot i b) := by
  unfold posOf at h
  obtain ⟨h1, h2, _⟩ := List.findIdx?_eq_some_iff_getElem.mp h
  rw [List.getElem?_eq_getElem h1]
  cases e : as[k] with
  | dat s => rw [e] at h2; simp at h2
  | slot j b =>
    rw [e] at h2
    have : j = i := by simpa using h2
    rw [this]
    exact ⟨b, rfl⟩
theorem posOf_none {as : List Arg} {i : Nat} (h : posOf as i = none) (k : Nat) (b : Bool) : as[k]? ≠ some (.slot i b) := fun e => by
  unfold posOf at h
  rw [List.findIdx?_eq_none_iff] at h
  have := h _ (List.mem_of_getElem? e)
  simp at this
/-- each slot is handed over once -/
def Once (as : List Arg) : Prop := ∀ (k l i : Nat) (b c : Bool), as[k]? = some (.slot i b) → as[l]? = some (.slot i c) → k = l
theorem posOf_is {as : List Arg} (h1 : Once as) {k i : Nat} {b : Bool} (h : as[k]? = some (.slot i b)) : posOf as i = some k := by
  cases e : posOf as i with
  | none => exact absurd h (posOf_none e k b)
  | some l =>
    obtain ⟨c, hc⟩ := posOf_some e
    rw [h1 k l i b c h hc]
theorem upA_get (e' : Env') : ∀ (as : List Arg) (k : Nat) (env : Env') (j : Nat), (∀ (l : Nat) (b : Bool), as[l]? ≠ some (.slot j b)) → (upA e' k as env)[j]? = env[j]?
  | [], _, _, _, _ => rfl
  | .dat _ :: as, k, env, j, h => upA_get e' as (k + 1) env j fun l b => by simpa using h (l + 1) b
  | .slot i b :: as, k, env, j, h => by
    show (upA e' (k + 1) as _)[j]? = _
    rw [upA_get e' as (k + 1) _ j fun l b => by simpa using h (l + 1) b, List.getElem?_set_ne fun e => h 0 b (by rw [e]; rfl)]
theorem upA_at (e' : Env') : ∀ (as : List Arg) (k : Nat) (env : Env') (l j : Nat) (b : Bool), Once as → as[l]? = some (.slot j b) → j < env.length → (upA e' k as env)[j]? = some (if b = true then e'.getD (k + l) .any else .any)
  | .dat _ :: as, k, env, 0, j, _, _, h, _ => by simp at h
  | .dat _ :: as, k, env, l + 1, j, b, o, h, hl => by
    have := upA_at e' as (k + 1) env l j b (fun a c i x y q1 q2 => by have := o (a + 1) (c + 1) i x y (by simpa using q1) (by simpa using q2); omega) (by simpa using h) hl
    rw [show k + 1 + l = k + (l + 1) by omega] at this
    exact this
  | .slot i b' :: as, k, env, 0, j, b, o, h, hl => by
    have e : i = j ∧ b' = b := by simpa using h
    obtain ⟨e, e2⟩ := e
    subst e e2
    show (upA e' (k + 1) as _)[i]? = _
    rw [upA_get e' as (k + 1) _ i fun l b z => by have := o 0 (l + 1) i b' b rfl (by simpa using z); omega, List.getElem?_set_self hl]
    rfl
  | .slot i b' :: as, k, env, l + 1, j, b, o, h, hl => by
    have := upA_at e' as (k + 1) (env.set i (if b' = true then e'.getD k .any else .any)) l j b (fun a c i x y q1 q2 => by have := o (a + 1) (c + 1) i x y (by simpa using q1) (by simpa using q2); omega) (by simpa using h) (by rw [List.length_set]; exact hl)
    rw [show k + 1 + l = k + (l + 1) by omega] at this
    exact this
  | [], _, _, _, _, _, _, h, _ => by simp at h
theorem upA_len (e' : Env') : ∀ (as : List Arg) (k : Nat) (env : Env'), (upA e' k as env).length = env.length
  | [], _, _ => rfl
  | .dat _ :: as, k, env => upA_len e' as (k + 1) env
  | .slot i b :: as, k, env => by rw [show upA e' k (.slot i b :: as) env = upA e' (k + 1) as (env.set i (if b = true then e'.getD k .any else .any)) from rfl, upA_len e' as, List.length_set]
def Pins (vs : List V) (as : List Arg) (e' : Env') : Prop := ∀ (l i : Nat) (v : V), as[l]? = some (.slot i true) → vs[l]? = some v → isPin v (e'.getD l .any)
/-- the heart of a call with one's own handed over -/
theorem callM_core {K : PySem.W.Frag} {O : Addr → Prop} {fp : Nat → List Addr} {env : Env'} {σ : L2.St} {H : Hp} {vs : List V} {as : List Arg} (S1 : SOk K O fp env σ H) (r1 : AM K (wo H (UU O fp)) σ vs as) (ho : Once as) (hown : ∀ (l i : Nat) (b : Bool), as[l]? = some (.slot i b) → ∃ (β : Type) (_ : Own β) (x : β), env[i]? = some (.own x)) :
    ∃ (Oc : Addr → Prop) (fc : Nat → List Addr), SOk K Oc fc (mkA env vs as) (vs.map some) H ∧ (∀ i a, a ∈ fc i → i < as.length ∧ ∃ (j k : Nat) (b : Bool), as[k]? = some (Arg.slot j b) ∧ a ∈ fp j) ∧ (∀ a, (O a ∨ ∃ j, posOf as j = none ∧ a ∈ fp j) → Oc a) ∧ ∀ env' fp' σ' H', Pins vs as env' → Keep fc H fp' H' → SOk K Oc fp' env' σ' H' → ∃ f2, Keep fp H f2 H' ∧ SOk K O f2 (upA env' 0 as env) σ H' ∧ (∀ a, UU O f2 a → UU Oc fp' a) := by
  have hlen : vs.length = as.length := r1.len
  let Oc : Addr → Prop := fun a => O a ∨ ∃ j, posOf as j = none ∧ a ∈ fp j
  let fc : Nat → List Addr := fun k => match as[k]? with
    | some (.slot i _) => fp i
    | _ => []
  have fc_in : ∀ k a, a ∈ fc k → ∃ i b, as[k]? = some (.slot i b) ∧ a ∈ fp i := fun k a z => by
    cases q : as[k]? with
    | none => simp only [fc, q] at z; cases z
    | some b =>
      cases b with
      | dat s => simp only [fc, q] at z; cases z
      | slot i c => simp only [fc, q] at z; exact ⟨i, c, rfl, z⟩
  have fc_at : ∀ k i b, as[k]? = some (.slot i b) → fc k = fp i := fun k i b q => by simp only [fc, q]
  have hU : UU Oc fc = UU O fp := by
    funext a
    apply propext
    constructor
    · rintro ((z | ⟨j, _, z⟩) | ⟨k, z⟩)
      · exact .inl z
      · exact .inr ⟨j, z⟩
      · obtain ⟨i, _, _, z⟩ := fc_in k a z
        exact .inr ⟨i, z⟩
    · rintro (z | ⟨j, z⟩)
      · exact .inl (.inl z)
      · cases q : posOf as j with
        | none => exact .inl (.inr ⟨j, q, z⟩)
        | some k =>
          obtain ⟨b, hb⟩ := posOf_some q
          exact .inr ⟨k, by rw [fc_at k j b hb]; exact z⟩
  refine ⟨Oc, fc, {
    len := by rw [List.length_map, mkA_len env hlen]
    bnd := fun a z => by
      rcases z with z | ⟨j, _, z⟩
      · exact S1.bnd a z
      · exact S1.dom j a z
    fpO := fun k a z => by
      obtain ⟨i, b, q, z⟩ := fc_in k a z
      rintro (y | ⟨j, q2, y⟩)
      · exact S1.fpO i a z y
      · have := S1.sep i j a z y
        subst this
        exact posOf_none q2 k b q
    sep := fun k l a z y => by
      obtain ⟨i, b, q, z⟩ := fc_in k a z
      obtain ⟨j, c, q2, y⟩ := fc_in l a y
      have := S1.sep i j a z y
      subst this
      exact ho k l i b c q q2
    dom := fun k a z => by
      obtain ⟨i, _, q, z⟩ := fc_in k a z
      exact S1.dom i a z
    sl := fun l s q => by
      rw [hU]
      have hk : l < vs.length := by rw [← mkA_len env hlen]; exact (List.getElem?_eq_some_iff.mp q).1
      have ev : vs[l]? = some vs[l] := List.getElem?_eq_getElem hk
      rcases r1.get (env := env) ev with ⟨α', i, x, q1, q2, q3⟩ | ⟨i, b, q1, q2, q3⟩
      · rw [q2] at q
        cases q
        exact ⟨vs[l], by rw [List.getElem?_map, ev]; rfl, q3⟩
      · obtain ⟨β, ib, x, hx⟩ := hown l i b q1
        rw [q2, hx] at q
        obtain ⟨v', y1, y2⟩ := S1.sl i _ hx
        rw [q3] at y1
        have y1 : vs[l] = v' := by injection y1 with y1; injection y1
        subst y1
        cases b with
        | true =>
          cases q
          exact ⟨vs[l], by rw [List.getElem?_map, ev]; rfl, rfl, by rw [fc_at l i true q1]; exact y2⟩
        | false =>
          cases q
          exact ⟨vs[l], by rw [List.getElem?_map, ev]; rfl, by rw [fc_at l i false q1]; exact y2⟩ }, fun l a z => ?_, fun a z => z, fun env' fp' σ' H' hpin kp S' => ?_⟩
  · obtain ⟨i, b, q, y⟩ := fc_in l a z
    exact ⟨(List.getElem?_eq_some_iff.mp q).1, i, l, b, q, y⟩
  · let f2 : Nat → List Addr := fun j => match posOf as j with
      | some k => (match as[k]? with
        | some (.slot _ true) => fp' k
        | _ => [])
      | none => fp j
    have f2_n : ∀ j, posOf as j = none → f2 j = fp j := fun j q => by simp only [f2, q]
    have f2_t : ∀ j k i, posOf as j = some k → as[k]? = some (.slot i true) → f2 j = fp' k := fun j k i q q2 => by simp only [f2, q, q2]
    have f2_f : ∀ j k i, posOf as j = some k → as[k]? = some (.slot i false) → f2 j = [] := fun j k i q q2 => by simp only [f2, q, q2]
    have f2_s : ∀ j k a, posOf as j = some k → a ∈ f2 j → a ∈ fp' k := fun j k a q z => by
      obtain ⟨b, hb⟩ := posOf_some q
      cases b with
      | true => rw [f2_t j k j q hb] at z; exact z
      | false => rw [f2_f j k j q hb] at z; cases z
    have KP : Keep fp H f2 H' := ⟨fun a o n q => kp.1 a o (fun ⟨k, z⟩ => by obtain ⟨i, _, _, z⟩ := fc_in k a z; exact n ⟨i, z⟩) q, fun j a z => by
      cases q : posOf as j with
      | none => rw [f2_n j q] at z; exact .inl ⟨j, z⟩
      | some k =>
        rcases kp.2 k a (f2_s j k a q z) with ⟨l, y⟩ | y
        · obtain ⟨i, _, _, y⟩ := fc_in l a y
          exact .inl ⟨i, y⟩
        · exact .inr y⟩
    have hsub : ∀ a, UU O f2 a → UU Oc fp' a := fun a z => by
      rcases z with z | ⟨j, z⟩
      · exact .inl (.inl z)
      · cases q : posOf as j with
        | none => rw [f2_n j q] at z; exact .inl (.inr ⟨j, q, z⟩)
        | some k => exact .inr ⟨k, f2_s j k a q z⟩
    have hle : Le (wo H' (UU Oc fp')) (wo H' (UU O f2)) := (wo_mono hsub).le
    refine ⟨f2, KP, {
      len := by rw [upA_len]; exact S1.len
      bnd := fun a z => S'.bnd a (.inl z)
      fpO := fun j a z y => by
        cases q : posOf as j with
        | none => rw [f2_n j q] at z; exact S1.fpO j a z y
        | some k => exact S'.fpO k a (f2_s j k a q z) (.inl y)
      sep := fun i j a z y => by
        cases q : posOf as i with
        | none =>
          rw [f2_n i q] at z
          cases q2 : posOf as j with
          | none => rw [f2_n j q2] at y; exact S1.sep i j a z y
          | some l => exact absurd (.inr ⟨i, q, z⟩) (S'.fpO l a (f2_s j l a q2 y))
        | some k =>
          have z := f2_s i k a q z
          cases q2 : posOf as j with
          | none => rw [f2_n j q2] at y; exact absurd (.inr ⟨j, q2, y⟩) (S'.fpO k a z)
          | some l =>
            have y := f2_s j l a q2 y
            have := S'.sep k l a z y
            subst this
            obtain ⟨b, hb⟩ := posOf_some q
            obtain ⟨c, hc⟩ := posOf_some q2
            have := hb.symm.trans hc
            injection this with this
            injection this
      dom := fun j a z => by
        cases q : posOf as j with
        | none => rw [f2_n j q] at z; exact S'.bnd a (.inr ⟨j, q, z⟩)
        | some k => exact S'.dom k a (f2_s j k a q z)
      sl := fun j s q => by
        cases qp : posOf as j with
        | none =>
          rw [upA_get env' as 0 env j (posOf_none qp)] at q
          have r := S1.sl j s q
          cases s with
          | any => exact trivial
          | dat x =>
            obtain ⟨v, y1, y2⟩ := r
            exact ⟨v, y1, Dat.mono KP.frz.le y2⟩
          | own x =>
            obtain ⟨v, y1, y2⟩ := r
            refine ⟨v, y1, ?_⟩
            rw [f2_n j qp]
            refine Own.frame KP.frz.le (fun a z => ?_) y2
            obtain ⟨o, w⟩ := S1.dom j a z
            rw [w]
            exact kp.1 a o (fun ⟨l, y⟩ => by
              obtain ⟨i, b, q3, y⟩ := fc_in l a y
              have := S1.sep i j a y z
              subst this
              exact posOf_none qp l b q3) w
        | some l =>
          obtain ⟨b, hs⟩ := posOf_some qp
          have hj : j < env.length := by
            obtain ⟨β, ib, x, hx⟩ := hown l j b hs
            exact (List.getElem?_eq_some_iff.mp hx).1
          rw [upA_at env' as 0 env l j b ho hs hj, Nat.zero_add] at q
          cases b with
          | false =>
            have q : Sl.any = s := by injection q
            subst q
            exact trivial
          | true =>
            have hlv : l < vs.length := by rw [hlen]; exact (List.getElem?_eq_some_iff.mp hs).1
            have ev : vs[l]? = some vs[l] := List.getElem?_eq_getElem hlv
            obtain ⟨β, ib, y, hy⟩ := hpin l j vs[l] hs ev
            have es : s = .own (At.mk vs[l] y) := by
              have q : env'.getD l .any = s := by injection q
              rw [← q]; exact hy
            subst es
            have el : env'[l]? = some (.own (At.mk vs[l] y)) := by
              rw [List.getD_eq_getElem?_getD] at hy
              cases w : env'[l]? with
              | none => rw [w] at hy; cases hy
              | some t => rw [w] at hy; rw [show t = _ from hy]
            obtain ⟨v', y1, y2, y3⟩ := S'.sl l _ el
            have y2 : v' = vs[l] := y2
            subst y2
            have hσ : σ[j]? = some (some vs[l]) := by
              rcases r1.get (env := env) ev with ⟨α', i, x, q1, _⟩ | ⟨i, b', q1, _, q3⟩
              · rw [hs] at q1; cases q1
              · rw [hs] at q1
                cases q1
                exact q3
            refine ⟨vs[l], hσ, rfl, ?_⟩
            rw [f2_t j l j qp hs]
            exact Own.frame hle (fun _ _ => rfl) y3 }, hsub⟩
/-- the promise of a def that changes what it is handed: args, what holds of its slots at its end -/
abbrev PhiM (ρ : Type) := List Sl → (ρ → Env' → Prop) → Prop
def spM {ρ : Type} [Dat ρ] (K : PySem.W.Frag) (n : Nat) (Φ : PhiM ρ) : Sp := fun vs H Q _ =>
  vs.length = n ∧ ∃ O fp args R, Φ args R ∧ (∀ i a, a ∈ fp i → i < n) ∧ SOk K O fp args (vs.map some) H ∧
    (∀ r env' fp' σ' v H', R r env' → Keep fp H fp' H' → SOk K O fp' env' σ' H' → Dat.rep K (wo H' (UU O fp')) v r → Q v H')
theorem SOk.padM {K : PySem.W.Frag} {O : Addr → Prop} {fp : Nat → List Addr} {args : Env'} {vs : List V} {H : Hp} (S : SOk K O fp args (vs.map some) H) (n : Nat) : SOk K O fp (args ++ List.replicate n .any) (vs.map some ++ List.replicate n none) H where
  len := by simp [S.len] <;> simpa using S.len
  bnd := S.bnd
  fpO := S.fpO
  sep := S.sep
  dom := S.dom
  sl := fun i s q => by
    have hl : vs.length = args.length := by simpa using S.len
    by_cases h : i < args.length
    · rw [List.getElem?_append_left h] at q
      rw [List.getElem?_append_left (by simpa [hl] using h)]
      exact S.sl i s q
    · rw [List.getElem?_append_right (by omega)] at q
      have := List.mem_of_getElem? q
      rw [List.mem_replicate] at this
      rw [this.2]
      exact trivial
section
variable {P : Program} {w : World} {K : PySem.W.Frag} {mg : Str → Option Value} {base : Heap}
theorem fn_okM {ρ : Type} [Dat ρ] {x qual : Str} {st : Stmt} {f : Addr} {fd : FuncData} {N ps : List Str} {k n : Nat} {Φ : PhiM ρ} (F : Fun K x qual st f fd) (S : FnScope N ps (defScope st)) (hn : ps.length = n)
    (hb : ∀ (args : Env') (R : ρ → Env' → Prop), Φ args R → args.length = n → ∀ (cdv : Value) (A : Around) (outer : List PySem.Env) (s : Shared) (H : Hp) (E : XK) (W : WX), Room k (A.deeper (envOfC qual (defScope st) s.heap.objs.size f cdv)) → Takes (cxX P w K mg base N qual (defScope st) f cdv A outer s H E) W →
      SX (cxX P w K mg base N qual (defScope st) f cdv A outer s H E) W (defBody st) (args ++ List.replicate (N.length - n) .any) { N := fun e => ∃ r, R r e ∧ ∀ Hf, Dat.rep K Hf .non r, R := R }) :
    FnOk P w K mg base (L2.CX P w) (k + 1) f fd ps (spM K n Φ) := by
  refine F.okX S (fun vs H Q E h => h.1.trans hn.symm) fun cdv A outer s H vs Q E hr h => ?_
  obtain ⟨hl, O, fp, args, R, ph, hfp, SS, hq⟩ := h
  have hlen : args.length = n := by
    have := SS.len
    rw [List.length_map] at this
    omega
  refine ⟨tSs _ _, mSs _ _, ?_⟩
  have tk : Takes (cxOf (L2.CX P w) P w K mg base N qual (defScope st) f cdv A outer s H E) (fun cls d _ H => E cls d H) := takes_of rfl rfl rfl rfl
  refine hb args R ph hlen cdv A outer s H E (fun cls d _ H => E cls d H) hr tk O fp _ H ?_ _ ?_
  · have := SS.padM (N.length - n)
    rw [show L2.start N vs = vs.map some ++ List.replicate (N.length - n) none from by unfold L2.start; rw [hl]]
    exact this
  · exact ⟨fun e fp' σ' H' ⟨r, h1, h2⟩ kp S' => hq r e fp' σ' .non H' h1 kp S' (h2 _), fun r e fp' σ' v H' h1 kp S' rp => hq r e fp' σ' v H' h1 kp S' rp, fun x e fp' σ' cls d H' h1 kp S' xa => h1.elim, fun _ _ _ _ h => h.elim, fun _ _ _ _ h => h.elim⟩
end
def EAM (X : Cx) (es : List Expr) (env : Env') (as : List Arg) : Prop :=
  ∀ O fp σ H, SOk X.K O fp env σ H → ∀ Q : List V → Hp → Prop, (∀ vs H', Ex H H' → AM X.K (wo H' (UU O fp)) σ vs as → Q vs H') → tA X es σ H Q
section
variable {X : Cx} {W : WX} {env env' : Env'} {ρ α β γ : Type} [Res ρ] [Dat α] [Dat β] [Dat γ] {po : Po ρ} {x : α} {y : β} {z : γ} {e a b c tg : Expr} {es : List Expr} {pos p p2 : Pos} {st : Stmt} {sts rest : List Stmt}
theorem eam_nil : EAM X [] env [] := fun O fp σ H S Q q => tA_of fun pos pins s I => (pa_nil).run pos pins s σ H Q I (q [] H (Ex.refl H) trivial)
theorem eam_dat {as : List Arg} (h : EX X e env x) (hr : EAM X es env as) (hs : starEach (e :: es) X.env = (false, eval e X.env) :: starEach es X.env := by exact star_plain rfl _ _) : EAM X (e :: es) env (.dat (.dat x) :: as) := fun O fp σ H S Q q => tA_of fun pos pins s I =>
  (pa_cons (mE X e) (mA X es) hs).run pos pins s σ H Q I (h O fp σ H S _ fun v H1 e1 r1 => hr O fp σ H1 (S.ex e1) _ fun vs H2 e2 r2 => q _ H2 (e1.trans e2) ⟨Dat.mono (wo_ex e2).le r1, r2⟩)
theorem eam_slot (keep : Bool) {i : Nat} {n : Str} {as : List Arg} {β : Type} [Own β] {x : β} (h : env[i]? = some (.own x)) (hr : EAM X es env as) (hN : X.N[i]? = some n := by rfl) (hv : Vis X.env.scope n := by first | exact Or.inl rfl | exact Or.inr (Or.inl rfl) | exact Or.inr (Or.inr rfl)) (hd : (n == ("__debug__" : Str)) = false := by decide) (hc : (n == ("__classdict__" : Str)) = false := by decide)
    (hs : starEach (.Name n p :: es) X.env = (false, eval (.Name n p) X.env) :: starEach es X.env := by exact star_plain rfl _ _) : EAM X (.Name n p :: es) env (.slot i keep :: as) := fun O fp σ H S Q q => tA_of fun pos pins s I => by
  obtain ⟨v, h1, _⟩ := S.sl i _ h
  exact (pa_cons (pe_var hN hv hd hc) (mA X es) hs).run pos pins s σ H Q I ⟨v, h1, hr O fp σ H S _ fun vs H2 e2 r2 => q _ H2 e2 ⟨h1, r2⟩⟩
/-- f(..) as a statement, some of one's own handed over -/
theorem sx_callM {n : Str} {k m : Nat} {ps : List Str} {Φ : PhiM Unit} {as : List Arg} (d : DefOk X.prog X.w X.K X.mg X.base n k ps [] (spM X.K m Φ)) (hr : Room k X.A) (ha : EAM X (e :: es) env as) (ho : Once as) (hown : ∀ (l i : Nat) (b : Bool), as[l]? = some (.slot i b) → ∃ (β : Type) (_ : Own β) (x : β), env[i]? = some (.own x)) (hl : as.length = m)
    (h : ∀ vs : List V, vs.length = as.length → ∃ R, Φ (mkA env vs as) R ∧ ∀ r e', R r e' → Pins vs as e' ∧ SX X W rest (upA e' 0 as env) po)
    (hg : Gl X n := by rfl) (hdb : (n == ("__debug__" : Str)) = false := by decide) (he : starEach (e :: es) X.env = (false, eval e X.env) :: starEach es X.env := by exact star_plain rfl _ _) (hpl : (backTo pos (starEach es X.env)).any (·.1) = false := by exact star_pl rfl) (hs : swapsWith (.Call (.Name n p) (e :: es) [] pos) none p2.line X.env = pure false := by rfl) :
    SX X W (.Expr (.Call (.Name n p) (e :: es) [] pos) p2 :: rest) env po := by
  obtain ⟨f, fd, ds, F, hm, hk, hb, hv⟩ := d.ex
  refine sx_cons (fun e2 => SX X W rest e2 po) (s1_of (ps_expr (pe_call F hr hg hm hk hb hv passL (mA X _) hdb he hpl) hs) fun O fp σ H S D G => ha O fp σ H S _ fun vs H1 e1 r1 => ?_) fun _ h => h
  obtain ⟨R, hΦ, hR⟩ := h vs r1.len
  show spM X.K m Φ (vs ++ []) H1 _ _
  rw [List.append_nil]
  obtain ⟨Oc, fc, SC, hfc, hOc, fin⟩ := callM_core (S.ex e1) r1 ho hown
  refine ⟨r1.len.trans hl, Oc, fc, mkA env vs as, R, hΦ, fun i a z => by rw [← hl]; exact (hfc i a z).1, SC, fun r env' fp' σ' v H' hr' kp S' _ => ?_⟩
  obtain ⟨hpin, hrest⟩ := hR r env' hr'
  obtain ⟨f2, k2, S2, _⟩ := fin env' fp' σ' H' hpin kp S'
  exact G.nx _ f2 σ H' hrest ((Keep.ex e1).trans k2) S2
/-- t = f(..), some of one's own handed over -/
theorem sx_asgM {n : Str} {k m : Nat} {ps : List Str} {ρ' : Type} [Dat ρ'] {Φ : PhiM ρ'} {as : List Arg} (d : DefOk X.prog X.w X.K X.mg X.base n k ps [] (spM X.K m Φ)) (hr : Room k X.A) (ha : EAM X (e :: es) env as) (ho : Once as) (hown : ∀ (l i : Nat) (b : Bool), as[l]? = some (.slot i b) → ∃ (β : Type) (_ : Own β) (x : β), env[i]? = some (.own x)) (hl : as.length = m)
    (h : ∀ vs : List V, vs.length = as.length → ∃ R, Φ (mkA env vs as) R ∧ ∀ r e', R r e' → Pins vs as e' ∧ ∃ env2, GX X tg r (upA e' 0 as env) env2 ∧ SX X W rest env2 po)
    (hg : Gl X n := by rfl) (hdb : (n == ("__debug__" : Str)) = false := by decide) (he : starEach (e :: es) X.env = (false, eval e X.env) :: starEach es X.env := by exact star_plain rfl _ _) (hpl : (backTo pos (starEach es X.env)).any (·.1) = false := by exact star_pl rfl) (hs : swapsWithSole [tg] (.Call (.Name n p) (e :: es) [] pos) p2.line X.env = pure false := by rfl) (hw : swappedStores [tg] (.Call (.Name n p) (e :: es) [] pos) X.env = pure none := by rfl) (h1 : (assignEach [tg] X.env).map (·.2) = [assign tg X.env] := by rfl) :
    SX X W (.Assign [tg] (.Call (.Name n p) (e :: es) [] pos) p2 :: rest) env po := by
  obtain ⟨f, fd, ds, F, hm, hk, hb, hv⟩ := d.ex
  refine sx_cons (fun e2 => SX X W rest e2 po) (s1_of (ps_asg (pe_call F hr hg hm hk hb hv passL (mA X _) hdb he hpl) (mG X tg) hs hw h1) fun O fp σ H S D G => ha O fp σ H S _ fun vs H1 e1 r1 => ?_) fun _ h => h
  obtain ⟨R, hΦ, hR⟩ := h vs r1.len
  show spM X.K m Φ (vs ++ []) H1 _ _
  rw [List.append_nil]
  obtain ⟨Oc, fc, SC, hfc, hOc, fin⟩ := callM_core (S.ex e1) r1 ho hown
  refine ⟨r1.len.trans hl, Oc, fc, mkA env vs as, R, hΦ, fun i a z => by rw [← hl]; exact (hfc i a z).1, SC, fun r env' fp' σ' v H' hr' kp S' rv => ?_⟩
  obtain ⟨hpin, env2, hgx, hrest⟩ := hR r env' hr'
  obtain ⟨f2, k2, S2, sub⟩ := fin env' fp' σ' H' hpin kp S'
  refine hgx O f2 σ H' v S2 (Dat.mono (wo_mono sub).le rv) _ fun σ3 S3 => ?_
  exact G.nx _ f2 σ3 H' hrest ((Keep.ex e1).trans k2) S3
/-- the promise of a def that eats what it is handed and hands back what is one's own -/
def spMO {ω : Type} [Own ω] (K : PySem.W.Frag) (n : Nat) (Φ : PhiM ω) : Sp := fun vs H Q _ =>
  vs.length = n ∧ ∃ O fp args R, Φ args R ∧ (∀ i a, a ∈ fp i → i < n) ∧ SOk K O fp args (vs.map some) H ∧
    (∀ r env' fp' σ' v H' L, R r env' → Keep fp H fp' H' → SOk K O fp' env' σ' H' → (∀ a ∈ L, ∃ i, a ∈ fp' i) → Own.own K (wo H' (UU O fp')) H' v L r → Q v H')
section
variable {P : Program} {w : World} {K : PySem.W.Frag} {mg : Str → Option Value} {base : Heap}
theorem fn_okMO {ω : Type} [Own ω] {x qual : Str} {st : Stmt} {f : Addr} {fd : FuncData} {N ps : List Str} {k n : Nat} {Φ : PhiM ω} (F : Fun K x qual st f fd) (S : FnScope N ps (defScope st)) (hn : ps.length = n)
    (hb : ∀ (args : Env') (R : ω → Env' → Prop), Φ args R → args.length = n → ∀ (cdv : Value) (A : Around) (outer : List PySem.Env) (s : Shared) (H : Hp) (E : XK) (W : WX), Room k (A.deeper (envOfC qual (defScope st) s.heap.objs.size f cdv)) → Takes (cxX P w K mg base N qual (defScope st) f cdv A outer s H E) W →
      SX (cxX P w K mg base N qual (defScope st) f cdv A outer s H E) W (defBody st) (args ++ List.replicate (N.length - n) .any) { N := fun _ => False, R := R }) :
    FnOk P w K mg base (L2.CX P w) (k + 1) f fd ps (spMO K n Φ) := by
  refine F.okX S (fun vs H Q E h => h.1.trans hn.symm) fun cdv A outer s H vs Q E hr h => ?_
  obtain ⟨hl, O, fp, args, R, ph, hfp, SS, hq⟩ := h
  have hlen : args.length = n := by
    have := SS.len
    rw [List.length_map] at this
    omega
  refine ⟨tSs _ _, mSs _ _, ?_⟩
  have tk : Takes (cxOf (L2.CX P w) P w K mg base N qual (defScope st) f cdv A outer s H E) (fun cls d _ H => E cls d H) := takes_of rfl rfl rfl rfl
  refine hb args R ph hlen cdv A outer s H E (fun cls d _ H => E cls d H) hr tk O fp _ H ?_ _ ?_
  · have := SS.padM (N.length - n)
    rw [show L2.start N vs = vs.map some ++ List.replicate (N.length - n) none from by unfold L2.start; rw [hl]]
    exact this
  · exact ⟨fun e fp' σ' H' h1 kp S' => h1.elim, fun r e fp' σ' v H' h1 kp S' ⟨L, hL, ow⟩ => hq r e fp' σ' v H' L h1 kp S' hL ow, fun x e fp' σ' cls d H' h1 kp S' xa => h1.elim, fun _ _ _ _ h => h.elim, fun _ _ _ _ h => h.elim⟩
end
/-- what one owns after a call that ate some of it and handed back x -/
theorem SOk.eaten {K : PySem.W.Frag} {O Oc : Addr → Prop} {fp fc fp' : Nat → List Addr} {env env' : Env'} {σ σ' : L2.St} {H H' : Hp} {as : List Arg} {β : Type} [Own β] (S : SOk K O fp env σ H) (ho : Once as) (hne : ∀ (l i : Nat), as[l]? ≠ some (Arg.slot i true))
    (hown : ∀ (l i : Nat) (b : Bool), as[l]? = some (.slot i b) → ∃ (β : Type) (_ : Own β) (x : β), env[i]? = some (.own x))
    (hfc : ∀ i a, a ∈ fc i → i < as.length ∧ ∃ (j k : Nat) (b : Bool), as[k]? = some (Arg.slot j b) ∧ a ∈ fp j) (hOc : ∀ a, (O a ∨ ∃ j, posOf as j = none ∧ a ∈ fp j) → Oc a) (kp : Keep fc H fp' H') (S' : SOk K Oc fp' env' σ' H')
    {i : Nat} {x : β} {v : V} {L : List Addr} (hL : ∀ a ∈ L, ∃ k, a ∈ fp' k) (ow : Own.own K (wo H' (UU Oc fp')) H' v L x) :
    ∃ f2, Keep fp H f2 H' ∧ SOk K O f2 ((upA env' 0 as env).set i (.own x)) (σ.set i (some v)) H' := by
  let f2 : Nat → List Addr := fun j => if j = i then L else if posOf as j = none then fp j else []
  have f2_i : f2 i = L := by simp only [f2, if_pos]
  have f2_n : ∀ j, j ≠ i → posOf as j = none → f2 j = fp j := fun j h q => by simp only [f2, if_neg h, if_pos q]
  have f2_s : ∀ j, j ≠ i → posOf as j ≠ none → f2 j = [] := fun j h q => by simp only [f2, if_neg h, if_neg q]
  have in2 : ∀ j a, a ∈ f2 j → (j = i ∧ a ∈ L) ∨ (j ≠ i ∧ posOf as j = none ∧ a ∈ fp j) := fun j a z => by
    by_cases h : j = i
    · subst h
      rw [f2_i] at z
      exact .inl ⟨rfl, z⟩
    · by_cases q : posOf as j = none
      · rw [f2_n j h q] at z; exact .inr ⟨h, q, z⟩
      · rw [f2_s j h q] at z; cases z
  have Lout : ∀ a ∈ L, ¬ Oc a := fun a ha => by
    obtain ⟨k, hk⟩ := hL a ha
    exact S'.fpO k a hk
  have KP : Keep fp H f2 H' := ⟨fun a o n q => kp.1 a o (fun ⟨k, z⟩ => by
    obtain ⟨_, j, _, _, _, y⟩ := hfc k a z
    exact n ⟨j, y⟩) q, fun j a z => by
    rcases in2 j a z with ⟨_, y⟩ | ⟨_, _, y⟩
    · obtain ⟨k, hk⟩ := hL a y
      rcases kp.2 k a hk with ⟨l, w⟩ | w
      · obtain ⟨_, j2, _, _, _, y2⟩ := hfc l a w
        exact .inl ⟨j2, y2⟩
      · exact .inr w
    · exact .inl ⟨j, y⟩⟩
  have sub : ∀ a, UU O f2 a → UU Oc fp' a := fun a z => by
    rcases z with z | ⟨j, z⟩
    · exact .inl (hOc a (.inl z))
    · rcases in2 j a z with ⟨_, y⟩ | ⟨_, q, y⟩
      · obtain ⟨k, hk⟩ := hL a y
        exact .inr ⟨k, hk⟩
      · exact .inl (hOc a (.inr ⟨j, q, y⟩))
  refine ⟨f2, KP, {
    len := by rw [List.length_set, List.length_set, upA_len]; exact S.len
    bnd := fun a z => S'.bnd a (hOc a (.inl z))
    fpO := fun j a z y => by
      rcases in2 j a z with ⟨_, w⟩ | ⟨_, _, w⟩
      · exact Lout a w (hOc a (.inl y))
      · exact S.fpO j a w y
    sep := fun j k a z y => by
      rcases in2 j a z with ⟨e1, w⟩ | ⟨e1, q1, w⟩ <;> rcases in2 k a y with ⟨e2, w2⟩ | ⟨e2, q2, w2⟩
      · rw [e1, e2]
      · exact absurd (hOc a (.inr ⟨k, q2, w2⟩)) (Lout a w)
      · exact absurd (hOc a (.inr ⟨j, q1, w⟩)) (Lout a w2)
      · exact S.sep j k a w w2
    dom := fun j a z => by
      rcases in2 j a z with ⟨_, w⟩ | ⟨_, q, w⟩
      · obtain ⟨k, hk⟩ := hL a w
        exact S'.dom k a hk
      · exact S'.bnd a (hOc a (.inr ⟨j, q, w⟩))
    sl := fun j s q => by
      by_cases e' : i = j
      · subst e'
        have hl : i < (upA env' 0 as env).length := by
          have := (List.getElem?_eq_some_iff.mp q).1
          simpa using this
        rw [List.getElem?_set_self hl] at q
        cases q
        refine ⟨v, by rw [List.getElem?_set_self (by rw [S.len, ← upA_len env' as 0 env]; exact hl)], ?_⟩
        rw [f2_i]
        exact Own.frame (wo_mono sub).le (fun _ _ => rfl) ow
      · rw [List.getElem?_set_ne e'] at q
        rw [List.getElem?_set_ne e']
        cases qp : posOf as j with
        | some l =>
          obtain ⟨b, hs⟩ := posOf_some qp
          cases b with
          | true => exact absurd hs (hne l j)
          | false =>
            obtain ⟨β', ib, y, hy⟩ := hown l j false hs
            rw [upA_at env' as 0 env l j false ho hs (List.getElem?_eq_some_iff.mp hy).1] at q
            have q : Sl.any = s := by injection q
            subst q
            exact trivial
        | none =>
          rw [upA_get env' as 0 env j (posOf_none qp)] at q
          have r := S.sl j s q
          rw [f2_n j (fun z => e' z.symm) qp]
          cases s with
          | any => exact trivial
          | dat x =>
            obtain ⟨u, y1, y2⟩ := r
            exact ⟨u, y1, Dat.mono KP.frz.le y2⟩
          | own x =>
            obtain ⟨u, y1, y2⟩ := r
            refine ⟨u, y1, Own.frame KP.frz.le (fun a z => ?_) y2⟩
            obtain ⟨o, w⟩ := S.dom j a z
            rw [w]
            exact kp.1 a o (fun ⟨l, y⟩ => by
              obtain ⟨_, j2, k2, b, q3, y3⟩ := hfc l a y
              have := S.sep j2 j a y3 z
              subst this
              exact posOf_none qp k2 b q3) w }⟩
theorem sx_asgMO {X : Cx} {W : WX} {env : Env'} {ρ : Type} [Res ρ] {po : Po ρ} {e : Expr} {es : List Expr} {pos p p2 p3 : Pos} {rest : List Stmt} {n nm : Str} {k m i : Nat} {ps : List Str} {ω : Type} [Own ω] {Φ : PhiM ω} {as : List Arg} (hN : X.N.Nodup) (d : DefOk X.prog X.w X.K X.mg X.base n k ps [] (spMO X.K m Φ)) (hr : Room k X.A) (ha : EAM X (e :: es) env as) (ho : Once as) (hown : ∀ (l i : Nat) (b : Bool), as[l]? = some (.slot i b) → ∃ (β : Type) (_ : Own β) (x : β), env[i]? = some (.own x)) (hl : as.length = m)
    (hne : ∀ (l i : Nat), as[l]? ≠ some (.slot i true))
    (h : ∀ vs : List V, vs.length = as.length → ∃ R, Φ (mkA env vs as) R ∧ ∀ r e', R r e' → SX X W rest ((upA e' 0 as env).set i (.own r)) po)
    (hi : X.N[i]? = some nm := by rfl) (hx : Loc X.env.scope nm := by first | exact Or.inl rfl | exact Or.inr rfl) (hf : X.fn nm = true ∨ X.env.scope.names.lookup nm = some .local := by first | exact .inl rfl | exact .inr rfl | assumption)
    (hg : Gl X n := by rfl) (hdb : (n == ("__debug__" : Str)) = false := by decide) (he : starEach (e :: es) X.env = (false, eval e X.env) :: starEach es X.env := by exact star_plain rfl _ _) (hpl : (backTo pos (starEach es X.env)).any (·.1) = false := by exact star_pl rfl) (hs : swapsWith (.Call (.Name n p) (e :: es) [] pos) (some (.Name nm p3)) p2.line X.env = pure false := by rfl) :
    SX X W (.Assign [.Name nm p3] (.Call (.Name n p) (e :: es) [] pos) p2 :: rest) env po := by
  obtain ⟨f, fd, ds, F, hm, hk, hb, hv⟩ := d.ex
  refine sx_cons (fun e2 => SX X W rest e2 po) (s1_of (ps_set hN hi hx (pe_call F hr hg hm hk hb hv passL (mA X _) hdb he hpl) hs hf) fun O fp σ H S D G => ha O fp σ H S _ fun vs H1 e1 r1 => ?_) fun _ h => h
  obtain ⟨R, hΦ, hR⟩ := h vs r1.len
  show spMO X.K m Φ (vs ++ []) H1 _ _
  rw [List.append_nil]
  obtain ⟨Oc, fc, SC, hfc, hOc, fin⟩ := callM_core (S.ex e1) r1 ho hown
  refine ⟨r1.len.trans hl, Oc, fc, mkA env vs as, R, hΦ, fun i a z => by rw [← hl]; exact (hfc i a z).1, SC, fun r env' fp' σ' v H' L hr' kp S' hL ow => ?_⟩
  obtain ⟨f2, k2, S2⟩ := (S.ex e1).eaten ho hne hown hfc hOc kp S' (i := i) hL ow
  exact G.nx _ f2 (σ.set i (some v)) H' (hR r env' hr') ((Keep.ex e1).trans k2) S2
/-! what is pinned -/
theorem sx_unpin {i : Nat} {v : V} {β : Type} [Own β] {x : β} (hi : env[i]? = some (.own (At.mk v x))) (h : SX X W sts (env.set i (.own x)) po) : SX X W sts env po := fun O fp σ H S => h O fp σ H (S.unpin hi)
theorem ex_unpin {i : Nat} {v : V} {β : Type} [Own β] {x : β} (hi : env[i]? = some (.own (At.mk v x))) (h : EX X e (env.set i (.own x)) z) : EX X e env z := fun O fp σ H S => h O fp σ H (S.unpin hi)
theorem et_unpin {i : Nat} {v : V} {β : Type} [Own β] {x : β} {k : Bool} (hi : env[i]? = some (.own (At.mk v x))) (h : ET X e (env.set i (.own x)) k) : ET X e env k := fun O fp σ H S => h O fp σ H (S.unpin hi)
theorem sx_appP {i : Nat} {v : V} {xs : List α} (ps : PS X st (tDrop (tBM X.K "list" rAppend (tVar i) (tCons (tE X e) tNil)))) (hi : env[i]? = some (.own (At.mk v (OL.mk xs)))) (he : EX X e env x) (hz : xs.length < 100000) (h : SX X W rest (env.set i (.own (At.mk v (OL.mk (xs ++ [x]))))) po) : SX X W (st :: rest) env po :=
  sx_step ps (fun O fp σ H S D k => by
    obtain ⟨w, w1, w2, ad, vs, h1, h2, h3, h4⟩ := S.sl i _ hi
    subst h1
    refine ⟨.ref ad, w1, .inl ⟨rfl, vs, .inl (.inl h3)⟩, he O fp σ H S _ fun u H1 e1 r1 => ?_⟩
    have h4' := h4.mono (wo_ex e1).le
    refine ⟨ad, vs, u, rfl, rfl, e1 ad _ h3, by rw [Paired.length h4]; exact Nat.lt_of_lt_of_le hz (by decide), k fp σ _ ((Keep.ex e1).trans (Keep.mut ⟨i, by rw [h2]; exact List.mem_singleton.mpr rfl⟩)) ?_⟩
    exact (S.ex e1).mut hi h2 fun v' hv' => by
      rw [w1] at hv'
      cases hv'
      exact ⟨w2, ad, vs ++ [u], rfl, rfl, upd_same, Paired.app h4' r1⟩) h
end
end R
set_option maxHeartbeats 1000000
set_option autoImplicit false
/-! what is an int or a text; in of lists; parts of tuples; sorted dicts; joined texts -/
namespace R
open PySem PySem.Spec PyProof.Rows L2
/-! ### an int or a text -/
instance : Dat Key := ⟨fun _ _ v k => v = kV k, fun _ h => h⟩
instance : NoMut Key := ⟨fun _ _ _ _ _ _ h => h⟩
theorem kV_eq (x y : Key) : decide (kV x = kV y) = decide (x = y) := by
  by_cases h : x = y
  · subst h; simp
  · rw [decide_eq_false h, decide_eq_false]
    intro z
    cases x <;> cases y
    · injection z with z; exact h (by rw [z])
    · cases z
    · cases z
    · injection z with z; exact h (by rw [z])
instance : Flat Key := ⟨fun K Hf Hf' v w x y h1 h2 => by
  have h1 : v = kV x := h1
  have h2 : w = kV y := h2
  subst h1 h2
  refine ⟨by cases x <;> cases y <;> rfl, kV_eq x y⟩⟩
theorem kV_flat (x : Key) : flatV (kV x) = true := by cases x <;> rfl
theorem eqV_key (x y : Key) : eqV (kV x) (kV y) = decide (x = y) := by
  cases x with
  | inl i => cases y with
    | inl j =>
      show (i == j) = _
      by_cases e : i = j
      · subst e; simp
      · rw [decide_eq_false fun z => e (Sum.inl.inj z)]; exact beq_false_of_ne e
    | inr j => rfl
  | inr i => cases y with
    | inl j => rfl
    | inr j =>
      show (i == j) = _
      by_cases e : i = j
      · subst e; simp
      · rw [decide_eq_false fun z => e (Sum.inr.inj z)]; exact beq_false_of_ne e
instance : DEq Key := ⟨0, fun x y => decide (x = y), fun {X pins σ H s v x y} I h h' => by
  have h : v = kV x := h
  have h' : v = kV y := h'
  rw [h] at h'
  rw [← kV_eq]; exact decide_eq_true h', fun {X pins σ H s A v w x y} I hu h h' => by
  cases (show v = kV x from h)
  cases (show w = kV y from h')
  have q := eqS_flat (X := X) (A := A) (s := s) (v := kV x) (w := kV y) (kV_flat x) (kV_flat y)
  rw [eqV_key] at q
  exact q⟩
def keyS : Key → Str
  | .inr s => s
  | .inl _ => Str.ofString ""
section
variable {X : Cx} {W : WX} {env env' : Env'} {ρ α β γ : Type} [Res ρ] [Dat α] [Dat β] [Dat γ] {po : Po ρ} {x : α} {y : β} {z : γ} {e a b c tg iter o : Expr} {es elts : List Expr} {pos p p2 pc p3 apos cpos : Pos} {rest body : List Stmt} {xs ys : List α} {st : Stmt}
theorem ex_keyI {i : Int} (h : EX X e env i) : EX X e env (Sum.inl i : Key) := fun O fp σ H S Q q => h O fp σ H S Q fun v H' e1 r => q v H' e1 r
theorem ex_keyS {s : Str} (h : EX X e env s) : EX X e env (Sum.inr s : Key) := fun O fp σ H S Q q => h O fp σ H S Q fun v H' e1 r => q v H' e1 r
theorem ex_ofKey {k : Key} (h : EX X e env k) (g : k.isRight = true) : EX X e env (keyS k) := fun O fp σ H S Q q => h O fp σ H S Q fun v H' e1 r => q v H' e1 (by
  have r : v = kV k := r
  cases k with
  | inl i => cases g
  | inr s => exact r)
theorem repL.keys {K : PySem.W.Frag} {H : Hp} : ∀ {vs : List V} {xs : List Str}, repL K H vs xs → repL K H vs (xs.map (Sum.inr : Str → Key))
  | _, _, .nil => .nil
  | _, _, .cons h t => .cons h (repL.keys t)
theorem ex_keysL {ss : List Str} (h : EX X e env ss) : EX X e env (ss.map (Sum.inr : Str → Key)) := fun O fp σ H S Q q => h O fp σ H S Q fun v H' e1 r => q v H' e1 (by
  obtain ⟨a, vs, h1, h2, h3⟩ := r
  exact ⟨a, vs, h1, h2, h3.keys⟩)
theorem ex_isiK {k : Key} (hi : X.mg "isinstance" = none) (hT : X.mg "str" = none) (h : EX X a env k) (hk1 : kitB "int" "str" = some false) (hk2 : kitB "str" "str" = some true) (hv : bootBuiltins "str" = some (.type "str")) (hg : Gl X "isinstance" := by rfl) (hgT : Gl X "str" := by rfl)
    (he : starEach [a, .Name "str" pc] X.env = (false, eval a X.env) :: starEach [.Name "str" pc] X.env := by exact star_plain rfl _ _) (he2 : starEach [.Name "str" pc] X.env = (false, eval (.Name "str" pc) X.env) :: starEach [] X.env := by exact star_plain rfl _ _) (hpl : (backTo pos (starEach [.Name "str" pc] X.env)).any (·.1) = false := by exact star_pl rfl) : EX X (.Call (.Name "isinstance" p) [a, .Name "str" pc] [] pos) env k.isRight :=
  ex_of (pe_callB call_isi hg hi (by decide +kernel) (pa_cons (mE X a) (pa_cons (pe_bltn (v := .ty "str") hgT hT hv rfl (by decide) (by decide)) pa_nil he2) he) (by decide) (by decide) he hpl) fun O fp σ H S Q q => h O fp σ H S _ fun v H1 e1 r1 => by
    have r1 : v = kV k := r1
    subst r1
    cases k with
    | inl i => exact ⟨_, .ty "str", .type "int", .type "str", false, rfl, .ty "str", .base (.int i), kit_ty hk1, q _ H1 e1 rfl⟩
    | inr i => exact ⟨_, .ty "str", .type "str", .type "str", true, rfl, .ty "str", .base (.str i), kit_ty hk2, q _ H1 e1 rfl⟩
/-! ### in of lists -/
theorem inV_strs (x : Str) (xs : List Str) : inV (.str x) (xs.map V.str) = xs.any fun y => decide (y = x) := by
  unfold inV
  rw [List.any_map]
  congr 1
theorem ex_inS {s : Str} {ss : List Str} (h : EX X a env s) (ho : EX X o env ss) (hm : behindInMarks .In o = false := by rfl) : EX X (.Compare a [.In] [o] pos) env (ss.any fun y => decide (y = s)) :=
  ex_cmp op_in_seq h ho (fun U v1 v2 H _ r1 r2 Q q => by
    obtain ⟨ad, vs, h1, h2, h3⟩ := r2
    have := h3.strs
    subst this
    have r1 : v1 = .str s := r1
    subst r1
    refine ⟨ad, _, h1, .inl (wo_le.lst h2), rfl, ?_, q _ H (Ex.refl H) ?_⟩
    · rw [List.all_map]
      exact List.all_eq_true.mpr fun _ _ => rfl
    · show V.bl _ = V.bl _
      rw [if_neg (by decide), inV_strs]) hm
theorem ex_notinS {s : Str} {ss : List Str} (h : EX X a env s) (ho : EX X o env ss) (hm : behindInMarks .NotIn o = false := by rfl) : EX X (.Compare a [.NotIn] [o] pos) env (!(ss.any fun y => decide (y = s))) :=
  ex_cmp op_notIn_seq h ho (fun U v1 v2 H _ r1 r2 Q q => by
    obtain ⟨ad, vs, h1, h2, h3⟩ := r2
    have := h3.strs
    subst this
    have r1 : v1 = .str s := r1
    subst r1
    refine ⟨ad, _, h1, .inl (wo_le.lst h2), rfl, ?_, q _ H (Ex.refl H) ?_⟩
    · rw [List.all_map]
      exact List.all_eq_true.mpr fun _ _ => rfl
    · show V.bl _ = V.bl _
      rw [if_pos rfl, inV_strs]) hm
/-! ### texts in order -/
def ltS (x y : Str) : Bool := decide (x.cps.toList < y.cps.toList)
theorem ex_ltS {s t : Str} (ha : EX X a env s) (hb : EX X b env t) : EX X (.Compare a [.Lt] [b] pos) env (ltS s t) := ex_cmp op_lt_str ha hb (fun U v1 v2 H _ r1 r2 Q q => ⟨s, t, r1, r2, q _ H (Ex.refl H) rfl⟩) (nomark _)
theorem ex_gtS {s t : Str} (ha : EX X a env s) (hb : EX X b env t) : EX X (.Compare a [.Gt] [b] pos) env (ltS t s) := ex_cmp op_gt_str ha hb (fun U v1 v2 H _ r1 r2 Q q => ⟨s, t, r1, r2, q _ H (Ex.refl H) rfl⟩) (nomark _)
/-! ### ''.join -/
theorem ex_join {s : Str} {ss : List Str} (ho : EX X o env s) (h : EX X e env ss) (g : (ss.map (·.length)).sum + ss.length * s.length ≤ 16777216) (hs : starEach [e] X.env = [(false, eval e X.env)] := by exact star_plain rfl _ _) (hbase : attributeBase o "join" X.env (eval o X.env) = eval o X.env := by rfl) (hline : (apos.endLine == pos.line) = true := by rfl) :
    EX X (.Call (.Attribute o "join" apos) [e] [] pos) env (Txt.join s ss) := ex_of (pe_join (mE X o) (mE X e) hs hbase hline) fun O fp σ H S Q q => ho O fp σ H S _ fun v H1 e1 r1 => ⟨⟨s, r1⟩, h O fp σ H1 (S.ex e1) _ fun u H2 e2 r2 => by
  obtain ⟨ad, vs, h1, h2, h3⟩ := r2
  have := h3.strs
  subst this
  exact ⟨s, ad, ss, r1, by rw [h1], .inl (wo_le.lst h2), g, q _ H2 (e1.trans e2) rfl⟩⟩
/-! ### sorted texts -/
def leS (x y : Str) : Bool := !ltS y x
def sortS (xs : List Str) : List Str := xs.mergeSort leS
end
end R
set_option maxHeartbeats 1000000
set_option autoImplicit false
/-! one's own read where the answer holds no lists (or no dicts); comprehensions over one's own; small dicts -/
namespace R
open PySem PySem.Spec PyProof.Rows L2
/-- data that holds no list -/
class NoL (α : Type) [Dat α] : Prop where
  cut : ∀ (K : PySem.W.Frag) (Hf Hf' : Hp) (v : V) (x : α), (∀ a ob, Pl ob → (∀ xs, ob ≠ .lst xs) → Rd Hf a ob → Rd Hf' a ob) → Dat.rep K Hf v x → Dat.rep K Hf' v x
/-- data that holds no dict -/
class NoD (α : Type) [Dat α] : Prop where
  cut : ∀ (K : PySem.W.Frag) (Hf Hf' : Hp) (v : V) (x : α), (∀ a ob, Pl ob → (∀ xs, ob ≠ .dK xs) → Rd Hf a ob → Rd Hf' a ob) → Dat.rep K Hf v x → Dat.rep K Hf' v x
theorem NoMut.noL {α : Type} [Dat α] [NoMut α] : NoL α := ⟨fun K Hf Hf' v x h r => NoMut.cut K Hf Hf' v x (fun a xs t => h a _ trivial (fun _ z => by cases z) t) r⟩
theorem NoMut.noD {α : Type} [Dat α] [NoMut α] : NoD α := ⟨fun K Hf Hf' v x h r => NoMut.cut K Hf Hf' v x (fun a xs t => h a _ trivial (fun _ z => by cases z) t) r⟩
instance : NoL Int := NoMut.noL
instance : NoL Bool := NoMut.noL
instance : NoL Str := NoMut.noL
instance : NoL Unit := NoMut.noL
instance : NoL Rat := NoMut.noL
instance : NoL Key := NoMut.noL
instance : NoD Int := NoMut.noD
instance : NoD Bool := NoMut.noD
instance : NoD Str := NoMut.noD
instance : NoD Unit := NoMut.noD
instance : NoD Rat := NoMut.noD
instance : NoD Key := NoMut.noD
/-- the parts of a tuple, cut -/
inductive NoLs : List Sl → Prop
  | nil : NoLs []
  | cons {α : Type} [Dat α] [NoL α] {x : α} {r : List Sl} : NoLs r → NoLs (.dat x :: r)
inductive NoDs : List Sl → Prop
  | nil : NoDs []
  | cons {α : Type} [Dat α] [NoD α] {x : α} {r : List Sl} : NoDs r → NoDs (.dat x :: r)
theorem ARep.cutL {K : PySem.W.Frag} {Hf Hf' : Hp} (h : ∀ a ob, Pl ob → (∀ xs, ob ≠ .lst xs) → Rd Hf a ob → Rd Hf' a ob) : ∀ {vs : List V} {cs : List Sl}, NoLs cs → ARep K Hf vs cs → ARep K Hf' vs cs := fun {vs cs} n => by
  induction n generalizing vs with
  | nil => intro r; cases vs with | nil => exact trivial | cons _ _ => simp [ARep] at r
  | cons n ih =>
    intro r
    cases vs with
    | nil => simp [ARep] at r
    | cons v vs => exact ⟨NoL.cut K Hf Hf' _ _ h r.1, ih r.2⟩
theorem ARep.cutD {K : PySem.W.Frag} {Hf Hf' : Hp} (h : ∀ a ob, Pl ob → (∀ xs, ob ≠ .dK xs) → Rd Hf a ob → Rd Hf' a ob) : ∀ {vs : List V} {cs : List Sl}, NoDs cs → ARep K Hf vs cs → ARep K Hf' vs cs := fun {vs cs} n => by
  induction n generalizing vs with
  | nil => intro r; cases vs with | nil => exact trivial | cons _ _ => simp [ARep] at r
  | cons n ih =>
    intro r
    cases vs with
    | nil => simp [ARep] at r
    | cons v vs => exact ⟨NoD.cut K Hf Hf' _ _ h r.1, ih r.2⟩
theorem repT.cutL {K : PySem.W.Frag} {Hf Hf' : Hp} {v : V} {cs : List Sl} (h : ∀ a ob, Pl ob → (∀ xs, ob ≠ .lst xs) → Rd Hf a ob → Rd Hf' a ob) (n : NoLs cs) (r : repT K Hf v cs) : repT K Hf' v cs := by
  obtain ⟨a, vs, e, t, ar⟩ := r
  exact ⟨a, vs, e, cut_tup (fun a xs t => h a _ trivial (fun _ z => by cases z) t) t, ar.cutL h n⟩
theorem repT.cutD {K : PySem.W.Frag} {Hf Hf' : Hp} {v : V} {cs : List Sl} (h : ∀ a ob, Pl ob → (∀ xs, ob ≠ .dK xs) → Rd Hf a ob → Rd Hf' a ob) (n : NoDs cs) (r : repT K Hf v cs) : repT K Hf' v cs := by
  obtain ⟨a, vs, e, t, ar⟩ := r
  exact ⟨a, vs, e, cut_tup (fun a xs t => h a _ trivial (fun _ z => by cases z) t) t, ar.cutD h n⟩
section
variable {α β γ δ ε : Type} [Dat α] [Dat β] [Dat γ] [Dat δ] [Dat ε]
instance [NoL α] [NoL β] : NoL (α × β) := ⟨fun K Hf Hf' v x h r => repT.cutL h (.cons (.cons .nil)) r⟩
instance [NoL α] [NoL β] [NoL γ] : NoL (T3 α β γ) := ⟨fun K Hf Hf' v x h r => repT.cutL h (.cons (.cons (.cons .nil))) r⟩
instance [NoL α] [NoL β] [NoL γ] [NoL δ] : NoL (T4 α β γ δ) := ⟨fun K Hf Hf' v x h r => repT.cutL h (.cons (.cons (.cons (.cons .nil)))) r⟩
instance [NoL α] [NoL β] [NoL γ] [NoL δ] [NoL ε] : NoL (T5 α β γ δ ε) := ⟨fun K Hf Hf' v x h r => repT.cutL h (.cons (.cons (.cons (.cons (.cons .nil))))) r⟩
instance [NoD α] [NoD β] : NoD (α × β) := ⟨fun K Hf Hf' v x h r => repT.cutD h (.cons (.cons .nil)) r⟩
instance [NoD α] [NoD β] [NoD γ] : NoD (T3 α β γ) := ⟨fun K Hf Hf' v x h r => repT.cutD h (.cons (.cons (.cons .nil))) r⟩
instance [NoD α] [NoD β] [NoD γ] [NoD δ] : NoD (T4 α β γ δ) := ⟨fun K Hf Hf' v x h r => repT.cutD h (.cons (.cons (.cons (.cons .nil)))) r⟩
instance [NoD α] [NoD β] [NoD γ] [NoD δ] [NoD ε] : NoD (T5 α β γ δ ε) := ⟨fun K Hf Hf' v x h r => repT.cutD h (.cons (.cons (.cons (.cons (.cons .nil))))) r⟩
instance [NoL α] : NoL (Dc α) := ⟨fun K Hf Hf' v x h r => by
  obtain ⟨a, ws, e, t, ar⟩ := r
  exact ⟨a, ws, e, h a _ trivial (fun _ z => by cases z) t, Paired.imp ar fun _ _ q => ⟨q.1, NoL.cut K Hf Hf' _ _ h q.2⟩⟩⟩
theorem SqL.cutD {K : PySem.W.Frag} {Hf Hf' : Hp} {a : Addr} {vs : List V} (h : ∀ a ob, Pl ob → (∀ xs, ob ≠ .dK xs) → Rd Hf a ob → Rd Hf' a ob) (t : SqL K Hf a vs) : SqL K Hf' a vs := by
  rcases t with t | t
  · exact .inl (h a _ trivial (fun _ z => by cases z) t)
  · exact .inr t
instance [NoD α] : NoD (List α) := ⟨fun K Hf Hf' v x h r => by
  obtain ⟨a, ws, e, t, ar⟩ := r
  exact ⟨a, ws, e, SqL.cutD h t, Paired.imp ar fun _ _ q => NoD.cut K Hf Hf' _ _ h q⟩⟩
theorem opt_none {K : PySem.W.Frag} {H H' : Hp} {v : V} (h : Dat.rep K H v (none : Option α)) : Dat.rep K H' v (none : Option α) := h
instance [NoL α] : NoL (Option α) := ⟨fun K Hf Hf' v x h r => by
  cases x with
  | none => exact opt_none r
  | some y => exact NoL.cut K Hf Hf' v y h r⟩
instance [NoD α] : NoD (Option α) := ⟨fun K Hf Hf' v x h r => by
  cases x with
  | none => exact opt_none r
  | some y => exact NoD.cut K Hf Hf' v y h r⟩
end
/-- one's own whose parts are so -/
class OwnNL (β : Type) [Own β] : Prop where
  cut : ∀ (K : PySem.W.Frag) (Hf Hf' H : Hp) (v : V) (L : List Addr) (x : β), (∀ a ob, Pl ob → (∀ xs, ob ≠ .lst xs) → Rd Hf a ob → Rd Hf' a ob) → Own.own K Hf H v L x → Own.own K Hf' H v L x
class OwnND (β : Type) [Own β] : Prop where
  cut : ∀ (K : PySem.W.Frag) (Hf Hf' H : Hp) (v : V) (L : List Addr) (x : β), (∀ a ob, Pl ob → (∀ xs, ob ≠ .dK xs) → Rd Hf a ob → Rd Hf' a ob) → Own.own K Hf H v L x → Own.own K Hf' H v L x
instance {α : Type} [Dat α] [NoL α] : OwnNL (OL α) := ⟨fun K Hf Hf' H v L x h ⟨a, vs, h1, h2, h3, h4⟩ => ⟨a, vs, h1, h2, h3, Paired.imp h4 fun _ _ q => NoL.cut K Hf Hf' _ _ h q⟩⟩
instance {α : Type} [Dat α] [NoL α] : OwnNL (OD α) := ⟨fun K Hf Hf' H v L x h ⟨a, vs, h1, h2, h3, h4⟩ => ⟨a, vs, h1, h2, h3, Paired.imp h4 fun _ _ q => ⟨q.1, NoL.cut K Hf Hf' _ _ h q.2⟩⟩⟩
instance {α : Type} [Dat α] [NoD α] : OwnND (OL α) := ⟨fun K Hf Hf' H v L x h ⟨a, vs, h1, h2, h3, h4⟩ => ⟨a, vs, h1, h2, h3, Paired.imp h4 fun _ _ q => NoD.cut K Hf Hf' _ _ h q⟩⟩
instance {α : Type} [Dat α] [NoD α] : OwnND (OD α) := ⟨fun K Hf Hf' H v L x h ⟨a, vs, h1, h2, h3, h4⟩ => ⟨a, vs, h1, h2, h3, Paired.imp h4 fun _ _ q => ⟨q.1, NoD.cut K Hf Hf' _ _ h q.2⟩⟩⟩
theorem cut_at {O : Addr → Prop} {fp : Nat → List Addr} {H' Hf : Hp} {i : Nat} {ad : Addr} {ob0 : HO} {L : List Addr} (hL : fp i = [ad]) (hl : H' ad = some ob0) (le : Le (wo H' (fun a => UU O fp a ∨ a ∈ L)) Hf) (b : Addr) (ob : HO) (pl : Pl ob) (ne : ob ≠ ob0) (ne' : ∀ o, ob0 ≠ .frz o ob) (t : Rd (wo H' (fun a => UU O (setF fp i []) a ∨ a ∈ L)) b ob) : Rd Hf b ob := by
  have nb : b ≠ ad := fun z => by
    subst z
    rcases t with t | ⟨o, t⟩
    · have := (wo_some t).2; rw [hl] at this; exact ne (Option.some.inj this).symm
    · have := (wo_some t).2; rw [hl] at this; exact ne' o (Option.some.inj this)
  refine le b _ pl ?_
  have nu : ¬ (UU O (setF fp i []) b ∨ b ∈ L) := by rcases t with t | ⟨o, t⟩ <;> exact (wo_some t).1
  have nu2 : ¬ (UU O fp b ∨ b ∈ L) := fun z => by
    rcases z with (z | ⟨j, z⟩) | z
    · exact nu (.inl (.inl z))
    · by_cases ej : j = i
      · subst ej
        rw [hL] at z
        exact nb (List.mem_singleton.mp z)
      · exact nu (.inl (.inr ⟨j, by unfold setF; rw [if_neg ej]; exact z⟩))
    · exact nu (.inr z)
  rcases t with t | ⟨o, t⟩
  · exact .inl (by rw [wo_out nu2]; exact (wo_some t).2)
  · exact .inr ⟨o, by rw [wo_out nu2]; exact (wo_some t).2⟩
theorem or_nil {U : Addr → Prop} : (fun a => U a ∨ a ∈ ([] : List Addr)) = U := by
  funext a
  apply propext
  constructor
  · rintro (z | z)
    · exact z
    · cases z
  · exact .inl
/-- the greatest reading of what makes something of one's own -/
def LE {β : Type} [Own β] (X : Cx) (t : TE) (env : Env') (x : β) : Prop :=
  ∀ O fp σ H, SOk X.K O fp env σ H → ∀ Q : VK, (∀ v L H', Ex H H' → (∀ a ∈ L, H a = none) → (∀ a ∈ L, ∃ o, H' a = some o) → (∀ Hf, Le (wo H' (fun a => UU O fp a ∨ a ∈ L)) Hf → Own.own X.K Hf H' v L x) → Q v H') → t σ H Q
section
variable {X : Cx} {W : WX} {env env' env0 : Env'} {ρ α β γ : Type} [Res ρ] [Dat α] [Dat β] [Dat γ] {po : Po ρ} {x : α} {y : β} {z : γ} {e a b c tg iter o : Expr} {es elts : List Expr} {pos p p2 pc p3 apos cpos : Pos} {rest body : List Stmt} {xs ys : List α} {st : Stmt} {t : TE}
theorem le_thawL {ω : Type} [Own ω] [OwnNL ω] {r : ω} {i : Nat} (hi : env[i]? = some (.own (OL.mk xs))) (h : LE X t (env.set i (.dat xs)) r) : LE X t env r := fun O fp σ H S Q q => h O (setF fp i []) σ H (S.frz hi fun v Hf r q => own_frzL r q) Q fun v L H' e1 hL hd ow => q v L H' e1 hL hd fun Hf le => by
  obtain ⟨ad, vs, h1, h2, h3, h4⟩ := S.ol hi
  exact OwnNL.cut X.K _ _ H' v L r (fun b ob pl ne q => cut_at h2 (e1 ad _ h3) le b ob pl (ne _) (fun _ z => by cases z) q) (ow _ (Le.refl _))
theorem le_thawD {ω : Type} [Own ω] [OwnND ω] {r : ω} {i : Nat} {d : Dc α} (hi : env[i]? = some (.own (OD.mk d))) (h : LE X t (env.set i (.dat d)) r) : LE X t env r := fun O fp σ H S Q q => h O (setF fp i []) σ H (S.frz hi fun v Hf r q => own_frzD r q) Q fun v L H' e1 hL hd ow => q v L H' e1 hL hd fun Hf le => by
  obtain ⟨ad, vs, h1, h2, h3, h4⟩ := S.od hi
  exact OwnND.cut X.K _ _ H' v L r (fun b ob pl ne q => cut_at h2 (e1 ad _ h3) le b ob pl (ne _) (fun _ z => by cases z) q) (ow _ (Le.refl _))
theorem le_unpin {ω : Type} [Own ω] {r : ω} {i : Nat} {v : V} {β' : Type} [Own β'] {x : β'} (hi : env[i]? = some (.own (At.mk v x))) (h : LE X t (env.set i (.own x)) r) : LE X t env r := fun O fp σ H S => h O fp σ H (S.unpin hi)
theorem en_thawLL {ω : Type} [Own ω] [OwnNL ω] {r : ω} {i : Nat} (hi : env[i]? = some (.own (OL.mk xs))) (h : EN X e (env.set i (.dat xs)) r) : EN X e env r := le_thawL hi h
theorem en_thawDD {ω : Type} [Own ω] [OwnND ω] {r : ω} {i : Nat} {d : Dc α} (hi : env[i]? = some (.own (OD.mk d))) (h : EN X e (env.set i (.dat d)) r) : EN X e env r := le_thawD hi h
theorem en_unpin {ω : Type} [Own ω] {r : ω} {i : Nat} {v : V} {β' : Type} [Own β'] {x : β'} (hi : env[i]? = some (.own (At.mk v x))) (h : EN X e (env.set i (.own x)) r) : EN X e env r := le_unpin hi h
theorem ex_thawLL [NoL γ] {i : Nat} (hi : env[i]? = some (.own (OL.mk xs))) (h : EX X e (env.set i (.dat xs)) z) : EX X e env z := fun O fp σ H S Q q => h O (setF fp i []) σ H (S.frz hi fun v Hf r q => own_frzL r q) Q fun v H' e1 r => q v H' e1 (by
  obtain ⟨ad, vs, h1, h2, h3, h4⟩ := S.ol hi
  refine NoL.cut X.K _ _ v z (fun b ob pl ne q => cut_at (O := O) (L := []) h2 (e1 ad _ h3) ?_ b ob pl (ne _) (fun _ z => by cases z) ?_) r
  · rw [or_nil]; exact Le.refl _
  · rw [or_nil]; exact q)
theorem ex_thawDD [NoD γ] {i : Nat} {d : Dc α} (hi : env[i]? = some (.own (OD.mk d))) (h : EX X e (env.set i (.dat d)) z) : EX X e env z := fun O fp σ H S Q q => h O (setF fp i []) σ H (S.frz hi fun v Hf r q => own_frzD r q) Q fun v H' e1 r => q v H' e1 (by
  obtain ⟨ad, vs, h1, h2, h3, h4⟩ := S.od hi
  refine NoD.cut X.K _ _ v z (fun b ob pl ne q => cut_at (O := O) (L := []) h2 (e1 ad _ h3) ?_ b ob pl (ne _) (fun _ z => by cases z) ?_) r
  · rw [or_nil]; exact Le.refl _
  · rw [or_nil]; exact q)
/-- y = [..], one's own being read -/
theorem sx_newLcT {i : Nat} {y : Str} {scope : Scope} {ifs : List Expr} {own : List (Str × Nat)} {tt : TT} {g : TG} (T : ∀ (t : TE) (zs : List β), LE X t env0 (OL.mk zs) → LE X t env (OL.mk zs)) (mk : α → Env') (f : α → β) (t : α → Bool) (hc : X.calm = true) (hN : X.N.Nodup) (ok : BlkOk X.N X.env.scope scope own) (hi : IX X tg iter env0 xs) (hz : xs.length ≤ 100000) (hg : TgOk α X g (own.map (·.2)) (wipeE env0 (own.map (·.2))) mk) (hww : ∀ σ : L2.St, L2.wipe (L2.wipe σ (own.map (·.2))) (own.map (·.2)) = L2.wipe σ (own.map (·.2)))
    (pg : ∀ (s : Shared) (H : Hp) (C : Addr) (cl : List (Str × Addr)) (fp : List Addr), PG (X.blk s H scope (compEnvC scope cl C X.env) fp) tg g) (pt : ∀ (s : Shared) (H : Hp) (C : Addr) (cl : List (Str × Addr)) (fp : List Addr), PTs (X.blk s H scope (compEnvC scope cl C X.env) fp) ifs tt)
    (ht : ∀ x ∈ xs, EvT X.K tt (mk x) (t x)) (he : ∀ x ∈ xs, t x = true → Blk X scope fun Y => EX Y e (mk x) (f x)) (hr : SX X W rest (env.set i (.own (OL.mk ((xs.filter t).map f)))) po)
    (hy : X.N[i]? = some y) (hyl : X.env.scope.names.lookup y = some .local) (hsw : swapsWith (.ListComp e [⟨tg, iter, ifs, 0⟩] scope pos) (some (.Name y p2)) p3.line X.env = pure true) (hs : ∀ x, foldedSetIterable iter X.env x = pure x := by intro _; rfl) : SX X W (.Assign [.Name y p2] (.ListComp e [⟨tg, iter, ifs, 0⟩] scope pos) p3 :: rest) env po :=
  sx_step (ps_setLc hc hN hy hyl hsw (mI X tg iter) ok pg pt (fun s H C cl fp => mEb s H C cl fp) hs) (fun O fp σ H S D q => T _ _ (lc_ev mk f t hi hz hg hww ht (fun x hx h => ev_b (he x hx h))) O fp σ H S _ fun v L H1 e1 hL hd r1 => q (setF fp i L) _ H1 (Keep.new e1 hL) (S.new e1 hL hd r1)) hr
/-- {k: v} -/
theorem en_dict1 {s : Str} (hk : EX X a env s) (hv : EX X b env x) : EN X (.Dict [some a] [b] pos) env (OD.mk ⟨[(s, x)]⟩) := fun O fp σ H S Q q => tE_of fun pins s0 I => by
  refine (pe_disp (pps_cons (mE X a) (mE X b) pps_nil) rfl rfl (fun z => by cases z) (Nat.le_of_ble_eq_true rfl)).run pins s0 σ H Q I fun u hu => ?_
  have S1 := S.hide (o := .dK []) hu
  have nu : ¬ UU O fp u := S.fresh hu
  refine hk _ fp σ _ S1 _ fun v1 H1 e1 r1 => hv _ fp σ H1 (S1.ex e1) _ fun v2 H2 e2 r2 => ?_
  have r1 : v1 = .str s := r1
  subst r1
  have e12 := e1.trans e2
  have h2 : H2 u = some (.dK []) := e12 u _ upd_same
  have e3 : Ex H (upd H2 u (.dK [(.inr s, v2)])) := fun c ob hc => by
    have nc := ne_of_none hc hu
    rw [upd_ne nc]
    exact e12 c ob (by rw [upd_ne nc]; exact hc)
  refine ⟨h2, [(.inr s, v2)], rfl, by simp, ?_⟩
  show Q (.ref u) (upd H2 u (.dK [(.inr s, v2)]))
  refine q (.ref u) [u] _ e3 (fun c hc => by rw [List.mem_singleton.mp hc]; exact hu) (fun c hc => by rw [List.mem_singleton.mp hc]; exact ⟨_, upd_same⟩) fun Hf le => ⟨u, _, rfl, rfl, upd_same, .cons ⟨rfl, ?_⟩ .nil⟩
  refine Dat.mono (Le.trans (Ex.le fun c ob hc => ?_) le) r2
  obtain ⟨n, hc⟩ := wo_some hc
  have nc : c ≠ u := fun z => n (.inl (.inr z))
  have n2 : ¬ (UU O fp c ∨ c ∈ [u]) := fun z => by
    rcases z with (z | z) | z
    · exact n (.inl (.inl z))
    · exact n (.inr z)
    · exact nc (List.mem_singleton.mp z)
  rw [wo_out n2, upd_ne nc]
  exact hc
/-! what a call with one's own asks, piece by piece -/
def slotsOf : List Arg → List Nat
  | [] => []
  | .dat _ :: as => slotsOf as
  | .slot i _ :: as => i :: slotsOf as
theorem slots_mem : ∀ {as : List Arg} {k i : Nat} {b : Bool}, as[k]? = some (.slot i b) → i ∈ slotsOf as
  | .dat _ :: as, 0, i, b, h => by simp at h
  | .dat _ :: as, k + 1, i, b, h => slots_mem (as := as) (by simpa using h)
  | .slot j c :: as, 0, i, b, h => by
    have : j = i ∧ c = b := by simpa using h
    rw [this.1]
    exact List.mem_cons_self
  | .slot j c :: as, k + 1, i, b, h => List.mem_cons_of_mem _ (slots_mem (as := as) (by simpa using h))
  | [], k, i, b, h => by simp at h
theorem once_nd : ∀ {as : List Arg}, (slotsOf as).Nodup → Once as
  | [], _, k, l, i, b, c, h, _ => by simp at h
  | .dat _ :: as, n, k, l, i, b, c, h, g => by
    cases k with
    | zero => simp at h
    | succ k => cases l with
      | zero => simp at g
      | succ l => rw [once_nd (as := as) n k l i b c (by simpa using h) (by simpa using g)]
  | .slot j d :: as, n, k, l, i, b, c, h, g => by
    have n := List.nodup_cons.mp n
    cases k with
    | zero =>
      have e : j = i ∧ d = b := by simpa using h
      cases l with
      | zero => rfl
      | succ l => exact absurd (by rw [e.1]; exact slots_mem (as := as) (k := l) (b := c) (by simpa using g)) n.1
    | succ k => cases l with
      | zero =>
        have e : j = i ∧ d = c := by simpa using g
        exact absurd (by rw [e.1]; exact slots_mem (as := as) (k := k) (b := b) (by simpa using h)) n.1
      | succ l => rw [once_nd (as := as) n.2 k l i b c (by simpa using h) (by simpa using g)]
theorem once_of {as : List Arg} {ns : List Nat} (h : slotsOf as = ns) (n : ns.Nodup) : Once as := once_nd (h ▸ n)
def OwnsR (env : Env') : List Arg → Prop
  | [] => True
  | .dat _ :: as => OwnsR env as
  | .slot i _ :: as => (∃ (β : Type) (_ : Own β) (x : β), env[i]? = some (.own x)) ∧ OwnsR env as
theorem owns_of {env : Env'} : ∀ {as : List Arg}, OwnsR env as → ∀ (l i : Nat) (b : Bool), as[l]? = some (.slot i b) → ∃ (β : Type) (_ : Own β) (x : β), env[i]? = some (.own x)
  | [], _, l, i, b, h => by simp at h
  | .dat _ :: as, o, 0, i, b, h => by simp at h
  | .dat _ :: as, o, l + 1, i, b, h => owns_of (as := as) o l i b (by simpa using h)
  | .slot j c :: as, o, 0, i, b, h => by
    have e : j = i ∧ c = b := by simpa using h
    rw [← e.1]
    exact o.1
  | .slot j c :: as, o, l + 1, i, b, h => owns_of (as := as) o.2 l i b (by simpa using h)
def PinsR (e' : Env') : Nat → List V → List Arg → Prop
  | _, _, [] => True
  | _, [], _ => True
  | k, v :: vs, .slot _ true :: as => isPin v (e'.getD k .any) ∧ PinsR e' (k + 1) vs as
  | k, _ :: vs, .slot _ false :: as => PinsR e' (k + 1) vs as
  | k, _ :: vs, .dat _ :: as => PinsR e' (k + 1) vs as
theorem pinsR_get {e' : Env'} : ∀ {vs : List V} {as : List Arg} {k : Nat}, PinsR e' k vs as → ∀ (l i : Nat) (v : V), as[l]? = some (.slot i true) → vs[l]? = some v → isPin v (e'.getD (k + l) .any)
  | _, [], _, _, l, i, v, h, _ => by simp at h
  | [], _ :: _, _, _, l, i, v, _, g => by simp at g
  | w :: vs, .slot j true :: as, k, r, 0, i, v, h, g => by
    have e : w = v := by simpa using g
    rw [← e]
    exact r.1
  | w :: vs, .slot j true :: as, k, r, l + 1, i, v, h, g => by
    have := pinsR_get (as := as) r.2 l i v (by simpa using h) (by simpa using g)
    rw [show k + 1 + l = k + (l + 1) by omega] at this
    exact this
  | w :: vs, .slot j false :: as, k, r, 0, i, v, h, g => by simp at h
  | w :: vs, .slot j false :: as, k, r, l + 1, i, v, h, g => by
    have := pinsR_get (as := as) r l i v (by simpa using h) (by simpa using g)
    rw [show k + 1 + l = k + (l + 1) by omega] at this
    exact this
  | w :: vs, .dat _ :: as, k, r, 0, i, v, h, g => by simp at h
  | w :: vs, .dat _ :: as, k, r, l + 1, i, v, h, g => by
    have := pinsR_get (as := as) r l i v (by simpa using h) (by simpa using g)
    rw [show k + 1 + l = k + (l + 1) by omega] at this
    exact this
theorem pins_of {vs : List V} {as : List Arg} {e' : Env'} (h : PinsR e' 0 vs as) : Pins vs as e' := fun l i v h1 h2 => by
  have := pinsR_get h l i v h1 h2
  rw [Nat.zero_add] at this
  exact this
end
end R
set_option maxHeartbeats 1000000
set_option autoImplicit false
/-! what the text's top holds -/
namespace R
open PySem PySem.Spec PyProof.Rows L2
/-- a name of the text that holds data -/
structure GC {α : Type} [Dat α] (K : PySem.W.Frag) (mg : Str → Option Value) (n : Str) (x : α) : Prop where
  ex : ∃ v u, mg n = some u ∧ RelV v u ∧ ∀ Hf, Dat.rep K Hf v x
instance : Inhabited Key := ⟨Sum.inl 0⟩
structure TpS where
  l : List Str
structure TpI where
  l : List Int
instance : Dat TpS := ⟨fun K H v x => ∃ a vs, v = .ref a ∧ SqT K H a vs ∧ repL K H vs x.l, fun e ⟨a, vs, h, t, r⟩ => ⟨a, vs, h, e.tup t, r.mono e⟩⟩
instance : Dat TpI := ⟨fun K H v x => ∃ a vs, v = .ref a ∧ SqT K H a vs ∧ repL K H vs x.l, fun e ⟨a, vs, h, t, r⟩ => ⟨a, vs, h, e.tup t, r.mono e⟩⟩
section
variable {K : PySem.W.Frag} {mg : Str → Option Value} {n : Str}
theorem gc_int {i : Int} {t : Tok} (h : mg n = some (.int i t)) : GC K mg n i := ⟨.int i, _, h, ⟨t, rfl⟩, fun _ => rfl⟩
theorem gc_str {i : Str} {t : Tok} (h : mg n = some (.str i t)) : GC K mg n i := ⟨.str i, _, h, ⟨t, rfl⟩, fun _ => rfl⟩
theorem gc_rat {q : Rat} {a : Addr} {i j : Int} {t u : Tok} {d : Option Addr} {z : Nat} {sl : Array (Option Value)} (h : mg n = some (.ref a)) (l : K.lookup a = some ⟨.type "tuple", d, .seq #[.int i t, .int j u] z, sl⟩) (h1 : q.num = i) (h2 : (q.den : Int) = j) : GC K mg n q :=
  ⟨.ref a, _, h, rfl, fun Hf => ⟨a, [.int i, .int j], rfl, .inr ⟨_, _, _, l, rfl, rfl, (by decide : 2 ≤ sizeLine), .cons ⟨_, rfl⟩ (.cons ⟨_, rfl⟩ .nil)⟩, by rw [h1]; rfl, by rw [h2]; rfl, trivial⟩⟩
theorem strs_vals : ∀ {xs : List Str} {us : List Value}, Paired (fun x u => ∃ t, u = Value.str x t) xs us → Vals (xs.map V.str) us
  | _, _, .nil => .nil
  | _, _, .cons h t => .cons h (strs_vals t)
theorem strs_rep {Hf : Hp} : ∀ xs : List Str, repL K Hf (xs.map V.str) xs
  | [] => .nil
  | _ :: r => .cons rfl (strs_rep r)
theorem ints_vals : ∀ {xs : List Int} {us : List Value}, Paired (fun x u => ∃ t, u = Value.int x t) xs us → Vals (xs.map V.int) us
  | _, _, .nil => .nil
  | _, _, .cons h t => .cons h (ints_vals t)
theorem gc_tps {xs : List Str} {us : List Value} {a : Addr} {d : Option Addr} {z : Nat} {sl : Array (Option Value)} (h : mg n = some (.ref a)) (l : K.lookup a = some ⟨.type "tuple", d, .seq us.toArray z, sl⟩) (p : Paired (fun x u => ∃ t, u = Value.str x t) xs us) (hz : us.length ≤ 100000) : GC K mg n (TpS.mk xs) :=
  ⟨.ref a, _, h, rfl, fun Hf => ⟨a, xs.map V.str, rfl, .inr ⟨_, _, _, l, rfl, rfl, by rw [List.size_toArray]; exact sz_of hz, strs_vals p⟩, strs_rep xs⟩⟩
theorem gc_tpi {xs : List Int} {us : List Value} {a : Addr} {d : Option Addr} {z : Nat} {sl : Array (Option Value)} (h : mg n = some (.ref a)) (l : K.lookup a = some ⟨.type "tuple", d, .seq us.toArray z, sl⟩) (p : Paired (fun x u => ∃ t, u = Value.int x t) xs us) (hz : us.length ≤ 100000) : GC K mg n (TpI.mk xs) :=
  ⟨.ref a, _, h, rfl, fun Hf => ⟨a, xs.map V.int, rfl, .inr ⟨_, _, _, l, rfl, rfl, by rw [List.size_toArray]; exact sz_of hz, ints_vals p⟩, ints_rep xs⟩⟩
end
section
variable {X : Cx} {W : WX} {env env' env0 : Env'} {ρ α β γ : Type} [Res ρ] [Dat α] [Dat β] [Dat γ] {po : Po ρ} {x : α} {y : β} {z : γ} {e a b c tg iter o : Expr} {es elts : List Expr} {pos p p2 pc p3 apos cpos : Pos} {rest body : List Stmt} {xs ys : List α} {st : Stmt} {t : TE}
theorem ex_gc {n : Str} (g : GC X.K X.mg n x) (hg : Gl X n := by rfl) (hd : (n == ("__debug__" : Str)) = false := by decide) : EX X (.Name n pos) env x := by
  obtain ⟨v, u, h, r, q⟩ := g.ex
  exact ex_of (pe_glob hg h r hd) (ev_c q)
/-- isinstance of what may be None -/
theorem ex_isiO {n : String} [TyN α n] {m : Option α} {T : Str} {c : String} (hi : X.mg "isinstance" = none) (hT : X.mg T = none) (h : EX X a env m) (hk : kitB n c = some true) (hk0 : kitB "NoneType" c = some false) (hv : bootBuiltins T = some (.type c)) (hg : Gl X "isinstance" := by rfl) (hgT : Gl X T := by rfl) (hn : T ≠ "__name__" := by decide) (hd : (T == ("__debug__" : Str)) = false := by decide)
    (he : starEach [a, .Name T pc] X.env = (false, eval a X.env) :: starEach [.Name T pc] X.env := by exact star_plain rfl _ _) (he2 : starEach [.Name T pc] X.env = (false, eval (.Name T pc) X.env) :: starEach [] X.env := by exact star_plain rfl _ _) (hpl : (backTo pos (starEach [.Name T pc] X.env)).any (·.1) = false := by exact star_pl rfl) : EX X (.Call (.Name "isinstance" p) [a, .Name T pc] [] pos) env m.isSome :=
  ex_of (pe_callB call_isi hg hi (by decide +kernel) (pa_cons (mE X a) (pa_cons (pe_bltn (v := .ty c) hgT hT hv rfl hn hd) pa_nil he2) he) (by decide) (by decide) he hpl) fun O fp σ H S Q q => h O fp σ H S _ fun v H1 e1 r1 => by
    cases m with
    | none =>
      have r1 : v = .non := r1
      subst r1
      exact ⟨_, .ty c, .type "NoneType", .type c, false, rfl, .ty c, .base .non, kit_ty hk0, q _ H1 e1 rfl⟩
    | some y =>
      have r1 : Dat.rep X.K (wo H1 (UU O fp)) v y := r1
      exact ⟨v, .ty c, .type n, .type c, true, rfl, .ty c, TyX.mono (TyN.ty _ _ _ _ r1), kit_ty hk, q _ H1 e1 rfl⟩
theorem EvT.go {Q : Bool → Hp → Prop} {H : Hp} {k j : Bool} (h : Q k H) (e : j = k) : Q j H := e ▸ h
theorem et_din {d : Dc α} {k : Str} (hu : X.A.units + 1 < cLine) (hk : EX X a env k) (ho : EX X o env d) (hm : behindInMarks .In o = false := by rfl) : ET X (.Compare a [.In] [o] pos) env (d.has k) :=
  et_of (pt_cmp (pc_din hu (mE X a) (mE X o)) hm) fun O fp σ H S Q q => hk O fp σ H S _ fun v2 H1 e1 r2 => ho O fp σ H1 (S.ex e1) _ fun v1 H2 e2 r1 => by
    obtain ⟨ad, ws, h1, h2, h3⟩ := r1
    have r2 : v2 = .str k := r2
    subst h1 r2
    refine ⟨ad, valV ws (.inr k), rfl, .inl ⟨ws, .inr k, wo_le _ _ trivial h2, rfl, rfl⟩, _, rfl, ?_⟩
    refine EvT.go (q H2 (e1.trans e2)) ?_
    unfold Dc.has
    rcases h3.look k with ⟨n1, n2⟩ | ⟨v, x', hv, hx, rx⟩
    · rw [n1, n2]; rfl
    · rw [hv, hx]; rfl
theorem et_dnotin {d : Dc α} {k : Str} (hu : X.A.units + 1 < cLine) (hk : EX X a env k) (ho : EX X o env d) (hm : behindInMarks .NotIn o = false := by rfl) : ET X (.Compare a [.NotIn] [o] pos) env (!d.has k) :=
  et_of (pt_cmp (pc_dnotin hu (mE X a) (mE X o)) hm) fun O fp σ H S Q q => hk O fp σ H S _ fun v2 H1 e1 r2 => ho O fp σ H1 (S.ex e1) _ fun v1 H2 e2 r1 => by
    obtain ⟨ad, ws, h1, h2, h3⟩ := r1
    have r2 : v2 = .str k := r2
    subst h1 r2
    refine ⟨ad, valV ws (.inr k), rfl, .inl ⟨ws, .inr k, wo_le _ _ trivial h2, rfl, rfl⟩, _, rfl, ?_⟩
    refine EvT.go (q H2 (e1.trans e2)) ?_
    unfold Dc.has
    rcases h3.look k with ⟨n1, n2⟩ | ⟨v, x', hv, hx, rx⟩
    · rw [n1, n2]; rfl
    · rw [hv, hx]; rfl
theorem ex_inT {s : Str} {ss : TpS} (h : EX X a env s) (ho : EX X o env ss) (hm : behindInMarks .In o = false := by rfl) : EX X (.Compare a [.In] [o] pos) env (ss.l.any fun y => decide (y = s)) :=
  ex_cmp op_in_seq h ho (fun U v1 v2 H _ r1 r2 Q q => by
    obtain ⟨ad, vs, h1, h2, h3⟩ := r2
    have := h3.strs
    subst this
    have r1 : v1 = .str s := r1
    subst r1
    refine ⟨ad, _, h1, .inr (wo_le.tup h2), rfl, ?_, q _ H (Ex.refl H) ?_⟩
    · rw [List.all_map]
      exact List.all_eq_true.mpr fun _ _ => rfl
    · show V.bl _ = V.bl _
      rw [if_neg (by decide), inV_strs]) hm
theorem ex_notinT {s : Str} {ss : TpS} (h : EX X a env s) (ho : EX X o env ss) (hm : behindInMarks .NotIn o = false := by rfl) : EX X (.Compare a [.NotIn] [o] pos) env (!(ss.l.any fun y => decide (y = s))) :=
  ex_cmp op_notIn_seq h ho (fun U v1 v2 H _ r1 r2 Q q => by
    obtain ⟨ad, vs, h1, h2, h3⟩ := r2
    have := h3.strs
    subst this
    have r1 : v1 = .str s := r1
    subst r1
    refine ⟨ad, _, h1, .inr (wo_le.tup h2), rfl, ?_, q _ H (Ex.refl H) ?_⟩
    · rw [List.all_map]
      exact List.all_eq_true.mpr fun _ _ => rfl
    · show V.bl _ = V.bl _
      rw [if_pos rfl, inV_strs]) hm
theorem et_inS {s : Str} {ss : List Str} (h : EX X a env s) (ho : EX X o env ss) (hm : behindInMarks .In o = false := by rfl) : ET X (.Compare a [.In] [o] pos) env (ss.any fun y => decide (y = s)) :=
  et_cmp op_in_seq h ho (fun U v1 v2 H _ r1 r2 Q q => by
    obtain ⟨ad, vs, h1, h2, h3⟩ := r2
    have := h3.strs
    subst this
    have r1 : v1 = .str s := r1
    subst r1
    refine ⟨ad, _, h1, .inl (wo_le.lst h2), rfl, ?_, q _ H (Ex.refl H) ?_⟩
    · rw [List.all_map]
      exact List.all_eq_true.mpr fun _ _ => rfl
    · show V.bl _ = V.bl _
      rw [if_neg (by decide), inV_strs]) hm
theorem et_notinS {s : Str} {ss : List Str} (h : EX X a env s) (ho : EX X o env ss) (hm : behindInMarks .NotIn o = false := by rfl) : ET X (.Compare a [.NotIn] [o] pos) env (!(ss.any fun y => decide (y = s))) :=
  et_cmp op_notIn_seq h ho (fun U v1 v2 H _ r1 r2 Q q => by
    obtain ⟨ad, vs, h1, h2, h3⟩ := r2
    have := h3.strs
    subst this
    have r1 : v1 = .str s := r1
    subst r1
    refine ⟨ad, _, h1, .inl (wo_le.lst h2), rfl, ?_, q _ H (Ex.refl H) ?_⟩
    · rw [List.all_map]
      exact List.all_eq_true.mpr fun _ _ => rfl
    · show V.bl _ = V.bl _
      rw [if_pos rfl, inV_strs]) hm
theorem et_ltS {s t : Str} (ha : EX X a env s) (hb : EX X b env t) : ET X (.Compare a [.Lt] [b] pos) env (ltS s t) := et_cmp op_lt_str ha hb (fun U v1 v2 H _ r1 r2 Q q => ⟨s, t, r1, r2, q _ H (Ex.refl H) rfl⟩) (nomark _)
theorem et_gtS {s t : Str} (ha : EX X a env s) (hb : EX X b env t) : ET X (.Compare a [.Gt] [b] pos) env (ltS t s) := et_cmp op_gt_str ha hb (fun U v1 v2 H _ r1 r2 Q q => ⟨s, t, r1, r2, q _ H (Ex.refl H) rfl⟩) (nomark _)
theorem et_inT {s : Str} {ss : TpS} (h : EX X a env s) (ho : EX X o env ss) (hm : behindInMarks .In o = false := by rfl) : ET X (.Compare a [.In] [o] pos) env (ss.l.any fun y => decide (y = s)) :=
  et_cmp op_in_seq h ho (fun U v1 v2 H _ r1 r2 Q q => by
    obtain ⟨ad, vs, h1, h2, h3⟩ := r2
    have := h3.strs
    subst this
    have r1 : v1 = .str s := r1
    subst r1
    refine ⟨ad, _, h1, .inr (wo_le.tup h2), rfl, ?_, q _ H (Ex.refl H) ?_⟩
    · rw [List.all_map]
      exact List.all_eq_true.mpr fun _ _ => rfl
    · show V.bl _ = V.bl _
      rw [if_neg (by decide), inV_strs]) hm
theorem et_notinT {s : Str} {ss : TpS} (h : EX X a env s) (ho : EX X o env ss) (hm : behindInMarks .NotIn o = false := by rfl) : ET X (.Compare a [.NotIn] [o] pos) env (!(ss.l.any fun y => decide (y = s))) :=
  et_cmp op_notIn_seq h ho (fun U v1 v2 H _ r1 r2 Q q => by
    obtain ⟨ad, vs, h1, h2, h3⟩ := r2
    have := h3.strs
    subst this
    have r1 : v1 = .str s := r1
    subst r1
    refine ⟨ad, _, h1, .inr (wo_le.tup h2), rfl, ?_, q _ H (Ex.refl H) ?_⟩
    · rw [List.all_map]
      exact List.all_eq_true.mpr fun _ _ => rfl
    · show V.bl _ = V.bl _
      rw [if_pos rfl, inV_strs]) hm
end
end R
set_option maxHeartbeats 1000000
set_option autoImplicit false
/-! try with ways out; except C as e, isinstance(e, D) -/
namespace R
open PySem PySem.Spec PyProof.Rows L2
/-- the exception that a suite holds -/
structure ExV where
  a : Addr
instance : Dat ExV := ⟨fun _ _ v x => v = .ref x.a, fun _ h => h⟩
/-- isinstance(e, c) for all that may be caught -/
structure IsC (K : PySem.W.Frag) (mg : Str → Option Value) (all some' : List Str) (c : Str) : Prop where
  ex : ∃ Cv, mg c = some (.ref Cv) ∧ ∀ n ∈ all, ∃ D, mg n = some (.ref D) ∧ ExcC K D ∧ PySem.W.kitOne K (.ref D) (.ref Cv) = some (some'.contains n)
section
variable {X : Cx} {W : WX} {env env' : Env'} {ρ α β γ : Type} [Res ρ] [Dat α] [Dat β] [Dat γ] {po : Po ρ} {x : α} {y : β} {z : γ} {e a b c : Expr} {es elts : List Expr} {pos p p2 pc p3 : Pos} {rest body : List Stmt}
theorem ex_isE {i : Nat} {v c : Str} {all some' : List Str} {e : Exn} {ad : Addr} {oe : Obj} {cls : Value} {d : Option Addr} {pn : List (Addr × Obj)} {Hf : Hp} (I : IsC X.K X.mg all some' c) (hi : X.mg "isinstance" = none) (hall : exnIn all e = true) (h1 : ∃ n, e = .one n) (hz : Zc cls d oe) (hfd : ∃ vs, oe.data = .fields vs) (xa : ExAt X.mg X.K Hf e cls d) (hv : env[i]? = some (.dat (ExV.mk ad)))
    (hN : (X.suite ad ((ad, oe) :: pn)).N[i]? = some v := by rfl) (hvis : Vis (X.suite ad ((ad, oe) :: pn)).env.scope v := by first | exact Or.inl rfl | exact Or.inr (Or.inl rfl) | exact Or.inr (Or.inr rfl)) (hd : (v == ("__debug__" : Str)) = false := by decide) (hc : (v == ("__classdict__" : Str)) = false := by decide)
    (hg : Gl (X.suite ad ((ad, oe) :: pn)) "isinstance" := by rfl) (hgc : Gl (X.suite ad ((ad, oe) :: pn)) c := by rfl) (hdc : (c == ("__debug__" : Str)) = false := by decide) (he : starEach [.Name v p, .Name c pc] (X.suite ad ((ad, oe) :: pn)).env = (false, eval (.Name v p) (X.suite ad ((ad, oe) :: pn)).env) :: starEach [.Name c pc] (X.suite ad ((ad, oe) :: pn)).env := by rfl) (he2 : starEach [.Name c pc] (X.suite ad ((ad, oe) :: pn)).env = (false, eval (.Name c pc) (X.suite ad ((ad, oe) :: pn)).env) :: starEach [] (X.suite ad ((ad, oe) :: pn)).env := by rfl) (hpl : (backTo pos (starEach [.Name c pc] (X.suite ad ((ad, oe) :: pn)).env)).any (·.1) = false := by exact star_pl rfl) :
    EX (X.suite ad ((ad, oe) :: pn)) (.Call (.Name "isinstance" p2) [.Name v p, .Name c pc] [] pos) env (exnIn some' e) := by
  obtain ⟨n, rfl⟩ := h1
  obtain ⟨Cv, hm, tb⟩ := I.ex
  have hn : n ∈ all := List.contains_iff_mem.mp hall
  obtain ⟨D, q1, q2, q3⟩ := tb n hn
  obtain ⟨x1, x2⟩ := xa
  rw [q1] at x1
  cases x1
  subst x2
  exact ex_of (pe_callB (call_isE q2 hz hfd) hg hi (by decide +kernel) (pa_cons (pe_var hN hvis hd hc) (pa_cons (pe_glob (v := .ref Cv) hgc hm rfl hdc) pa_nil he2) he) (by decide) (by decide) he hpl) fun O fp σ H S Q q => by
    obtain ⟨v1, w1, w2⟩ := S.sl i _ hv
    have w2 : v1 = .ref ad := w2
    subst w2
    exact ⟨.ref ad, w1, .ref Cv, .ref Cv, some'.contains n, rfl, fun u r => r, q3, q _ H (Ex.refl H) rfl⟩
/-- try: .. except C: .., ways out let be -/
theorem sx_tryG {S T : Type} {x : Str} {np ps' : Pos} {b0 : Stmt} {suite : List Stmt} {all some' : List Str} (uu : S → Env' → Env') (m : Except Exn (Stp S T)) (h : Exn → Stp S T) (hs : X.stack = X.env :: X.outer) (hf : X.env.frame = some X.env.locals) (cc : CatC X.K X.mg all some' x) (tk : Takes X W)
    (hv : ∀ e, m = .error e → exnIn all e = true ∧ exnIn some' e = true)
    (hb : ∀ (W' : WX) (pn : List (Addr × Obj)) (xe : Value → Shared → Prop), Takes (X.tr pn xe) W' → PassesOwn (model X.prog X.w) X.A X.env xe → SX (X.tr pn xe) W' body env { po with N := fun e => ∃ s, m = .ok (.go s) ∧ Sub e (uu s env), X := fun e env' => m = .error e ∧ env' = env })
    (hsu : ∀ e, m = .error e → ∀ (ad : Addr) (oe : Obj) (cls : Value) (d : Option Addr) (pn : List (Addr × Obj)) (Hf : Hp), Zc cls d oe → (∃ vs, oe.data = .fields vs) → ExAt X.mg X.K Hf e cls d → SX (X.suite ad ((ad, oe) :: pn)) W (b0 :: suite) env { po with N := fun e' => ∃ s, tryV m h = .go s ∧ Sub e' (uu s env) })
    (hr : ∀ s, tryV m h = .go s → SX X W rest (uu s env) po) (hg : Gl X x := by rfl) (hdb : (x == ("__debug__" : Str)) = false := by decide) : SX X W (.Try body [.ExceptHandler (some (.Name x np)) none (b0 :: suite) ps'] [] [] pos :: rest) env po := by
  obtain ⟨cv, hm, hx⟩ := cc.ex
  refine sx_cons (fun e => ∃ s, tryV m h = .go s ∧ Sub e (uu s env)) (s1_of (ps_try_only (tb := fun W' D σ H => ∀ pn xe, Takes (X.tr pn xe) W' → PassesOwn (model X.prog X.w) X.A X.env xe → tSs (X.tr pn xe) body D σ H) (ts := fun ad cls d D σ H => ∀ oe pn, Zc cls d oe → (∃ vs, oe.data = .fields vs) → tSs (X.suite ad ((ad, oe) :: pn)) (b0 :: suite) D σ H) hs hf ⟨hg, hdb, .inl hm⟩ tk
    (fun W' pn xe t q => ⟨fun pins s σ H D I h => tSs_run (h pn xe t q) pins s I⟩) (fun ad oe cls d pn hz hfd => ⟨fun pins s σ H D I h => tSs_run (h oe pn hz hfd) pins s I⟩)) fun O fp σ H S' D G => fun pn xe t q => hb _ pn xe t q O fp σ H S' D ⟨fun e f s2 h1 ⟨s, g1, g2⟩ kp S2 => G.nx e f s2 h1 ⟨s, tryV_ok g1, g2⟩ kp S2, G.rt, fun e env' fp' σ' cls d H' ⟨g1, g2⟩ kp S2 xa => by
      subst g2
      refine ⟨true, by rw [hx e _ cls d (hv e g1).1 xa, (hv e g1).2], fun _ ad ha oe pn hz hfd => ?_, fun z => by cases z⟩
      exact hsu e g1 ad oe cls d pn _ hz hfd xa O fp' σ' H' S2 D (G.step kp), G.bk, G.ct⟩) fun e ⟨s, g1, g2⟩ => sx_sub g2 (hr s g1)
/-- try: .. except C as e: .. -/
theorem sx_tryA {S T : Type} {i : Nat} {x v : Str} {np ps' : Pos} {b0 : Stmt} {suite : List Stmt} {all some' : List Str} (uu : S → Env' → Env') (m : Except Exn (Stp S T)) (h : Exn → Stp S T) (hN : X.N.Nodup) (hs : X.stack = X.env :: X.outer) (hf : X.env.frame = some X.env.locals) (cc : CatC X.K X.mg all some' x) (tk : Takes X W)
    (hv : ∀ e, m = .error e → exnIn all e = true ∧ exnIn some' e = true)
    (hb : ∀ (W' : WX) (pn : List (Addr × Obj)) (xe : Value → Shared → Prop), Takes (X.tr pn xe) W' → PassesOwn (model X.prog X.w) X.A X.env xe → SX (X.tr pn xe) W' body env { po with N := fun e => ∃ s, m = .ok (.go s) ∧ Sub e (uu s env), X := fun e env' => m = .error e ∧ env' = env })
    (hsu : ∀ e, m = .error e → ∀ (ad : Addr) (oe : Obj) (cls : Value) (d : Option Addr) (pn : List (Addr × Obj)) (Hf : Hp), Zc cls d oe → (∃ vs, oe.data = .fields vs) → ExAt X.mg X.K Hf e cls d → SX (X.suite ad ((ad, oe) :: pn)) W (b0 :: suite) (env.set i (.dat (ExV.mk ad))) { po with N := fun e' => ∃ s, tryV m h = .go s ∧ Sub (e'.set i .any) (uu s env), R := fun r e' => po.R r (e'.set i .any), B := fun e' => po.B (e'.set i .any), C := fun e' => po.C (e'.set i .any), X := fun _ _ => False })
    (hR : ∀ r e e', po.R r e → po.R r e') (hr : ∀ s, tryV m h = .go s → SX X W rest (uu s env) po) (hi : X.N[i]? = some v := by rfl) (hl : X.env.kindOf v = some .local := by rfl) (hg : Gl X x := by rfl) (hdb : (x == ("__debug__" : Str)) = false := by decide) : SX X W (.Try body [.ExceptHandler (some (.Name x np)) (some v) (b0 :: suite) ps'] [] [] pos :: rest) env po := by
  obtain ⟨cv, hm, hx⟩ := cc.ex
  refine sx_cons (fun e => ∃ s, tryV m h = .go s ∧ Sub e (uu s env)) (s1_of (ps_try_as (tb := fun W' D σ H => ∀ pn xe, Takes (X.tr pn xe) W' → PassesOwn (model X.prog X.w) X.A X.env xe → tSs (X.tr pn xe) body D σ H) (ts := fun ad cls d D σ H => ∀ oe pn, Zc cls d oe → (∃ vs, oe.data = .fields vs) → tSs (X.suite ad ((ad, oe) :: pn)) (b0 :: suite) D σ H) hs hf hN hi hl ⟨hg, hdb, .inl hm⟩ tk
    (fun W' pn xe t q => ⟨fun pins s σ H D I h => tSs_run (h pn xe t q) pins s I⟩) (fun ad oe cls d pn hz hfd => ⟨fun pins s σ H D I h => tSs_run (h oe pn hz hfd) pins s I⟩)) fun O fp σ H S' D G => fun pn xe t q => hb _ pn xe t q O fp σ H S' D ⟨fun e f s2 h1 ⟨s, g1, g2⟩ kp S2 => G.nx e f s2 h1 ⟨s, tryV_ok g1, g2⟩ kp S2, G.rt, fun e env' fp' σ' cls d H' ⟨g1, g2⟩ kp S2 xa => by
      subst g2
      refine ⟨true, by rw [hx e _ cls d (hv e g1).1 xa, (hv e g1).2], fun _ ad ha oe pn hz hfd => ?_, fun z => by cases z⟩
      refine hsu e g1 ad oe cls d pn _ hz hfd xa O fp' _ H' (S2.set i rfl) _ ?_
      have G2 := G.step kp
      exact ⟨fun e2 f2 s2 h2 ⟨s, k1, k2⟩ kp2 S3 => G2.nx (e2.set i .any) f2 _ h2 ⟨s, k1, k2⟩ kp2 (S3.forget i), fun r e2 f2 s2 v2 h2 k kp2 S3 rr => G2.rt r e2 f2 s2 v2 h2 (hR r _ _ k) kp2 S3 rr, fun e2 f2 s2 c2 d2 d3 h2 k => k.elim, fun e2 f2 s2 h2 k kp2 S3 => G2.bk (e2.set i .any) f2 _ h2 k kp2 (S3.forget i), fun e2 f2 s2 h2 k kp2 S3 => G2.ct (e2.set i .any) f2 _ h2 k kp2 (S3.forget i)⟩, G.bk, G.ct⟩) fun e ⟨s, g1, g2⟩ => sx_sub g2 (hr s g1)
end
end R
set_option maxHeartbeats 1000000
set_option autoImplicit false
/-! list(reversed(xs)) -/
namespace RQ2
open PySem PySem.Spec PyProof.Rows RT
section
variable {pg : Program} {wd : World} {Z : Around} {st : Shared} {RR : Result → Shared → Prop}
/-- a fresh list takes what a reversed list gives -/
theorem takes_rev {j m S : Addr} {vs : Array Value} (noh : Z.handled = none) (ij : st.heap.IsRevIter j m ((vs.size : Int) - 1)) (im : st.heap.IsList m vs) (ne : m ≠ j) (sz : vs.size ≤ sizeLine) (c0 : Nat) (neS : S ≠ j) (neM : S ≠ m) (iS : st.heap.get? S = some { cls := .type "list", data := .seq #[] c0 })
    (fin : ∀ t acc c1, Moved [S, j] (fun a b => b = a) st t → t.heap.get? S = some { cls := .type "list", dict := none, data := .seq acc c1, slots := #[] } → ItemsOf (fun i v => vs[vs.size - 1 - i]? = some v) acc vs.size → RR (.ok (.ret .none)) t) :
    wpAny (model pg wd) Z.in1 (Builtin.List.listExtendWith (.ref S) (.ref j) .none)
      (fun f t => match f with | .done r => RR (.ok r) t | .again k => k.quiet = true ∧ codeAny (model pg wd) Z k RR t) (fun e t => RR (.error e) t) st := by
  have WW := (Walks.listRev (prog := pg) (w := wd) (A := Z.in1) noh j m ne vs).toS
  have out : S ∉ [j, m] := by simp only [List.mem_cons, List.not_mem_nil, or_false, not_or]; exact ⟨neS, neM⟩
  have ty : st.TypeIs (.ref j) "list_reverseiterator" := Heap.IsRevIter.typeIs ij
  have same : Builtin.List.listSameRef (.ref S) (.ref j) = false := by simp [Builtin.List.listSameRef, neS]
  unfold Builtin.List.listExtendWith
  refine wpAny_bind (wpAny_typeOf ty ?_)
  rw [if_neg (by rw [same]; decide)]
  refine wpAny_bind (wpAny_pyIter_revIter ij ?_)
  refine wpAny_bind (wpAny_holding ?_)
  unfold Builtin.List.listLengthHint
  refine wpAny_bind (wpAny_specialOf ty nolen_lri ?_)
  show wpAny _ Z.in1 (specialOf (Value.ref j) (Str.ofString "__length_hint__") >>= _) _ _ _
  refine wpAny_bind (wpAny_specialOf ty hint_lri ?_)
  generalize hk : ("list_reverseiterator.__length_hint__" : String) = k0
  wp_delta
  rw [show splitId k0 = some ("list_reverseiterator", "__length_hint__") from by subst hk; decide +kernel]
  subst hk
  refine wpAny_bind (wpAny_isInstance (b := true) ty (by rw [isSubtype_type]; kernel_rfl) ?_)
  refine wpAny_pure ?_
  rw [if_neg (by decide)]
  have z0 : ((vs.size : Nat) : Int) - 1 - ((0 : Nat) : Int) = (vs.size : Int) - 1 := by omega
  refine wpAny_pure ⟨plainId_quiet F.plain_extend_loop _, codeAny_extend_loopS WW sz _ out _ vs.size 0 _ _ _ rfl (Nat.zero_le _) ⟨Nat.zero_le _, by rw [z0]; exact ij, im⟩ iS (ItemsOf.nil _) fun t acc c1 mv hS hi => ?_⟩
  exact fin t acc c1 mv hS hi
/-- list(a reversed list) -/
theorem list_rev {EE : Value → Shared → Prop} {j m : Addr} {vs : Array Value} {QQ : Value → Shared → Prop} (noh : Z.handled = none) (ij : st.heap.IsRevIter j m ((vs.size : Int) - 1)) (im : st.heap.IsList m vs) (ne : m ≠ j) (sz : vs.size ≤ sizeLine)
    (fin : ∀ (hp : Heap) (tk : Nat) acc c1, (∀ b o, b ≠ j → st.heap.get? b = some o → hp.get? b = some o) → hp.get? st.heap.objs.size = some { cls := .type "list", dict := none, data := .seq acc c1, slots := #[] } → ItemsOf (fun i v => vs[vs.size - 1 - i]? = some v) acc vs.size → QQ (.ref st.heap.objs.size) { st with heap := hp, toks := tk }) :
    wpAny (model pg wd) Z (call (.type "list") [.ref j]) QQ EE st := by
  obtain ⟨oj, hj, _⟩ := id ij
  obtain ⟨om, hm, _⟩ := id im
  have neS : st.heap.objs.size ≠ j := Nat.ne_of_gt (Heap.lt_size hj)
  have neM : st.heap.objs.size ≠ m := Nat.ne_of_gt (Heap.lt_size hm)
  refine callType_codes (Q₁ := fun ob t => ob = .ref st.heap.objs.size ∧ t = { st with heap := st.heap.push { cls := .type "list", data := .seq #[] } }) F.called_list (F.typeCall_list_1 _) F.entry_list_init (code_list_new _ ⟨rfl, rfl⟩) fun ob t ht => ?_
  obtain ⟨rfl, rfl⟩ := ht
  have at0 : (st.heap.push { cls := .type "list", data := .seq #[] }).get? st.heap.objs.size = some { cls := .type "list", data := .seq #[] } := Heap.get?_push_size _ rfl
  refine ⟨⟨_, at0, rfl⟩, F.args_list_init_2 _ _, ?_⟩
  show wpAny _ Z.in1.in1 (do let was ← Builtin.List.listItems (.ref st.heap.objs.size); Builtin.List.listUpdate (.ref st.heap.objs.size) (fun _ => #[]); letGo was.toList.reverse; Builtin.List.listExtendWith (.ref st.heap.objs.size) (.ref j) .none) _ _ _
  refine wpAny_bind ?_
  unfold Builtin.List.listItems
  refine wpAny_bind (wpAny_seqItems at0 rfl (wpAny_pure ?_))
  show wpAny _ Z.in1.in1 (updateSeq st.heap.objs.size (fun _ => #[]) >>= fun _ => letGo (#[] : Array Value).toList.reverse >>= fun _ => Builtin.List.listExtendWith (.ref st.heap.objs.size) (.ref j) .none) _ _ _
  refine wpAny_bind (wpAny_updateSeq at0 rfl ?_)
  have at1 := Heap.get?_update_self (Obj.mapSeq (fun _ => (#[] : Array Value))) at0 rfl
  have keep : ∀ b o, st.heap.get? b = some o → ((st.heap.push { cls := .type "list", data := .seq #[] }).update st.heap.objs.size (Obj.mapSeq (fun _ => (#[] : Array Value)))).get? b = some o := fun b o e => by
    have hb : b ≠ st.heap.objs.size := fun z => Nat.lt_irrefl _ (z ▸ Heap.lt_size e)
    exact (Heap.get?_update_other _ _ (Ne.symm hb)).trans (Heap.get?_push_of_some _ e)
  refine wpAny_bind (wpAny_letGo ?_)
  refine takes_rev (Z := Z.in1) noh (ij.at fun o e => keep _ _ e) (im.at fun o e => keep _ _ e) ne sz _ neS neM at1 fun t acc c1 mv hS hi => ⟨rfl, ?_⟩
  have et0 := Moved.eq_with mv
  have et : t = { st with heap := t.heap, toks := t.toks } := et0
  rw [et]
  refine fin t.heap t.toks acc c1 (fun b o hb e => mv.heap b o (fun hmem => ?_) (keep b o e)) hS hi
  rcases List.mem_cons.mp hmem with z | z
  · exact Nat.lt_irrefl _ (z ▸ Heap.lt_size e)
  · exact hb (List.mem_singleton.mp z)
end
end RQ2
namespace R
open PySem PySem.Spec PyProof.Rows L2
def tLstRev (K : PySem.W.Frag) (te : TE) : TE := fun σ H Q => te σ H fun v H1 => ∃ (a : Addr) (ws : List V), v = .ref a ∧ SqL K H1 a ws ∧ ∀ q, H1 q = none → Q (.ref q) (upd H1 q (.lst ws.reverse))
theorem rev_vals {ws : List V} {us : List Value} {acc : Array Value} (r : Vals ws us) (h : ItemsOf (fun i v => us.toArray[us.toArray.size - 1 - i]? = some v) acc us.toArray.size) : Vals ws.reverse acc.toList := by
  have e0 : us.toArray.size = us.length := List.size_toArray
  have e : acc.toList = us.reverse := by
    apply List.ext_getElem?
    intro j
    by_cases hj : j < us.length
    · have hja : j < acc.toList.length := by rw [Array.length_toList, h.1, e0]; exact hj
      have q1 : acc.toList[j]? = some acc.toList[j] := List.getElem?_eq_getElem hja
      have q2 : us.toArray[us.toArray.size - 1 - j]? = some acc.toList[j] := h.2 j _ (by rw [← Array.getElem?_toList]; exact q1)
      rw [q1, List.getElem?_reverse hj, ← q2, e0]
      simp
    · rw [List.getElem?_eq_none (by rw [Array.length_toList, h.1, e0]; omega), List.getElem?_eq_none (by rw [List.length_reverse]; omega)]
  rw [e]
  exact r.reverse
theorem pe_lstRev {X : Cx} {e : Expr} {te : TE} {p p2 pos pos2 : Pos} (hc : X.calm = true) (hg : Gl X "list") (hm : X.mg "list" = none) (hg2 : Gl X "reversed") (hm2 : X.mg "reversed" = none) (he : PE X e te) (hs : starEach [e] X.env = (false, eval e X.env) :: starEach [] X.env)
    (hs2 : starEach [.Call (.Name "reversed" p2) [e] [] pos2] X.env = (false, eval (.Call (.Name "reversed" p2) [e] [] pos2) X.env) :: starEach [] X.env) :
    PE X (.Call (.Name "list" p) [.Call (.Name "reversed" p2) [e] [] pos2] [] pos) (tLstRev X.K te) := by
  refine ⟨fun pins s σ H Q I h => ?_⟩
  refine Call_ (ld_blt I hg hm (by decide +kernel : bootBuiltins "list" = some (.type "list")) (PyProof.Rows.callWith_type1 (args_cons (Call_ (ld_blt I hg2 hm2 PyProof.Rows.boot_reversed (PyProof.Rows.callWith_type1 (args_cons (thn (he.run pins s σ H _ I h) fun u s1 ⟨v, H1, I1, r1, q1⟩ => args_nil ?_) hs) hs rfl))) hs2) hs2 rfl))
  obtain ⟨a, ws, ev, hq, q⟩ := q1
  subst ev
  obtain rfl : u = Value.ref a := r1
  obtain ⟨us, rv, pl, hz⟩ := I1.list hq
  refine call_reversed_list pl.isList ?_
  have J2 : Inv X pins σ H1 { s1 with heap := s1.heap.push (revObj a ((us.toArray.size : Int) - 1)) } := I1.kept (t' := s1.toks) fun b o z => Heap.get?_push_of_some _ z
  obtain ⟨ol, hol, _⟩ := id pl.isList
  have na : a ≠ s1.heap.objs.size := Nat.ne_of_lt (Heap.lt_size hol)
  have nz : us.toArray.size ≤ sizeLine := by rw [List.size_toArray, ← rv.length]; exact hz
  have fp : FpOk X pins H1 s1.heap.objs.size := I1.fpOk (H' := H1) (Nat.le_refl _) (I1.hok.fresh (Nat.le_refl _))
  refine args_nil ?_
  refine RQ2.list_rev (Z := X.A) (st := { s1 with heap := s1.heap.push (revObj a ((us.toArray.size : Int) - 1)) }) (I1.ok.hd hc) ⟨_, Heap.get?_push_size _ rfl, rfl, rfl⟩ (pl.isList.push _) na nz fun hp tk acc c1 hk hS hi => ?_
  have hn : H1 (s1.heap.push (revObj a ((us.toArray.size : Int) - 1))).objs.size = none := J2.hok.fresh (Nat.le_refl _)
  have hr : Vals ws.reverse acc.toList := rev_vals rv hi
  have J3 : Inv X pins σ (upd H1 (s1.heap.push (revObj a ((us.toArray.size : Int) - 1))).objs.size (.lst ws.reverse)) { s1 with heap := hp, toks := tk } :=
    J2.turnedNew (t' := tk) (ch := [s1.heap.objs.size]) (T := (s1.heap.push (revObj a ((us.toArray.size : Int) - 1))).objs.size) (fun b o hb z => hk b o (by simpa using hb) z) (fun b hb => by rw [List.mem_singleton.mp hb]; exact fp) (Nat.le_refl _) ⟨by rw [List.length_reverse]; exact hz, acc.toList, c1, hr, hS⟩
  exact ⟨V.ref (s1.heap.push (revObj a ((us.toArray.size : Int) - 1))).objs.size, _, J3, rfl, q _ hn⟩
section
variable {X : Cx} {env : Env'} {α : Type} [Dat α] {a : Expr} {p p2 pos pos2 : Pos} {xs : List α}
theorem Paired.rep_rev {K : PySem.W.Frag} {H : Hp} {vs : List V} {ys : List α} (h : repL K H vs ys) : repL K H vs.reverse ys.reverse := by
  induction h with
  | nil => exact .nil
  | cons r t ih => rw [List.reverse_cons, List.reverse_cons]; exact repL.app ih (.cons r .nil)
/-- list(reversed(xs)) -/
theorem en_listRev (hc : X.calm = true) (hm : X.mg "list" = none) (hm2 : X.mg "reversed" = none) (h : EX X a env xs) (hs : starEach [a] X.env = (false, eval a X.env) :: starEach [] X.env := by exact star_plain rfl _ _)
    (hs2 : starEach [.Call (.Name "reversed" p2) [a] [] pos2] X.env = (false, eval (.Call (.Name "reversed" p2) [a] [] pos2) X.env) :: starEach [] X.env := by exact star_plain rfl _ _) (hg : Gl X "list" := by rfl) (hg2 : Gl X "reversed" := by rfl) :
    EN X (.Call (.Name "list" p) [.Call (.Name "reversed" p2) [a] [] pos2] [] pos) env (OL.mk xs.reverse) := by
  intro O fp σ H S Q q
  refine tE_of fun pins s I => ?_
  refine (pe_lstRev hc hg hm hg2 hm2 (mE X a) hs hs2).run pins s σ H Q I ?_
  refine h O fp σ H S _ fun v H1 e1 r1 => ?_
  obtain ⟨ad, vs, rfl, t1, l1⟩ := r1
  refine ⟨ad, vs, rfl, wo_le.lst t1, fun u hu => ?_⟩
  refine q (.ref u) [u] _ (e1.trans (Ex.new hu)) (fun b hb => by rw [List.mem_singleton.mp hb]; exact e1.free hu) (fun b hb => by rw [List.mem_singleton.mp hb]; exact ⟨_, upd_same⟩) fun Hf le => ⟨u, vs.reverse, rfl, rfl, upd_same, ?_⟩
  exact (Paired.rep_rev l1).mono (Le.trans (le_new hu) le)
end
end R
set_option maxHeartbeats 1000000
set_option autoImplicit false
/-! sorted(set(ns)), ns a list of ints -/
namespace RQ3
open PySem PySem.Spec PyProof.Rows L2
section
variable {pg : Program} {wd : World} {Z : Around} {st : Shared} {EE : Value → Shared → Prop}
abbrev newSet (wd : World) : Obj := { cls := .type "set", dict := none, data := .set #[] 0 (.fresh 0 0 (!wd.params.followText "set-order")) }
theorem set_ints {j : Addr} {vs : Array Value} (ns : List Int) {QQ : Value → Shared → Prop} (noh : Z.handled = none) (ij : st.heap.IsList j vs) (iv : IntsAre vs.toList ns) (room : ns.length + 1 < scanBound)
    (fin : ∀ (hp : Heap) (tk c : Nat), SetR wd hp st.heap.objs.size (fun k => decide (k ∈ ns)) c → c ≤ ns.length → (∀ b o, st.heap.get? b = some o → hp.get? b = some o) → QQ (.ref st.heap.objs.size) { st with heap := hp, toks := tk }) :
    wpAny (model pg wd) Z (call (.type "set") [.ref j]) QQ EE st := by
  have sz : vs.size = ns.length := (Array.length_toList (xs := vs)).symm.trans (IntsAre.length iv)
  obtain ⟨c0, tl, om⟩ := F.called_set.mro
  have made0 := F.called_set.made
  have sub0 := F.called_set.sub
  refine wpAny_call (codeAny_of_tree ?_)
  show wpAny _ _ (callAny (.type "set") _) _ _ _
  refine wpAny_pure ⟨Code.quiet_builtin _ (by decide +kernel), codeAny_builtin F.entry_type_call ?_⟩; rw [Around.under_plain (weight_type_call_type "set" [.ref j] []) rfl]
  have h1 := F.called_set.notType
  have h2 := F.called_set.canCreate
  have ck0 := F.typeCall_set_1 (.ref j)
  repeat (any_goals (first | assumption | wp_step))
  refine codeAny_mono (code_set_led1 (.ref j) (E := EE) (Q₁ := fun obj s₁ => obj = .ref st.heap.objs.size ∧ s₁ = { st with heap := st.heap.push { cls := .type "set", dict := none, data := .set #[] 0 (.fresh 0 0 (!wd.params.followText "set-order")) } }) ⟨rfl, rfl⟩) fun r s₁ hr => ?_
  cases r with
  | error e => exact hr
  | ok fl =>
    cases fl with
    | ret obj =>
      obtain ⟨rfl, rfl⟩ := hr
      have at0 : (st.heap.push { cls := .type "set", dict := none, data := .set #[] 0 (.fresh 0 0 (!wd.params.followText "set-order")) }).get? st.heap.objs.size = some { cls := .type "set", dict := none, data := .set #[] 0 (.fresh 0 0 (!wd.params.followText "set-order")) } := Heap.get?_push_size _ rfl
      have ty0 : Shared.TypeIs { st with heap := st.heap.push { cls := .type "set", dict := none, data := .set #[] 0 (.fresh 0 0 (!wd.params.followText "set-order")) } } (.ref st.heap.objs.size) "set" := ⟨_, at0, rfl⟩
      have lk0 := F.called_set.init.lookup
      have bd0 := F.called_set.init.bind (.ref st.heap.objs.size)
      repeat (any_goals (first | assumption | wp_step))
      refine codeAny_mono (codeAny_call_builtin (R := wants (fun r s₂ => r = .none ∧ ∃ h' tk c, s₂ = { st with heap := h', toks := tk } ∧ SetR wd h' st.heap.objs.size (fun j => decide (j ∈ ns)) c ∧ c ≤ ns.length ∧ (∀ b o, st.heap.get? b = some o → h'.get? b = some o)) EE) F.called_set.init.plain F.entry_set_init (check_set_init_1 ty0 ?_)) fun r₂ s₂ hr₂ => ?_
      · obtain ⟨ol, om1, hcl, nl, hdl⟩ := ij
        obtain ⟨ocls, odict, odata, oslots⟩ := ol
        simp only at hcl hdl
        subst hcl; subst hdl
        have ol1 : (st.heap.push { cls := .type "set", dict := none, data := .set #[] 0 (.fresh 0 0 (!wd.params.followText "set-order")) }).get? j = some { cls := .type "list", dict := odict, data := .seq vs nl, slots := oslots } := Heap.get?_push_of_some _ om1
        have ss0 := F.sub_list_set
        have sf0 := F.sub_list_frozenset
        have hne : (Value.type "list" == Value.type "dict") = false := by decide
        have ij1 : (st.heap.push { cls := .type "set", dict := none, data := .set #[] 0 (.fresh 0 0 (!wd.params.followText "set-order")) }).IsList j vs := ⟨_, ol1, rfl, nl, rfl⟩
        unfold Builtin.«set.__init__» noKeywords Builtin.Frozenset.updateFrom
        generalize hPI : pyIter = PI
        wp_walk
        subst hPI
        refine wpAny_pyIter_list ij1 ?_
        refine wpAny_bind (wpAny_runValue ?_)
        have lt0 : j < st.heap.objs.size := Heap.lt_size om1
        have noh3 : Z.in1.in1.in1.handled = none := by simp [noh]
        have szh : (st.heap.push { cls := .type "set", dict := none, data := .set #[] 0 (.fresh 0 0 (!wd.params.followText "set-order")) }).objs.size = st.heap.objs.size + 1 := Heap.size_push ..
        have neI : j ≠ (st.heap.push { cls := .type "set", dict := none, data := .set #[] 0 (.fresh 0 0 (!wd.params.followText "set-order")) }).objs.size := by
          rw [Heap.size_push]; exact Nat.ne_of_lt (Nat.lt_succ_of_lt lt0)
        have out0 : st.heap.objs.size ∉ [(st.heap.push { cls := .type "set", dict := none, data := .set #[] 0 (.fresh 0 0 (!wd.params.followText "set-order")) }).objs.size, j] := by
          rw [Heap.size_push]; simp only [List.mem_cons, List.mem_singleton, List.not_mem_nil, or_false, not_or]
          exact ⟨Nat.ne_of_lt (Nat.lt_succ_self _), Nat.ne_of_gt lt0⟩
        have val0 : ∀ (i : Nat) (v : Value), vs[i]? = some v → ∃ k t, ns[i]? = some k ∧ v = .int k t := fun i v hv => by
          have hi : i < ns.length := by rw [← sz]; exact (Array.getElem?_eq_some_iff.mp hv).1
          obtain ⟨t, e⟩ := IntsAre.int_at iv i v (by rw [Array.getElem?_toList]; exact hv)
          refine ⟨ns[i], t, List.getElem?_eq_getElem hi, ?_⟩
          rw [e, List.getD_eq_getElem?_getD, List.getElem?_eq_getElem hi] <;> rfl
        refine set_update_ints ((Walks.list noh3 _ j neI vs).toS) st.heap.objs.size
          out0 ns sz room val0 (vs.size - 0) 0 _ (by omega) (Nat.zero_le _)
          ⟨⟨_, Heap.get?_push_size _ rfl, rfl, rfl⟩, (ij1.push _)⟩ ?hS0 ?hR
        case hS0 =>
          have gt0 : ((st.heap.push { cls := .type "set", dict := none, data := .set #[] 0 (.fresh 0 0 (!wd.params.followText "set-order")) }).push { cls := .type "list_iterator", data := .fields #[.ref j, .int 0 0] }).get? st.heap.objs.size
              = some { cls := .type "set", dict := none, data := .set #[] 0 (.fresh 0 0 (!wd.params.followText "set-order")) } := Heap.get?_push_of_some _ at0
          exact ⟨0, Nat.le_refl 0, setR_new_at gt0⟩
        case hR =>
          intro s' c' mv zS0 zS
          have zc := zS0
          obtain ⟨h', g2, d', tk', os'⟩ := s'
          have eg : g2 = st.gens := mv.gens
          have ed : d' = st.drawn := mv.drawn
          have eo : os' = st.os := mv.os
          subst eg; subst ed; subst eo
          show wpAny _ _ _ _ _ _
          refine wpAny_pure ?_
          show wpAny _ _ (ret Value.none) _ _ _
          rw [sz] at zc
          refine wpAny_pure ⟨rfl, h', tk', c', rfl, zS, zc, fun b o e => ?_⟩
          have hb0 : b < st.heap.objs.size := Heap.lt_size e
          have hb1 : b ≠ st.heap.objs.size := Nat.ne_of_lt hb0
          have hb2 : b ≠ (st.heap.push { cls := .type "set", dict := none, data := .set #[] 0 (.fresh 0 0 (!wd.params.followText "set-order")) }).objs.size := by
            rw [Heap.size_push]; exact Nat.ne_of_lt (Nat.lt_succ_of_lt hb0)
          exact mv.heap b o (by simp only [List.mem_cons, List.mem_singleton, List.not_mem_nil, or_false, not_or]; exact ⟨hb1, hb2⟩) (Heap.get?_push_of_some _ (Heap.get?_push_of_some _ e))
      · cases r₂ with
        | error e => exact hr₂
        | ok fl₂ =>
          cases fl₂ with
          | ret r =>
            obtain ⟨rfl, h', tk, c', rfl, zS, zc, zk⟩ := hr₂
            repeat (any_goals (first | assumption | wp_step))
            exact fin _ _ _ zS zc zk
          | _ => exact hr₂.elim
    | _ => exact hr.elim
end
end RQ3
namespace R
open PySem PySem.Spec PyProof.Rows L2
/-- into a rising list, once -/
def insU (n : Int) : List Int → List Int
  | [] => [n]
  | m :: l => if n < m then n :: m :: l else if n = m then m :: l else m :: insU n l
/-- the numbers of a list, rising, each once -/
def sortU (xs : List Int) : List Int := xs.foldr insU []
theorem mem_insU {n k : Int} : ∀ {l : List Int}, k ∈ insU n l ↔ k = n ∨ k ∈ l
  | [] => by simp [insU]
  | m :: l => by
    unfold insU
    split
    · simp
    · split
      · rename_i h; subst h; simp
      · rw [List.mem_cons, mem_insU, List.mem_cons]
        constructor
        · rintro (h | h | h)
          · exact .inr (.inl h)
          · exact .inl h
          · exact .inr (.inr h)
        · rintro (h | h | h)
          · exact .inr (.inl h)
          · exact .inl h
          · exact .inr (.inr h)
theorem rise_insU {n : Int} : ∀ {l : List Int}, l.Pairwise (· < ·) → (insU n l).Pairwise (· < ·)
  | [], _ => by simp [insU]
  | m :: l, h => by
    have h1 := List.pairwise_cons.mp h
    unfold insU
    split
    · rename_i hn
      exact List.pairwise_cons.mpr ⟨fun a ha => by
        rcases List.mem_cons.mp ha with z | z
        · rw [z]; exact hn
        · exact Int.lt_trans hn (h1.1 a z), h⟩
    · split
      · exact h
      · exact List.pairwise_cons.mpr ⟨fun a ha => by
          rcases mem_insU.mp ha with z | z
          · rw [z]; omega
          · exact h1.1 a z, rise_insU h1.2⟩
theorem mem_sortU {k : Int} : ∀ {xs : List Int}, k ∈ sortU xs ↔ k ∈ xs
  | [] => by simp [sortU]
  | x :: xs => by
    show k ∈ insU x (sortU xs) ↔ _
    rw [mem_insU, mem_sortU, List.mem_cons]
theorem rise_sortU : ∀ {xs : List Int}, (sortU xs).Pairwise (· < ·)
  | [] => by simp [sortU]
  | x :: xs => rise_insU rise_sortU
/-- a rising list is told by its members -/
theorem rise_eq : ∀ {xs ys : List Int}, xs.Pairwise (· < ·) → ys.Pairwise (· < ·) → (∀ k, k ∈ xs ↔ k ∈ ys) → xs = ys
  | [], [], _, _, _ => rfl
  | [], y :: ys, _, _, h => absurd ((h y).mpr (by simp)) (by simp)
  | x :: xs, [], _, _, h => absurd ((h x).mp (by simp)) (by simp)
  | x :: xs, y :: ys, h1, h2, h => by
    have a1 := List.pairwise_cons.mp h1
    have a2 := List.pairwise_cons.mp h2
    have e : x = y := by
      rcases List.mem_cons.mp ((h x).mp (by simp)) with z | z
      · exact z
      · rcases List.mem_cons.mp ((h y).mpr (by simp)) with w | w
        · exact w.symm
        · have := a2.1 x z
          have := a1.1 y w
          omega
    subst e
    rw [rise_eq a1.2 a2.2 fun k => ⟨fun hk => by
      rcases List.mem_cons.mp ((h k).mp (by simp [hk])) with z | z
      · have := a1.1 k hk
        omega
      · exact z, fun hk => by
      rcases List.mem_cons.mp ((h k).mpr (by simp [hk])) with z | z
      · have := a2.1 k hk
        omega
      · exact z⟩]
theorem sortU_self {xs : List Int} (h : xs.Pairwise (· < ·)) : sortU xs = xs := rise_eq rise_sortU h fun k => mem_sortU
theorem sortU_eq_iff {xs : List Int} : xs = sortU xs ↔ xs.Pairwise (· < ·) := ⟨fun h => by rw [h]; exact rise_sortU, fun h => (sortU_self h).symm⟩
theorem sortU_len : ∀ {xs : List Int}, (sortU xs).length ≤ xs.length
  | [] => Nat.le_refl _
  | x :: xs => by
    have h : ∀ (l : List Int), (insU x l).length ≤ l.length + 1 := fun l => by
      induction l with
      | nil => exact Nat.le_refl _
      | cons m l ih =>
        unfold insU
        split
        · exact Nat.le_refl _
        · split
          · exact Nat.le_succ _
          · exact Nat.succ_le_succ ih
    exact Nat.le_trans (h _) (Nat.succ_le_succ sortU_len)
def tSortU (K : PySem.W.Frag) (te : TE) : TE := fun σ H Q => te σ H fun v H1 => ∃ (a : Addr) (ns : List Int), v = .ref a ∧ SqL K H1 a (ns.map V.int) ∧ ns.length < 64 ∧ ∀ q, H1 q = none → Q (.ref q) (upd H1 q (.lst ((sortU ns).map V.int)))
theorem pe_sortU {X : Cx} {e : Expr} {te : TE} {p p2 pos pos2 : Pos} (hc : X.calm = true) (hg : Gl X "sorted") (hm : X.mg "sorted" = none) (hg2 : Gl X "set") (hm2 : X.mg "set" = none) (he : PE X e te) (hs : starEach [e] X.env = (false, eval e X.env) :: starEach [] X.env)
    (hs2 : starEach [.Call (.Name "set" p2) [e] [] pos2] X.env = (false, eval (.Call (.Name "set" p2) [e] [] pos2) X.env) :: starEach [] X.env) :
    PE X (.Call (.Name "sorted" p) [.Call (.Name "set" p2) [e] [] pos2] [] pos) (tSortU X.K te) := by
  refine ⟨fun pins s0 σ H Q I h => ?_⟩
  refine Call_ (ld_blt I hg hm PyProof.Rows.boot_sorted (PyProof.Rows.callWith_builtin1 (args_cons (Call_ (ld_blt I hg2 hm2 PyProof.Rows.boot_set (PyProof.Rows.callWith_type1 (args_cons (thn (he.run pins s0 σ H _ I h) fun u s1 ⟨v, H1, I1, r1, q1⟩ => args_nil ?_) hs) hs rfl))) hs2) hs2 rfl))
  obtain ⟨a, ns, ev, hq, hl, q⟩ := q1
  subst ev
  obtain rfl : u = Value.ref a := r1
  obtain ⟨us, rv, pl, hz⟩ := I1.list hq
  have iv : IntsAre us.toArray.toList ns := by simpa using RZ.intsAre_vals rv
  refine RQ3.set_ints ns (I1.ok.hd hc) pl.isList iv (by unfold scanBound; omega) fun hp tk c hS hcl hk => ?_
  have hn1 : H1 s1.heap.objs.size = none := I1.hok.fresh (Nat.le_refl _)
  have J : Inv X pins σ H1 { s1 with heap := hp, toks := tk } := I1.kept (t' := tk) fun b o z => hk b o z
  refine args_nil ?_
  refine sorted_set (s := { s1 with heap := hp, toks := tk }) hS (I1.ok.hd hc) (by omega) fun s' p0 out c2 ms k g o hp0 hp1 hi hs0 hm0 hl0 => ?_
  have em : ms = sortU ns := rise_eq hs0 rise_sortU fun k => by rw [hm0, mem_sortU]; exact decide_eq_true_iff
  subst em
  have hlen : ((sortU ns).map V.int).length ≤ sizeLine := by rw [List.length_map, hl0, sizeLine_eq]; omega
  have hn : H1 p0 = none := J.hok.fresh hp0
  have J2 : Inv X pins σ (upd H1 p0 (.lst ((sortU ns).map V.int))) { ({ s1 with heap := hp, toks := tk } : Shared) with heap := s'.heap, gens := s'.gens, drawn := s'.drawn, toks := s'.toks } :=
    Inv.call (s := ({ s1 with heap := hp, toks := tk } : Shared)) J (ch := []) (Un.laid k hp0 hn) (J.hok.laid k hp0 ⟨hlen, out.toList, c2, vals_of_ints hi, hp1⟩) (by rw [g]; exact J.bare) (fun _ z => nomatch z)
  have e : s' = { s1 with heap := s'.heap, gens := s'.gens, drawn := s'.drawn, toks := s'.toks } := by
    cases s'; cases s1; cases o; rfl
  rw [e]
  exact ⟨.ref p0, _, J2, rfl, q p0 hn⟩
section
variable {X : Cx} {env : Env'} {a : Expr} {p p2 pos pos2 : Pos} {xs : List Int}
/-- sorted(set(xs)), xs a list of ints -/
theorem en_sortU (hc : X.calm = true) (hm : X.mg "sorted" = none) (hm2 : X.mg "set" = none) (h : EX X a env xs) (hl : xs.length < 64) (hs : starEach [a] X.env = (false, eval a X.env) :: starEach [] X.env := by exact star_plain rfl _ _)
    (hs2 : starEach [.Call (.Name "set" p2) [a] [] pos2] X.env = (false, eval (.Call (.Name "set" p2) [a] [] pos2) X.env) :: starEach [] X.env := by exact star_plain rfl _ _) (hg : Gl X "sorted" := by rfl) (hg2 : Gl X "set" := by rfl) :
    EN X (.Call (.Name "sorted" p) [.Call (.Name "set" p2) [a] [] pos2] [] pos) env (OL.mk (sortU xs)) := by
  intro O fp σ H S Q q
  refine tE_of fun pins s I => ?_
  refine (pe_sortU hc hg hm hg2 hm2 (mE X a) hs hs2).run pins s σ H Q I ?_
  refine h O fp σ H S _ fun v H1 e1 r1 => ?_
  obtain ⟨ad, vs, rfl, t1, l1⟩ := r1
  obtain rfl := repL.ints l1
  refine ⟨ad, xs, rfl, wo_le.lst t1, hl, fun u hu => ?_⟩
  refine q (.ref u) [u] _ (e1.trans (Ex.new hu)) (fun b hb => by rw [List.mem_singleton.mp hb]; exact e1.free hu) (fun b hb => by rw [List.mem_singleton.mp hb]; exact ⟨_, upd_same⟩) fun Hf le => ⟨u, (sortU xs).map V.int, rfl, rfl, upd_same, ?_⟩
  exact ints_rep _
end
end R
set_option maxHeartbeats 400000
set_option autoImplicit false
namespace R
open PySem PySem.Spec PyProof.Rows L2
/-- nothing handed over is pinned -/
def noPinB : List Arg → Bool
  | [] => true
  | .dat _ :: r => noPinB r
  | .slot _ b :: r => !b && noPinB r
theorem no_pin : ∀ {as : List Arg}, noPinB as = true → ∀ (l i : Nat), as[l]? ≠ some (Arg.slot i true)
  | [], _, _, _, e => by simp at e
  | .dat _ :: r, h, 0, _, e => by simp at e
  | .dat _ :: r, h, l + 1, i, e => no_pin (as := r) h l i (by simpa using e)
  | .slot j b :: r, h, 0, i, e => by
    have e2 : j = i ∧ b = true := by simpa using e
    rw [e2.2] at h
    simp [noPinB] at h
  | .slot j b :: r, h, l + 1, i, e => no_pin (as := r) (by simp [noPinB] at h; exact h.2) l i (by simpa using e)
theorem repL.put {α : Type} [Dat α] {K : PySem.W.Frag} {H : Hp} {v : V} {x : α} (r : Dat.rep K H v x) : ∀ {vs : List V} {xs : List α} (n : Nat), repL K H vs xs → repL K H (vs.set n v) (xs.set n x)
  | _, _, _, .nil => .nil
  | _, _, 0, .cons _ t => .cons r t
  | _, _, n + 1, .cons h t => .cons h (repL.put r n t)
section
variable {X : Cx} {env : Env'} {a b : Expr} {pos : Pos} {x y : Bool}
/-- is, is not of bools -/
theorem ex_isB (ha : EX X a env x) (hb : EX X b env y) (hm : behindInMarks .Is b = false := by rfl) : EX X (.Compare a [.Is] [b] pos) env (decide (x = y)) := ex_cmp op_isBl ha hb (fun U v1 v2 H _ r1 r2 Q q => ⟨x, y, r1, r2, q _ H (Ex.refl H) rfl⟩) hm
theorem et_isB (ha : EX X a env x) (hb : EX X b env y) (hm : behindInMarks .Is b = false := by rfl) : ET X (.Compare a [.Is] [b] pos) env (decide (x = y)) := et_cmp op_isBl ha hb (fun U v1 v2 H _ r1 r2 Q q => ⟨x, y, r1, r2, q _ H (Ex.refl H) rfl⟩) hm
theorem ex_isNotB (ha : EX X a env x) (hb : EX X b env y) (hm : behindInMarks .IsNot b = false := by rfl) : EX X (.Compare a [.IsNot] [b] pos) env (!decide (x = y)) := ex_cmp op_notBl ha hb (fun U v1 v2 H _ r1 r2 Q q => ⟨x, y, r1, r2, q _ H (Ex.refl H) rfl⟩) hm
theorem et_isNotB (ha : EX X a env x) (hb : EX X b env y) (hm : behindInMarks .IsNot b = false := by rfl) : ET X (.Compare a [.IsNot] [b] pos) env (!decide (x = y)) := et_cmp op_notBl ha hb (fun U v1 v2 H _ r1 r2 Q q => ⟨x, y, r1, r2, q _ H (Ex.refl H) rfl⟩) hm
end
/-- xs[i] = e, xs one's own -/
theorem sx_lput {X : Cx} {W : WX} {env : Env'} {ρ α : Type} [Res ρ] [Dat α] {po : Po ρ} {x : α} {e b : Expr} {rest : List Stmt} {xs : List α} {k : Int} {i : Nat} {st : Stmt} (ps : PS X st (tAsg (tE X e) (gSub (tVar i) (tE X b) rSetL))) (hi : env[i]? = some (.own (OL.mk xs))) (he : EX X e env x) (hk : EX X b env k) (g : 0 ≤ k ∧ k < (xs.length : Int)) (h : SX X W rest (env.set i (.own (OL.mk (List.set xs (Int.toNat k) x)))) po) : SX X W (st :: rest) env po :=
  sx_step ps (fun O fp σ H S D q => he O fp σ H S _ fun v H1 e1 r1 => by
    have S1 := S.ex e1
    obtain ⟨ad, ws, h1, h2, h3, h4⟩ := S1.ol hi
    refine ⟨.ref ad, h1, hk O fp σ H1 S1 _ fun u H2 e2 r2 => ?_⟩
    have S2 := S1.ex e2
    have r2 : u = .int k := r2
    subst r2
    have hl := Paired.length h4
    refine ⟨ad, ws, k, k.toNat, rfl, rfl, e2 ad _ h3, ?_, ?_⟩
    · unfold ixN
      rw [if_pos g.1, if_pos (by omega)]
    · refine q fp σ _ ((Keep.ex (e1.trans e2)).trans (Keep.mut ⟨i, by rw [h2]; exact List.mem_singleton.mpr rfl⟩)) (S2.mut hi h2 fun v' hv' => ?_)
      rw [h1] at hv'
      cases hv'
      exact ⟨ad, _, rfl, rfl, upd_same, repL.put (Dat.mono (wo_ex e2).le r1) _ (h4.mono (wo_ex e2).le)⟩) h
end R
set_option maxHeartbeats 2000000
set_option autoImplicit false
/-! a loop over a list of one's own, which stays one's own -/
namespace R
open PySem PySem.Spec PyProof.Rows L2
/-- at turn i the item xs[i], as long as the list at v tells ys -/
def YieldsO {α γ : Type} [Dat α] [Dat γ] (K : PySem.W.Frag) (J : It) (v : V) (ys : List α) (xs : List γ) : Prop :=
  ∀ (H' : Hp) (U' : Addr → Prop) (L : List Addr), (∀ a, U' a → ∃ o, H' a = some o) → Own.own K (wo H' U') H' v L (OL.mk ys) → ∀ i, (∀ x, xs[i]? = some x → J.go i H' ∧ ∀ w H'', J.yld i H' w H'' → Ex H' H'' ∧ Dat.rep K (wo H'' U') w x) ∧ (xs.length ≤ i → J.stop i H')
def IXP {α γ : Type} [Dat α] [Dat γ] (X : Cx) (tg iter : Expr) (env : Env') (k : Nat) (v : V) (ys : List α) (xs : List γ) : Prop :=
  ∀ O fp σ H, SOk X.K O fp env σ H → ∀ R : It → Hp → Prop, (∀ J H1, Ex H H1 → YieldsO X.K J v ys xs → R J H1) → tI X tg iter σ H R
section
variable {X : Cx} {W : WX} {env env' : Env'} {ρ α β γ : Type} [Res ρ] [Dat α] [Dat β] [Dat γ] {po : Po ρ} {x : α} {y : β} {z : γ} {e a b c tg iter : Expr} {es elts : List Expr} {pos p p2 tpos : Pos} {rest body sts : List Stmt} {ys : List α} {xs : List γ} {k kk : Nat} {v : V} {n : Str}
/-- from here on it is told where it lies -/
theorem sx_pin {β' : Type} [Own β'] {x : β'} {i : Nat} (hi : env[i]? = some (.own x)) (h : ∀ v, SX X W sts (env.set i (.own (At.mk v x))) po) : SX X W sts env po := fun O fp σ H S => by
  obtain ⟨v, _, S'⟩ := S.pin hi
  exact h v O fp σ H S'
theorem ixp_list {ys : List α} (hk : env[k]? = some (.own (At.mk v (OL.mk ys)))) (hN : X.N[k]? = some n := by rfl) (hv : Vis X.env.scope n := by first | exact Or.inl rfl | exact Or.inr (Or.inl rfl) | exact Or.inr (Or.inr rfl)) (hd : (n == ("__debug__" : Str)) = false := by decide) (hc : (n == ("__classdict__" : Str)) = false := by decide) : IXP X tg (.Name n p) env k v ys ys := fun O fp σ H S R r => tI_of fun pins s I => by
  obtain ⟨u, h1, h2, ad, vs, h3, h4, h5, h6⟩ := S.sl k _ hk
  have h2 : u = v := h2
  subst h2
  refine (pi_list (pe_var hN hv hd hc)).run pins s σ H R I ⟨u, h1, ad, h3, ⟨vs, .inl (.inl h5)⟩, r _ H (Ex.refl H) fun H' U' L bn ow i => ?_⟩
  obtain ⟨ad', ws, e1, e2, e3, rl⟩ := ow
  rw [h3] at e1
  injection e1 with e1
  subst e1
  have l' : SqL X.K H' ad ws := .inl (.inl e3)
  refine ⟨fun x hx => ?_, fun hi => ⟨ws, l', by rw [Paired.length rl]; exact hi⟩⟩
  obtain ⟨w, hw, rw'⟩ := rl.get hx
  refine ⟨⟨ws, w, l', hw⟩, fun u2 H'' ⟨q1, q2⟩ => ?_⟩
  subst q1
  have := q2 ws l'
  rw [hw] at this
  cases this
  exact ⟨Ex.refl _, rw'⟩
theorem ixp_enum {ys : List α} (hk : env[k]? = some (.own (At.mk v (OL.mk ys)))) (hm : X.mg "enumerate" = none) (hg : Gl X "enumerate" := by rfl) (hs : starEach [.Name n p2] X.env = [(false, eval (.Name n p2) X.env)] := by rfl) (hN : X.N[k]? = some n := by rfl) (hv : Vis X.env.scope n := by first | exact Or.inl rfl | exact Or.inr (Or.inl rfl) | exact Or.inr (Or.inr rfl)) (hd : (n == ("__debug__" : Str)) = false := by decide) (hc : (n == ("__classdict__" : Str)) = false := by decide) :
    IXP X (.Tuple elts kk tpos) (.Call (.Name "enumerate" p) [.Name n p2] [] pos) env k v ys (enumI ys) := fun O fp σ H S R r => tI_of fun pins s I => by
  obtain ⟨u, h1, h2, ad, vs, h3, h4, h5, h6⟩ := S.sl k _ hk
  have h2 : u = v := h2
  subst h2
  refine (pi_enum hg hm (pa_cons (pe_var hN hv hd hc) pa_nil hs) hs).run pins s σ H R I ⟨u, h1, ad, vs, by rw [h3], .inl (.inl h5), r _ H (Ex.refl H) fun H' U' L bn ow i => ?_⟩
  obtain ⟨ad', ws, e1, e2, e3, rl⟩ := ow
  rw [h3] at e1
  injection e1 with e1
  subst e1
  have l' : SqL X.K H' ad ws := .inl (.inl e3)
  refine ⟨fun x hx => ?_, fun hi => ⟨ws, l', by rw [Paired.length rl]; unfold enumI at hi; simpa using hi⟩⟩
  unfold enumI at hx
  rw [List.getElem?_mapIdx] at hx
  cases hy : ys[i]? with
  | none => rw [hy] at hx; cases hx
  | some y =>
    rw [hy] at hx
    have hx : ((i : Int), y) = x := Option.some.inj hx
    subst hx
    obtain ⟨w, hw, rw'⟩ := rl.get hy
    refine ⟨⟨ws, w, l', hw⟩, fun u2 H'' ⟨T, x', q1, q2, q3, q4⟩ => ?_⟩
    subst q1 q3
    have := q4 ws l'
    rw [hw] at this
    cases this
    exact ⟨Ex.new q2, new_rep bn q2 rfl rw'⟩
theorem for_coreP {S : Type} (u : S → Env') (I : List γ → S → Prop) (M : Env' → Prop) (s0 : S) (hu : ∀ s, (u s)[k]? = some (.own (At.mk v (OL.mk ys)))) {O : Addr → Prop} {fp : Nat → List Addr} {σ : L2.St} {H : Hp} {D : Ends} (S' : SOk X.K O fp env σ H) (hi : ∀ R : It → Hp → Prop, (∀ J H1, Ex H H1 → YieldsO X.K J v ys xs → R J H1) → tI X tg iter σ H R) (h0 : Sub env (u s0)) (hI : I xs s0)
    (hb : ∀ x r s, I (x :: r) s → ∃ e1, GX X tg x (u s) e1 ∧ SX X W body e1 { po with N := fun e => ∃ s', Sub e (u s') ∧ I r s', C := fun e => ∃ s', Sub e (u s') ∧ I r s', B := M })
    (G : Goes X.K X.mg W { po with N := fun e => M e ∨ ∃ s, Sub e (u s) ∧ I [] s } O fp H D) : tFor (tI X tg iter) (tG X tg) (tSs X body) D σ H := by
  refine hi _ fun J H1 e1 yl => ?_
  refine ⟨fun i m σ' H' => ∃ s fp', m = xs.length - i ∧ i ≤ xs.length ∧ I (xs.drop i) s ∧ Keep fp H1 fp' H' ∧ SOk X.K O fp' (u s) σ' H', ⟨xs.length, s0, fp, by simp, Nat.zero_le _, hI, Keep.refl, (S'.ex e1).sub h0⟩, ?_⟩
  rintro i m σ1 H2 ⟨s, fp1, rfl, hle, Is, k1, S1⟩
  obtain ⟨v', _, hv, ow⟩ := S1.sl k _ (hu s)
  have hv : v' = v := hv
  subst hv
  obtain ⟨y1, y2⟩ := yl H2 (UU O fp1) _ S1.bndU ow i
  cases hr : xs.drop i with
  | nil =>
    have : xs.length ≤ i := by
      have := congrArg List.length hr
      simp at this
      omega
    rw [hr] at Is
    exact .inl ⟨y2 this, G.nx (u s) fp1 σ1 H2 (.inr ⟨s, Sub.refl _, Is⟩) ((Keep.ex e1).trans k1) S1⟩
  | cons x r =>
    obtain ⟨gx, gr, gl⟩ := drop_cons hr
    obtain ⟨go, yy⟩ := y1 x gx
    rw [hr] at Is
    obtain ⟨en, hg, hbd⟩ := hb x r s Is
    refine .inr ⟨go, fun σ' H' => ∃ s' fp', I r s' ∧ Keep fp H1 fp' H' ∧ SOk X.K O fp' (u s') σ' H', fun σ' H' ⟨s', fp', a, b, c⟩ => ⟨xs.length - (i + 1), by omega, s', fp', rfl, gl, by rw [gr]; exact a, b, c⟩, fun w H3 yv => ?_⟩
    obtain ⟨e3, rv⟩ := yy w H3 yv
    refine hg O fp1 σ1 H3 w (S1.ex e3) rv _ fun σ4 S4 => ?_
    have kk : Keep fp H1 fp1 H3 := k1.trans (Keep.ex e3)
    have kh : Keep fp H fp1 H3 := (Keep.ex e1).trans kk
    exact hbd O fp1 σ4 H3 S4 _ ⟨fun e f s2 h ⟨s', sb, a⟩ q S' => ⟨s', f, a, kk.trans q, S'.sub sb⟩, fun r e f s2 v h p q => G.rt r e f s2 v h p (kh.trans q), fun x e f s2 c d h p q => G.ex x e f s2 c d h p (kh.trans q), fun e f s2 h p q S' => G.nx e f s2 h (.inl p) (kh.trans q) S', fun e f s2 h ⟨s', sb, a⟩ q S' => ⟨s', f, a, kk.trans q, S'.sub sb⟩⟩
theorem sx_forP {S : Type} (u : S → Env') (I : List γ → S → Prop) (M : Env' → Prop) (s0 : S) (hu : ∀ s, (u s)[k]? = some (.own (At.mk v (OL.mk ys)))) (hc : X.calm = true) (hp : PassesOwn (model X.prog X.w) X.A X.env X.xe) (hi : IXP X tg iter env k v ys xs) (h0 : Sub env (u s0)) (hI : I xs s0)
    (hb : ∀ x r s, I (x :: r) s → ∃ e1, GX X tg x (u s) e1 ∧ SX X W body e1 { po with N := fun e => ∃ s', Sub e (u s') ∧ I r s', C := fun e => ∃ s', Sub e (u s') ∧ I r s', B := M })
    (hd : ∀ s, I [] s → SX X W rest (u s) po) (hM : ∀ e, M e → SX X W rest e po) (hs : ∀ x, foldedSetIterable iter X.env x = pure x := by intro _; rfl) : SX X W (.For tg iter body [] pos :: rest) env po :=
  sx_cons (fun e => M e ∨ ∃ s, Sub e (u s) ∧ I [] s) (s1_of (ps_for hp hc (mI X tg iter) (mG X tg) (mSs X body) hs) fun O fp σ H S' D G => for_coreP u I M s0 hu S' (hi O fp σ H S') h0 hI hb G) fun e h => by
  rcases h with h | ⟨s, h, q⟩
  · exact hM e h
  · exact sx_sub h (hd s q)
theorem sx_forPF' {S : Type} (uu : S → Env' → Env') (step : S → γ → S) (okb : S → γ → Prop) (s0 : S) (hu : ∀ s, (uu s env)[k]? = some (.own (At.mk v (OL.mk ys)))) (hc : X.calm = true) (hp : PassesOwn (model X.prog X.w) X.A X.env X.xe) (hi : IXP X tg iter env k v ys xs) (h0 : Sub env (uu s0 env)) (hk : okFold okb step s0 xs)
    (hb : ∀ x s, okb s x → ∃ e1, GX X tg x (uu s env) e1 ∧ SX X W body e1 { po with N := fun e => Sub e (uu (step s x) env), C := fun e => Sub e (uu (step s x) env), B := fun _ => False })
    (hd : SX X W rest (uu (xs.foldl step s0) env) po) (hs : ∀ x, foldedSetIterable iter X.env x = pure x := by intro _; rfl) : SX X W (.For tg iter body [] pos :: rest) env po :=
  sx_forP (fun s => uu s env) (fun r s => okFold okb step s r ∧ r.foldl step s = xs.foldl step s0) (fun _ => False) s0 hu hc hp hi h0 ⟨hk, rfl⟩ (fun x r s ⟨⟨h1, h2⟩, h3⟩ => by
    obtain ⟨e1, g, b⟩ := hb x s h1
    exact ⟨e1, g, b.imp (fun e h => ⟨step s x, h, h2, h3⟩) (fun _ _ h => h) (fun _ _ h => h) (fun _ h => h) (fun e h => ⟨step s x, h, h2, h3⟩)⟩) (fun s ⟨_, h⟩ => by
    have h : s = xs.foldl step s0 := h
    subst h
    exact hd) (fun _ h => h.elim) hs
theorem sx_forPR' {S T : Type} (uu : S → Env' → Env') (step : S → γ → Stp S T) (okb : S → γ → Prop) (s0 : S) (hu : ∀ s, (uu s env)[k]? = some (.own (At.mk v (OL.mk ys)))) (hc : X.calm = true) (hp : PassesOwn (model X.prog X.w) X.A X.env X.xe) (hi : IXP X tg iter env k v ys xs) (h0 : Sub env (uu s0 env)) (hk : okRun okb step s0 xs)
    (hb : ∀ x r s, okb s x → (runL step s (x :: r) = runL step s0 xs) → ∃ e1, GX X tg x (uu s env) e1 ∧ SX X W body e1 { po with N := fun e => ∃ s', step s x = .go s' ∧ Sub e (uu s' env), C := fun e => ∃ s', step s x = .go s' ∧ Sub e (uu s' env), B := fun e => ∃ s', step s x = .brk s' ∧ Sub e (uu s' env) })
    (hd : ∀ s, (runL step s0 xs = .go s ∨ runL step s0 xs = .brk s) → SX X W rest (uu s env) po) (hs : ∀ x, foldedSetIterable iter X.env x = pure x := by intro _; rfl) : SX X W (.For tg iter body [] pos :: rest) env po :=
  sx_forP (fun s => uu s env) (fun r s => okRun okb step s r ∧ runL step s r = runL step s0 xs) (fun e => ∃ s, Sub e (uu s env) ∧ runL step s0 xs = .brk s) s0 hu hc hp hi h0 ⟨hk, rfl⟩ (fun x r s ⟨⟨h1, h2⟩, h3⟩ => by
    obtain ⟨e1, g, b⟩ := hb x r s h1 h3
    have go : ∀ e, (∃ s', step s x = .go s' ∧ Sub e (uu s' env)) → ∃ s', Sub e (uu s' env) ∧ okRun okb step s' r ∧ runL step s' r = runL step s0 xs := fun e ⟨s', q, sb⟩ => by
      rw [q] at h2
      have h4 : runL step s (x :: r) = runL step s' r := by
        show (match step s x with | .go s' => runL step s' r | .brk s' => .brk s' | .ret r => .ret r) = _
        rw [q]
      exact ⟨s', sb, h2, h4.symm.trans h3⟩
    refine ⟨e1, g, b.imp go (fun _ _ h => h) (fun _ _ h => h) (fun e ⟨s', q, sb⟩ => ⟨s', sb, ?_⟩) go⟩
    rw [← h3]
    show (match step s x with | .go s' => runL step s' r | .brk s' => .brk s' | .ret r => .ret r) = _
    rw [q]) (fun s ⟨_, h⟩ => hd s (.inl h.symm)) (fun e ⟨s, sb, q⟩ => sx_sub sb (hd s (.inr q))) hs
end
end R
set_option maxHeartbeats 1000000
set_option autoImplicit false
/-! isinstance(e, (A, B)) of the exception that a suite holds; int of a bool -/
namespace R
open PySem PySem.Spec PyProof.Rows L2
def rIsE2 (K : PySem.W.Frag) (D a : Addr) : List V → Hp → VK → Prop := fun xs H Q => ∃ (tp c1 c2 : Addr) (b : Bool), xs = [V.ref a, V.ref tp] ∧ H tp = some (.tup [.ref c1, .ref c2]) ∧ PySem.W.kitAny K (.ref D) [.ref c1, .ref c2] = some b ∧ Q (.bl b) H
theorem call_isE2 {X : Cx} {a D : Addr} {oe : Obj} {pn : List (Addr × Obj)} (C : ExcC X.K D) (hz : Zc (.ref D) none oe) (hf : ∃ vs, oe.data = .fields vs) : CallR (X.suite a ((a, oe) :: pn)) (.builtin "isinstance") (rIsE2 X.K D a) := by
  intro pins s σ H xs us Q I r h
  obtain ⟨tp, c1, c2, b, rfl, hT, e, q⟩ := h
  obtain ⟨u1, u2, rfl, r1, r2⟩ := vals2 r
  cases (show u1 = Value.ref a from r1)
  cases (show u2 = Value.ref tp from r2)
  obtain ⟨hget, _⟩ := I.pin (a, oe) (List.mem_append.mpr (.inl List.mem_cons_self))
  obtain ⟨ws, hv⟩ := hf
  have J : PySem.W.InstAt s.heap a oe D none := by
    obtain ⟨oc, od, oda, osl⟩ := oe
    obtain ⟨h1, h2⟩ := hz
    dsimp only at h1 h2 hv
    subst h1 h2 hv
    exact ⟨hget, rfl, rfl, trivial⟩
  obtain ⟨_, its, rv, o, h1, h2, n, h3⟩ := (show ObjOk X.prog X.w H s.heap tp (.tup [.ref c1, .ref c2]) from I.hok tp _ hT)
  cases rv with
  | cons ra rr =>
    cases rr with
    | cons rb rr =>
      cases rr
      cases (show _ = Value.ref c1 from ra)
      cases (show _ = Value.ref c2 from rb)
      obtain ⟨oc, od, dt, sl⟩ := o
      simp only at h2 h3
      subst h2 h3
      exact PySem.W.kia_tup (PySem.W.handS_kitx_exc C.hg C.hk C.hs C.hd C.ha C.hn C.ht C.hm) I.kIn J h1 e (fun z => nomatch z) fun tk => ⟨.bl b, H, I.kept (t' := tk) fun _ _ z => z, rfl, q⟩
section
variable {X : Cx} {W : WX} {env env' : Env'} {ρ α β γ : Type} [Res ρ] [Dat α] [Dat β] [Dat γ] {po : Po ρ} {x : α} {y : β} {z : γ} {e a b c : Expr} {es elts : List Expr} {pos p p2 pc pc2 pt p3 : Pos} {rest body : List Stmt}
theorem ex_isE2 {i j : Nat} {v c c2 : Str} {all s1 s2 : List Str} {e : Exn} {ad : Addr} {oe : Obj} {cls : Value} {d : Option Addr} {pn : List (Addr × Obj)} {Hf : Hp} (I : IsC X.K X.mg all s1 c) (I2 : IsC X.K X.mg all s2 c2) (hi : X.mg "isinstance" = none) (hall : exnIn all e = true) (h1 : ∃ n, e = .one n) (hz : Zc cls d oe) (hfd : ∃ vs, oe.data = .fields vs) (xa : ExAt X.mg X.K Hf e cls d) (hv : env[i]? = some (.dat (ExV.mk ad)))
    (hN : (X.suite ad ((ad, oe) :: pn)).N[i]? = some v := by rfl) (hvis : Vis (X.suite ad ((ad, oe) :: pn)).env.scope v := by first | exact Or.inl rfl | exact Or.inr (Or.inl rfl) | exact Or.inr (Or.inr rfl)) (hd : (v == ("__debug__" : Str)) = false := by decide) (hc : (v == ("__classdict__" : Str)) = false := by decide)
    (hg : Gl (X.suite ad ((ad, oe) :: pn)) "isinstance" := by rfl) (hgc : Gl (X.suite ad ((ad, oe) :: pn)) c := by rfl) (hgc2 : Gl (X.suite ad ((ad, oe) :: pn)) c2 := by rfl) (hdc : (c == ("__debug__" : Str)) = false := by decide) (hdc2 : (c2 == ("__debug__" : Str)) = false := by decide)
    (he : starEach [.Name v p, .Tuple [.Name c pc, .Name c2 pc2] j pt] (X.suite ad ((ad, oe) :: pn)).env = (false, eval (.Name v p) (X.suite ad ((ad, oe) :: pn)).env) :: starEach [.Tuple [.Name c pc, .Name c2 pc2] j pt] (X.suite ad ((ad, oe) :: pn)).env := by rfl) (he2 : starEach [.Tuple [.Name c pc, .Name c2 pc2] j pt] (X.suite ad ((ad, oe) :: pn)).env = (false, eval (.Tuple [.Name c pc, .Name c2 pc2] j pt) (X.suite ad ((ad, oe) :: pn)).env) :: starEach [] (X.suite ad ((ad, oe) :: pn)).env := by rfl)
    (he3 : starEach [.Name c pc, .Name c2 pc2] (X.suite ad ((ad, oe) :: pn)).env = (false, eval (.Name c pc) (X.suite ad ((ad, oe) :: pn)).env) :: starEach [.Name c2 pc2] (X.suite ad ((ad, oe) :: pn)).env := by rfl) (he4 : starEach [.Name c2 pc2] (X.suite ad ((ad, oe) :: pn)).env = (false, eval (.Name c2 pc2) (X.suite ad ((ad, oe) :: pn)).env) :: starEach [] (X.suite ad ((ad, oe) :: pn)).env := by rfl)
    (hpl : (backTo pos (starEach [.Tuple [.Name c pc, .Name c2 pc2] j pt] (X.suite ad ((ad, oe) :: pn)).env)).any (·.1) = false := by exact star_pl rfl) :
    EX (X.suite ad ((ad, oe) :: pn)) (.Call (.Name "isinstance" p2) [.Name v p, .Tuple [.Name c pc, .Name c2 pc2] j pt] [] pos) env (exnIn s1 e || exnIn s2 e) := by
  obtain ⟨n, rfl⟩ := h1
  obtain ⟨Cv, hm, tb⟩ := I.ex
  obtain ⟨Cv2, hm2, tb2⟩ := I2.ex
  have hn : n ∈ all := List.contains_iff_mem.mp hall
  obtain ⟨D, q1, q2, q3⟩ := tb n hn
  obtain ⟨D2, q4, q5, q6⟩ := tb2 n hn
  rw [q1] at q4
  cases q4
  obtain ⟨x1, x2⟩ := xa
  rw [q1] at x1
  cases x1
  subst x2
  have kt : PySem.W.kitAny X.K (.ref D) [.ref Cv, .ref Cv2] = some (s1.contains n || s2.contains n) := kitAny_cons q3 (fun hb => by
    rw [hb]
    exact kitAny_cons q6 (fun hb2 => by rw [hb2]; exact kitAny_nil) (fun hb2 => by rw [hb2]; rfl)) (fun hb => by rw [hb]; rfl)
  exact ex_of (pe_callB (call_isE2 q2 hz hfd) hg hi (by decide +kernel) (pa_cons (pe_var hN hvis hd hc) (pa_cons (pe_tup (pa_cons (pe_glob (v := .ref Cv) hgc hm rfl hdc) (pa_cons (pe_glob (v := .ref Cv2) hgc2 hm2 rfl hdc2) pa_nil he4) he3)) pa_nil he2) he) (by decide) (by decide) he hpl) fun O fp σ H S Q q => by
    obtain ⟨v1, w1, w2⟩ := S.sl i _ hv
    have w2 : v1 = .ref ad := w2
    subst w2
    exact ⟨.ref ad, w1, show 2 ≤ sizeLine from by decide, fun u hu => ⟨u, Cv, Cv2, s1.contains n || s2.contains n, rfl, upd_same, kt, q _ _ (Ex.new hu) rfl⟩⟩
/-- int of a bool -/
def intB (k : Bool) : Int := cond k 1 0
theorem ex_intB {k : Bool} (hm : X.mg "int" = none) (h : EX X a env k) (he : starEach [a] X.env = (false, eval a X.env) :: starEach [] X.env := by exact star_plain rfl _ _) (hpl : (backTo pos (starEach [] X.env)).any (·.1) = false := by exact star_pl rfl) (hg : Gl X "int" := by rfl) : EX X (.Call (.Name "int" p) [a] [] pos) env (intB k) :=
  ex_of (pe_callTy call_int1 hg hm (by decide +kernel : bootBuiltins "int" = some (.type "int")) (pa_cons (mE X a) pa_nil he) (by decide) (by decide) he hpl) fun O fp σ H S Q q => h O fp σ H S _ fun v H1 e1 r1 => .inr ⟨k, by rw [show v = .bl k from r1], q _ H1 e1 (by cases k <;> rfl)⟩
end
end R
set_option maxHeartbeats 1000000
set_option autoImplicit false
/-! except C as e, without a way out -/
namespace R
open PySem PySem.Spec PyProof.Rows L2
section
variable {X : Cx} {W : WX} {env env' : Env'} {ρ : Type} [Res ρ] {po : Po ρ} {pos : Pos} {rest body : List Stmt}
theorem tryV_map {S T : Type} {m : Except Exn S} {h : Exn → S} : tryV (m.map (Stp.go (ρ := T))) (fun e => Stp.go (h e)) = Stp.go (tryV m h) := by cases m <;> rfl
theorem map_err {S S' : Type} {m : Except Exn S} {f : S → S'} {e : Exn} : m.map f = .error e ↔ m = .error e := by
  cases m with
  | error e' => exact ⟨(fun h => by cases h; rfl), (fun h => by cases h; rfl)⟩
  | ok s => exact ⟨(fun h => by cases h), (fun h => by cases h)⟩
theorem sx_tryA' {S : Type} {i : Nat} {x v : Str} {np ps' : Pos} {b0 : Stmt} {suite : List Stmt} {all some' : List Str} (uu : S → Env' → Env') (m : Except Exn S) (h : Exn → S) (hN : X.N.Nodup) (hs : X.stack = X.env :: X.outer) (hf : X.env.frame = some X.env.locals) (cc : CatC X.K X.mg all some' x) (tk : Takes X W)
    (hv : ∀ e, m = .error e → exnIn all e = true ∧ exnIn some' e = true)
    (hb : ∀ (W' : WX) (pn : List (Addr × Obj)) (xe : Value → Shared → Prop), Takes (X.tr pn xe) W' → PassesOwn (model X.prog X.w) X.A X.env xe → SX (X.tr pn xe) W' body env { po with N := fun e => ∃ s, m = .ok s ∧ Sub e (uu s env), X := fun e env' => m = .error e ∧ env' = env })
    (hsu : ∀ e, m = .error e → ∀ (ad : Addr) (oe : Obj) (cls : Value) (d : Option Addr) (pn : List (Addr × Obj)) (Hf : Hp), Zc cls d oe → (∃ vs, oe.data = .fields vs) → ExAt X.mg X.K Hf e cls d → SX (X.suite ad ((ad, oe) :: pn)) W (b0 :: suite) (env.set i (.dat (ExV.mk ad))) { po with N := fun e' => Sub (e'.set i .any) (uu (h e) env), R := fun r e' => po.R r (e'.set i .any), B := fun e' => po.B (e'.set i .any), C := fun e' => po.C (e'.set i .any), X := fun _ _ => False })
    (hR : ∀ r e e', po.R r e → po.R r e') (hr : SX X W rest (uu (tryV m h) env) po) (hi : X.N[i]? = some v := by rfl) (hl : X.env.kindOf v = some .local := by rfl) (hg : Gl X x := by rfl) (hdb : (x == ("__debug__" : Str)) = false := by decide) : SX X W (.Try body [.ExceptHandler (some (.Name x np)) (some v) (b0 :: suite) ps'] [] [] pos :: rest) env po := by
  refine sx_tryA (T := Unit) (i := i) (all := all) (some' := some') uu (m.map Stp.go) (fun e => Stp.go (h e)) hN hs hf cc tk (fun e he => hv e (map_err.mp he)) (fun W' pn xe t q => (hb W' pn xe t q).imp (fun e ⟨s, h1, h2⟩ => ⟨s, by rw [h1]; rfl, h2⟩) (fun _ _ h => h) (fun e env' ⟨h1, h2⟩ => ⟨map_err.mpr h1, h2⟩) (fun _ h => h) (fun _ h => h))
    (fun e he ad oe cls d pn Hf hz hfd xa => ?_) hR (fun s hgo => ?_) hi hl hg hdb
  · have he := map_err.mp he
    refine (hsu e he ad oe cls d pn Hf hz hfd xa).imp (fun e' h' => ⟨h e, ?_, h'⟩) (fun _ _ h => h) (fun _ _ h => h) (fun _ h => h) (fun _ h => h)
    rw [tryV_map, tryV_err he]
  · rw [tryV_map] at hgo
    cases hgo
    exact hr
end
end R
set_option maxHeartbeats 1000000
set_option autoImplicit false
/-! enumerate(d), d a dict -/
namespace PySem
section
variable {pg : Program} {wd : World} {K : Type} [DecidableEq K] {knd : KeyKind pg wd K} {Z : Around} {E : Value → Shared → Prop} {st : Shared}
theorem rq_nextOf_keys {it0 dd : Addr} {i ep : Nat} {kvs : List (K × Value)} {k : K} {v : Value} {Q : Value → Shared → Prop} (ij : st.heap.IsKeyIter it0 dd i kvs.length ep)
    (dm : st.heap.DictAt knd dd kvs ep) (gx : kvs[i]? = some (k, v)) (fin : ∀ key h', knd.is k key = true → h'.IsKeyIter it0 dd (i + 1) kvs.length ep → Heap.SameBut it0 st.heap h' → Q key { st with heap := h' }) :
    wpAny (model pg wd) Z (Builtin.SmallTypes.nextOf (.ref it0)) Q E st := by
  obtain ⟨o, oo, oc, od1⟩ := id ij
  obtain ⟨od, es, at1, cd1, dd1, kk, pp, nn⟩ := id dm
  unfold Builtin.SmallTypes.nextOf
  refine wpAny_bind (wpAny_callSpecial?_slot (name := Str.ofString "__next__") ij.typeIs F.slot_dict_keyiterator_next (wpAny_call_entry F.slot_dict_keyiterator_next ij.typeIs F.entry_dict_keyiterator_next ?_ (F.args_dict_keyiterator_next_1 _)))
  refine wpAny_bind (wpAny_pure ?_)
  refine wpAny_bind ?_
  refine wpAny_bind ?_
  first | refine wpAny_bind (wpAny_typeNameOfWhole_keyiter ij.typeIs (wpAny_pure ?_)) | refine wpAny_bind (wpAny_typeNameOf_keyiter ij.typeIs (wpAny_pure ?_))
  refine wpAny_bind (wpAny_fieldsOf oo od1 ?_)
  have own0 : Builtin.Dict_items.ownsTuple "dict_keyiterator" = false := by decide
  simp only [own0, Bool.false_eq_true, if_false]
  show wpAny _ _ (if (Value.ref dd == Value.none) = true then _ else _) _ _ st
  rw [if_neg (show ¬ ((Value.ref dd == Value.none) = true) from Bool.false_ne_true)]
  refine wpAny_bind (wpAny_pure ?_)
  refine wpAny_bind (wpAny_dictEntries at1 dd1 ?_)
  have sz1 : es.size = kvs.length := by rw [← pp.length]; simp
  rw [if_neg (by rw [sz1]; simp)]
  refine wpAny_bind (wpAny_pure ?_)
  refine wpAny_bind (wpAny_dictEpoch at1 dd1 ?_)
  rw [if_neg (by simp)]
  refine wpAny_pure ?_
  have lt1 : i < kvs.length := by
    rcases Nat.lt_or_ge i kvs.length with h | h
    · exact h
    · simp [List.getElem?_eq_none h] at gx
  have lt2 : i < es.size := by rw [sz1]; exact lt1
  have key1 : knd.is k es[i].key = true := (pp.get? (e := es[i]) (by simp [lt2]) gx).1
  simp only [show ¬ ((i : Int) < 0) from by omega, if_false, Int.toNat_natCast, Array.getElem?_eq_getElem lt2]
  refine wpAny_bind ?_
  first | refine wpAny_bind (wpAny_typeNameOfWhole_keyiter ij.typeIs (wpAny_pure ?_)) | refine wpAny_bind (wpAny_typeNameOf_keyiter ij.typeIs (wpAny_pure ?_))
  refine wpAny_bind (wpAny_isOneOf_keyiter ij.typeIs ?_)
  show wpAny _ _ (setField (.ref it0) 1 (rawInt ((i : Int) + 1)) >>= _) _ _ st
  refine wpAny_bind (wpAny_setField oo od1 (by simp) ?_)
  have ij2 : (st.heap.update it0 (Obj.mapFields (·.setIfInBounds 1 (rawInt ((i : Int) + 1))))).IsKeyIter it0 dd (i + 1) kvs.length ep :=
    ⟨_, Heap.get?_update_self _ oo (Obj.isFreed_of_fields (Obj.data_mapFields od1 _)), (Obj.cls_mapFields ..).trans oc, by rw [Obj.data_mapFields od1]; simp [rawInt]⟩
  refine wpAny_bind (wpAny_holding ?_)
  refine wpAny_bind (wpAny_isOneOf_keyiter (s := { st with heap := st.heap.update it0 (Obj.mapFields (·.setIfInBounds 1 (rawInt ((i : Int) + 1)))) }) ij2.typeIs ?_)
  show wpAny _ _ (pure es[i].key) _ _ _
  exact wpAny_pure (wpAny_pure ⟨_, rfl, wpAny_pure (fin _ _ key1 ij2 (Heap.SameBut.update ..))⟩)
theorem rq_nextOf_keysEnd {it0 dd : Addr} {i ep : Nat} {kvs : List (K × Value)} {Q : Value → Shared → Prop} (noh : Z.handled = none) (ij : st.heap.IsKeyIter it0 dd i kvs.length ep)
    (dm : st.heap.DictAt knd dd kvs ep) (gx : kvs[i]? = none) (fin : ∀ h' e, Heap.ExtBut it0 st.heap h' → (∃ o, h'.get? e = some o ∧ o.cls = .type "StopIteration") → E (.ref e) { st with heap := h' }) :
    wpAny (model pg wd) Z (Builtin.SmallTypes.nextOf (.ref it0)) Q E st := by
  obtain ⟨o, oo, oc, od1⟩ := id ij
  obtain ⟨od, es, at1, cd1, dd1, kk, pp, nn⟩ := id dm
  unfold Builtin.SmallTypes.nextOf
  refine wpAny_bind (wpAny_callSpecial?_slot (name := Str.ofString "__next__") ij.typeIs F.slot_dict_keyiterator_next (wpAny_call_entry F.slot_dict_keyiterator_next ij.typeIs F.entry_dict_keyiterator_next ?_ (F.args_dict_keyiterator_next_1 _)))
  refine wpAny_bind (wpAny_pure ?_)
  refine wpAny_bind ?_
  refine wpAny_bind ?_
  first | refine wpAny_bind (wpAny_typeNameOfWhole_keyiter ij.typeIs (wpAny_pure ?_)) | refine wpAny_bind (wpAny_typeNameOf_keyiter ij.typeIs (wpAny_pure ?_))
  refine wpAny_bind (wpAny_fieldsOf oo od1 ?_)
  have own0 : Builtin.Dict_items.ownsTuple "dict_keyiterator" = false := by decide
  simp only [own0, Bool.false_eq_true, if_false]
  show wpAny _ _ (if (Value.ref dd == Value.none) = true then _ else _) _ _ st
  rw [if_neg (show ¬ ((Value.ref dd == Value.none) = true) from Bool.false_ne_true)]
  refine wpAny_bind (wpAny_pure ?_)
  refine wpAny_bind (wpAny_dictEntries at1 dd1 ?_)
  have sz1 : es.size = kvs.length := by rw [← pp.length]; simp
  rw [if_neg (by rw [sz1]; simp)]
  refine wpAny_bind (wpAny_pure ?_)
  refine wpAny_bind (wpAny_dictEpoch at1 dd1 ?_)
  rw [if_neg (by simp)]
  refine wpAny_pure ?_
  have ge1 : es.size ≤ i := by rw [sz1]; simpa using gx
  simp only [show ¬ ((i : Int) < 0) from by omega, if_false, Int.toNat_natCast, Array.getElem?_eq_none ge1]
  refine wpAny_bind ?_
  first | refine wpAny_bind (wpAny_typeNameOfWhole_keyiter ij.typeIs (wpAny_pure ?_)) | refine wpAny_bind (wpAny_typeNameOf_keyiter ij.typeIs (wpAny_pure ?_))
  show wpAny _ _ (setField (.ref it0) 0 .none >>= _) _ _ st
  refine wpAny_bind (wpAny_setField oo od1 (by simp) ?_)
  show wpAny _ _ (newExc (.type "StopIteration") [] >>= _) _ _ _
  refine wpAny_bind ?_
  simp only [newExc, newTuple]
  refine wpAny_bind (wpAny_newObj_type ?_ (by size_fits))
  refine wpAny_bind (m := firstArgMember _ _) (wpAny_of_eq (a := Value.none) (by first | rfl | (simp only [firstArgMember]; rfl)) ?_)
  refine wpAny_newObj_type ?_ (by size_fits)
  simp only [raiseNew]
  refine wpAny_bind (wpAny_handled ?_)
  first | rw [show Z.in1.handled = none from noh] | rw [noh]
  refine wpAny_bind (wpAny_pure (wpAny_throw ?_))
  exact fin _ _ (((Heap.SameBut.update ..).extBut.push _).push _) ⟨_, Heap.get?_push_size _ rfl, rfl⟩
/-- the keys of a dict, drawn -/
theorem rq_drawsK (noh : Z.handled = none) {it0 dd : Addr} {ep : Nat} {kvs : List (K × Value)} (ne : dd ≠ it0) :
    Draws pg wd Z it0 [it0, dd] kvs.length (fun i x => ∃ k v, kvs[i]? = some (k, v) ∧ knd.is k x = true) (fun i h => h.IsKeyIter it0 dd i kvs.length ep ∧ h.DictAt knd dd kvs ep) where
  live := fun i h ⟨⟨o, a, _⟩, _⟩ => ⟨o, a⟩
  frame := fun i h h' ⟨⟨o, a, b⟩, ⟨o2, es, a2, b2⟩⟩ k => ⟨⟨o, k _ (by simp) _ a, b⟩, ⟨o2, es, k _ (by simp) _ a2, b2⟩⟩
  item := fun i s Q E hi ⟨h1, h2⟩ hQ => by
    obtain ⟨⟨k, v⟩, gx⟩ : ∃ p, kvs[i]? = some p := ⟨kvs[i], List.getElem?_eq_getElem hi⟩
    exact rq_nextOf_keys h1 h2 gx fun key h' q1 q2 sb => hQ key h' s.toks ⟨k, v, gx, q1⟩ ⟨q2, h2.extBut sb.extBut ne⟩ sb
  done := fun s Q E ⟨h1, h2⟩ hE => rq_nextOf_keysEnd noh h1 h2 (List.getElem?_eq_none (Nat.le_refl _)) fun h' e a b => hE h' e a b
end
set_option maxHeartbeats 1000000 in
theorem rq_meets_enum1 {v : Value} {o : Obj} {H : Heap → Prop} (B : Begins v o H) :
    Meets (Builtin.«enumerate.__new__» ⟨[.type "enumerate", v], []⟩) (fun _ R st => H st.heap ∧
      R (.ok (.ret (.ref (st.heap.push o).objs.size))) { st with heap := (st.heap.push o).push { cls := .type "enumerate", data := .fields #[.none, .bool false, .ref st.heap.objs.size, rawInt 0, .none, .none] } }) :=
  .of_wp fun pg wd Z R st h => by
    obtain ⟨hp, gn, dr, tk, os⟩ := st; obtain ⟨h1, h⟩ := h
    have sub0 := sub_enumerate
    have it1 : ∀ {A' : Around} {E : Value → Shared → Prop} {Q : Value → Shared → Prop}, Q (.ref hp.objs.size) ⟨hp.push o, gn, dr, tk, os⟩ → wpAny (model pg wd) A' (pyIter v) Q E ⟨hp, gn, dr, tk, os⟩ :=
      fun q => B.iter pg wd _ _ ⟨hp, gn, dr, tk, os⟩ _ h1 q
    wp_walk using it1
    refine wpAny_stack_any fun st => wpAny_pure ?_
    split
    · rename_i c _ _ _ _ _
      cases (c == Value.type "enumerate")
      · wp_walk using it1
        exact ⟨_, rfl, h⟩
      · wp_walk using it1
        exact ⟨_, rfl, h⟩
    · wp_walk using it1
      exact ⟨_, rfl, h⟩
section
variable {pg : Program} {wd : World} {Z : Around} {E : Value → Shared → Prop} {st : Shared}
theorem rq_enum1 {v : Value} {o : Obj} {H : Heap → Prop} {Q : Value → Shared → Prop} (B : Begins v o H) (h1 : H st.heap)
    (fin : ∀ h', IsEnum h' (st.heap.objs.size + 1) st.heap.objs.size 0 .none → h'.get? st.heap.objs.size = some o → (∀ b o, st.heap.get? b = some o → h'.get? b = some o) → Q (.ref (st.heap.objs.size + 1)) { st with heap := h' }) :
    wpAny (model pg wd) Z (call (.type "enumerate") [v]) Q E st := by
  refine callType_new F.called_enumerate (by decide) (F.typeCall_enumerate_1 _) (F.newCall_enumerate_1 _) (fun obj => F.args_object_init_2 obj _) F.entry_enumerate_new (rq_meets_enum1 B) ⟨h1, ?_⟩
  have sz : (st.heap.push o).objs.size = st.heap.objs.size + 1 := Heap.size_push ..
  show _ ∧ _
  rw [sz]
  have e0 : IsEnum ((st.heap.push o).push { cls := .type "enumerate", data := .fields #[.none, .bool false, .ref st.heap.objs.size, rawInt 0, .none, .none] }) (st.heap.objs.size + 1) st.heap.objs.size 0 .none := by
    have := Heap.get?_push_size (st.heap.push o) (o := { cls := .type "enumerate", data := .fields #[.none, .bool false, .ref st.heap.objs.size, rawInt 0, .none, .none] }) rfl
    rw [sz] at this; exact this
  exact ⟨⟨_, e0, rfl⟩, fin _ e0 (Heap.get?_push_of_some _ (Heap.get?_push_size _ B.free)) fun b ob x => Heap.get?_push_of_some _ (Heap.get?_push_of_some _ x)⟩
theorem rq_enum_end {K : Type} [DecidableEq K] {knd : KeyKind pg wd K} {e it0 dd : Addr} {i ep : Nat} {c : Int} {old : Value} {kvs : List (K × Value)} {Q : Option Value → Shared → Prop} (noh : Z.handled = none) (en : IsEnum st.heap e it0 c old) (ij : st.heap.IsKeyIter it0 dd i kvs.length ep)
    (dm : st.heap.DictAt knd dd kvs ep) (gx : kvs[i]? = none) (fin : ∀ h', Heap.ExtBut it0 st.heap h' → Q none { st with heap := h' }) : wpAny (model pg wd) Z (pyNext (.ref e)) Q E st := by
  have ty : st.TypeIs (.ref e) "enumerate" := ⟨_, en, rfl⟩
  unfold pyNext
  refine wpAny_bind (wpAny_attempt (wpAny_callSpecial?_slot (name := Str.ofString "__next__") ty F.slot_enumerate_next (wpAny_call_entry F.slot_enumerate_next ty F.entry_enumerate_next ?_ (F.args_enumerate_next_1 _))))
  show wpAny _ _ (field (.ref e) 2 >>= _) _ _ _
  refine wpAny_bind (wpAny_field en rfl (x := .ref it0) rfl ?_)
  refine wpAny_bind (rq_nextOf_keysEnd (by simpa using noh) ij dm gx fun h' x e2 ⟨o, o1, o2⟩ => ?_)
  exact wpAny_bind (wpAny_isInstance (T := "StopIteration") (b := true) ⟨o, o1, o2⟩ isSubtype_stop (wpAny_pure (fin _ e2)))
end
end PySem
namespace R
open PySem PySem.Spec PyProof.Rows L2
theorem begins_dict {d : Addr} {o : Obj} {es : Array DictEntry} {ep : Nat} (hs : (d == sysModules) = false) (hx : o.ExactDict) (hd : o.data = .dict es ep) : Begins (.ref d) { cls := .type "dict_keyiterator", data := .fields #[.ref d, .int 0 0, .int es.size 0, .int ep 0] } fun h => h.get? d = some o where
  iter := fun pg wd Z E st Q ho q => iter_keys hs ho hx hd q
  keeps := fun h h' x k => k _ _ x
  free := rfl
/-- the keys of a locked dict, each in a new pair with its number -/
def Itke (d : Addr) (o : Obj) (kvs : List (Key × V)) : It :=
  ⟨fun i H => H d = some (.frz o (.dK kvs)) ∧ i < kvs.length, fun i H x H' => ∃ (T : Addr) (k : Key) (v : V), x = .ref T ∧ H T = none ∧ H' = upd H T (.tup [.int (i : Nat), kV k]) ∧ kvs[i]? = some (k, v), fun i H => H d = some (.frz o (.dK kvs)) ∧ kvs.length ≤ i⟩
theorem turn_enumK {P : Program} {w : World} {K : PySem.W.Frag} {elts : List Expr} {kk : Nat} {tpos : Pos} {d e it : Addr} {o : Obj} {kvs : List (Key × V)} {es : Array DictEntry} {ep : Nat} (od : o.data = .dict es ep) (ne2 : d ≠ it) :
    Turn P w K (.Tuple elts kk tpos) (Itke d o kvs) [e, it] e (fun i h => (∃ old, IsEnum h e it ((i : Nat) : Int) old) ∧ h.IsKeyIter it d i kvs.length ep ∧ e ≠ it) where
  mem := by simp
  obj := fun i h st b hb => by
    obtain ⟨⟨old, he⟩, ⟨oi, ho, _, hd⟩, _⟩ := st
    rcases (by simpa using hb : b = e ∨ b = it) with z | z
    · rw [z]; exact ⟨_, he, fun v q => nomatch q⟩
    · rw [z]; exact ⟨oi, ho, fun v q => by rw [hd] at q; cases q⟩
  keep := fun i h h' st k => ⟨st.1.imp fun old he => k e (by simp) _ he, st.2.1.at fun oi q => k it (by simp) oi q, st.2.2⟩
  item := by
    intro X hP hw hK hc i pins s σ H E I hf st hg
    subst hP hw hK
    obtain ⟨⟨old, he⟩, hit, hne⟩ := st
    obtain ⟨hd, hi⟩ := hg
    obtain ⟨hs, hgd, hx, es', ep', vs, hdt, hsz, kv, hm⟩ := I.frzK hd
    obtain ⟨rfl, rfl⟩ := dict_ep od hdt
    obtain ⟨⟨k, v⟩, hkv⟩ : ∃ p, kvs[i]? = some p := ⟨kvs[i], List.getElem?_eq_getElem hi⟩
    have hl : kvs.length = vs.length := Paired.length kv
    have hed : e ≠ d := fun z => by have q := (hf e (by simp)).1; rw [z, hd] at q; cases q
    have e_lt : e < s.heap.objs.size := Heap.lt_size he
    have i_lt : it < s.heap.objs.size := by obtain ⟨_, q, _⟩ := hit; exact Heap.lt_size q
    rw [hl] at hit
    refine wpAny_pyNext_enum_itemD (n := vs.length) (rq_drawsK (knd := mixKind X.prog X.w) (Z := X.A.in1) (I.ok.hd hc) ne2) he ⟨hit, hm⟩ (by omega) hne (by simp [hne, hed]) fun x h' tk ⟨k2, u2, g2, x2⟩ ho ⟨hit', hm'⟩ hT hsz2 hk => ?_
    refine ⟨_, rfl, wpAny_letOwnedTupleGo_enum (s := { s with heap := h', toks := tk + 1 }) ho fun h'' he' sb => ?_⟩
    have ek : k2 = k := by
      obtain ⟨u, hu, ru⟩ := kv_get kv hkv
      rw [hu] at g2
      cases g2; rfl
    subst ek
    have hT2 : h''.get? s.heap.objs.size = some { cls := .type "tuple", data := .seq #[.int i tk, x] } := (sb.2 _ (Nat.ne_of_gt e_lt)).trans hT
    have new : ObjOk X.prog X.w (upd H s.heap.objs.size (.tup [.int (i : Nat), kV k2])) h'' s.heap.objs.size (.tup [.int (i : Nat), kV k2]) :=
      ⟨by show 2 ≤ sizeLine; decide, [.int i tk, x], .cons ⟨_, rfl⟩ (.cons (relV_key (show keyIs k2 x = true from x2)) .nil), ⟨_, hT2, rfl, _, rfl⟩⟩
    have I1 : Inv X pins σ (upd H s.heap.objs.size (.tup [.int (i : Nat), kV k2])) { s with heap := h'', toks := tk + 1 } :=
      I.turnedNew (ch := [e, it]) (fun b ob hb q => (sb.2 b (fun z => hb (by simp [z]))).trans (hk b ob (fun z => hb (by simp [z])) (fun z => hb (by simp [z])) q)) hf (Nat.le_refl _) new
    refine ⟨.ref s.heap.objs.size, _, I1, rfl, ⟨_, k2, v, rfl, I.hok.fresh (Nat.le_refl _), rfl, hkv⟩, ⟨⟨x, ?_⟩, ?_, hne⟩, fun b hb => ?_⟩
    · rw [show ((i + 1 : Nat) : Int) = (i : Int) + 1 by omega]; exact he'
    · rw [hl]
      exact hit'.at fun oi q => (sb.2 it (Ne.symm hne)).trans q
    · have hb' : b < s.heap.objs.size := by
        rcases (by simpa using hb : b = e ∨ b = it) with z | z
        · rw [z]; exact e_lt
        · rw [z]; exact i_lt
      rw [upd_ne (Nat.ne_of_lt hb')]
      exact (hf b hb).1
  done := by
    intro X hP hw hK hc i pins s σ H E I hf st hg
    subst hP hw hK
    obtain ⟨⟨old, he⟩, hit, hne⟩ := st
    obtain ⟨hd, hi⟩ := hg
    obtain ⟨hs, hgd, hx, es', ep', vs, hdt, hsz, kv, hm⟩ := I.frzK hd
    obtain ⟨rfl, rfl⟩ := dict_ep od hdt
    obtain ⟨f0, f1, f2, f3, f4, f5⟩ := hf it (by simp)
    have hl : kvs.length = vs.length := Paired.length kv
    rw [hl] at hit hi
    exact rq_enum_end (I.ok.hd hc) he hit hm (List.getElem?_eq_none hi) fun h' eb => ⟨rfl, I.turned (t' := s.toks) (fun b ob hb q => eb b ob (by simpa using hb) q) f0 f1 f3 f4 f5⟩
  self := fun A i s Q E st h => wpAny_pyIter_enum st.1.choose_spec h
def iEnumK (ta : TA) : TI := fun σ H R => ta σ H fun vs H1 => ∃ (d : Addr) (o : Obj) (kvs : List (Key × V)), vs = [.ref d] ∧ H1 d = some (.frz o (.dK kvs)) ∧ R (Itke d o kvs) H1
theorem pi_enumK {X : Cx} {e : Expr} {ta : TA} {p pos tpos : Pos} {elts : List Expr} {kk : Nat} (hg : Gl X "enumerate") (hm : X.mg "enumerate" = none) (ha : PA X [e] ta) (hs : starEach [e] X.env = [(false, eval e X.env)] := by exact star_plain rfl _ _) :
    PI X (.Tuple elts kk tpos) (.Call (.Name "enumerate" p) [e] [] pos) (iEnumK ta) := by
  refine ⟨fun pins s σ H R I h => Call_ (ld_blt I hg hm boot_enumerate (PyProof.Rows.callWith_type1 (thn (ha.run pos pins s σ H _ I h) fun us s1 ⟨vs, H1, I1, r1, q1⟩ => ?_) hs rfl))⟩
  obtain ⟨d, o, kvs, ex, hd, q⟩ := q1
  subst ex
  cases r1 with
  | cons r rr =>
    cases rr
    cases r
    obtain ⟨hs0, hgd, hx, es, ep, vs, hdt, hsz, kv, hm2⟩ := I1.frzK hd
    refine rq_enum1 (begins_dict hs0 hx hdt) hgd fun h' en it1 hk => wpAny_pyIter_enum en ?_
    have I2 : Inv X pins σ H1 { s1 with heap := h' } := I1.kept (t' := s1.toks) hk
    have d_lt : d < s1.heap.objs.size := Heap.lt_size hgd
    refine ⟨s1.heap.objs.size + 1, [s1.heap.objs.size + 1, s1.heap.objs.size], _, _, H1, rfl, I2, turn_enumK (e := s1.heap.objs.size + 1) (it := s1.heap.objs.size) hdt (Nat.ne_of_lt d_lt), ⟨⟨.none, en⟩, ⟨_, it1, rfl, ?_⟩, Nat.succ_ne_self _⟩, fun b hb => ?_, q⟩
    · rw [hsz] <;> rfl
    · have hle : s1.heap.objs.size ≤ b := by
        rcases (by simpa using hb : b = s1.heap.objs.size + 1 ∨ b = s1.heap.objs.size) with z | z
        · rw [z]; exact Nat.le_add_right _ _
        · rw [z]; exact Nat.le_refl _
      exact I1.fpOk hle (I1.hok.fresh hle)
section
variable {X : Cx} {e : Expr} {α : Type} [Dat α]
theorem hw_enumK : ∀ σ H1 ad od ws (R : It → Hp → Prop), H1 ad = some (.frz od (.dK ws)) → (∀ Q : VK, Q (.ref ad) H1 → tE X e σ H1 Q) → R (Itke ad od ws) H1 → iEnumK (tCons (tE X e) tNil) σ H1 R := fun σ H1 ad od ws R hl hp r => hp _ ⟨ad, od, ws, rfl, hl, r⟩
theorem yields_enumK {δ : Type} [Dat δ] {d : Dc δ} (K : PySem.W.Frag) : ∀ U H1 ad od ws, wo H1 U ad = some (.frz od (.dK ws)) → repD K (wo H1 U) ws d.kvs → Yields K (Itke ad od ws) U H1 (enumI (d.kvs.map (·.1))) := fun U H1 ad od ws hv hr H' U' bn ex i => by
  have hl : H' ad = some (.frz od (.dK ws)) := (wo_some (ex ad _ hv)).2
  refine ⟨fun x hx => ?_, fun hi => ⟨hl, by rw [Paired.length hr]; unfold enumI at hi; simpa using hi⟩⟩
  unfold enumI at hx
  rw [List.getElem?_mapIdx, List.getElem?_map] at hx
  cases hk : d.kvs[i]? with
  | none => rw [hk] at hx; cases hx
  | some kx =>
    obtain ⟨k, x'⟩ := kx
    rw [hk] at hx
    have hx : ((i : Int), k) = x := Option.some.inj hx
    subst hx
    obtain ⟨v, hv2, rv⟩ := hr.get hk
    refine ⟨⟨hl, (List.getElem?_eq_some_iff.mp hv2).1⟩, fun u H'' ⟨T, k', v', q1, q2, q3, g⟩ => ?_⟩
    rw [hv2] at g
    cases g
    subst q1 q3
    exact ⟨Ex.new q2, new_rep bn q2 rfl rfl⟩
end
end R
set_option maxHeartbeats 1000000
set_option autoImplicit false
/-! a fraction told as a pair -/
namespace R
open PySem PySem.Spec PyProof.Rows L2
section
variable {X : Cx} {env : Env'} {e : Expr}
theorem ex_pairQ {x : Rat} (h : EX X e env x) : EX X e env ((x.num, ((x.den : Nat) : Int)) : Int × Int) := fun O fp σ H S Q q => h O fp σ H S Q fun v H' e1 r => q v H' e1 r
end
end R
set_option maxHeartbeats 1000000
set_option autoImplicit false
/-! a comprehension over a dict -/
namespace R
open PySem PySem.Spec PyProof.Rows L2
section
variable {X : Cx} {W : WX} {env env' : Env'} {ρ α β γ : Type} [Res ρ] [Dat α] [Dat β] [Dat γ] {po : Po ρ} {x : α} {y : β} {z : γ} {e a b c tg iter o : Expr} {es : List Expr} {pos p p2 pc p3 apos cpos : Pos} {rest body : List Stmt} {xs : List α}
theorem lc_ev0 {scope : Scope} {tt : TT} {g : TG} {vs : List Nat} (mk : α → Env') (f : α → β) (t : α → Bool) {O : Addr → Prop} {fp : Nat → List Addr} {σ : L2.St} {H : Hp} (S : SOk X.K O fp env σ H) (hi : ∀ R : It → Hp → Prop, (∀ J H1, Ex H H1 → Yields X.K J (UU O fp) H1 xs → R J H1) → tI X tg iter σ H R) (hz : xs.length ≤ 100000) (hg : TgOk α X g vs (wipeE env vs) mk) (hww : ∀ σ : L2.St, L2.wipe (L2.wipe σ vs) vs = L2.wipe σ vs)
    (ht : ∀ x ∈ xs, EvT X.K tt (mk x) (t x)) (he : ∀ x ∈ xs, t x = true → Ev X.K (tEb X scope e) (mk x) (f x)) :
    ∀ Q : VK, (∀ v L H', Ex H H' → (∀ a ∈ L, H a = none) → (∀ a ∈ L, ∃ o, H' a = some o) → (∀ Hf, Le (wo H' (fun a => UU O fp a ∨ a ∈ L)) Hf → Own.own X.K Hf H' v L (OL.mk ((xs.filter t).map f))) → Q v H') → tLc (tI X tg iter) g tt (tEb X scope e) vs σ H Q := by
  intro Q q
  refine hi _ fun J H1 e1 yl D hD => ?_
  have S1 := S.ex e1
  have S2 := S1.hide (o := .lst []) hD
  have hU : ∀ a, UU (fun a => O a ∨ a = D) fp a ↔ (UU O fp a ∨ a = D) := fun a => by
    constructor
    · rintro ((z | z) | z)
      · exact .inl (.inl z)
      · exact .inr z
      · exact .inl (.inr z)
    · rintro ((z | z) | z)
      · exact .inl (.inl z)
      · exact .inr z
      · exact .inl (.inr z)
  -- where one stands at turn i
  let Pv : Nat → Hp → Prop := fun i H' => ∃ ws, H' D = some (.lst ws) ∧ (∀ a o, a ≠ D → H1 a = some o → H' a = some o) ∧ repL X.K (wo H' (UU (fun a => O a ∨ a = D) fp)) ws (((xs.take i).filter t).map f)
  have SP : ∀ i H', Pv i H' → SOk X.K (fun a => O a ∨ a = D) fp env σ H' := fun i H' ⟨ws, h1, h2, _⟩ => by
    refine S2.conv (Ex.le fun a o hq => ?_) (fun j a ha => ?_) fun a o hq => ?_
    · obtain ⟨n, hq⟩ := wo_some hq
      have na : a ≠ D := fun z => n ((hU a).mpr (.inr z))
      rw [upd_ne na] at hq
      rw [wo_out n]
      exact h2 a o na hq
    · obtain ⟨o, hq⟩ := S1.dom j a ha
      have na : a ≠ D := ne_of_none hq hD
      rw [h2 a o na hq, upd_ne na, hq]
    · by_cases na : a = D
      · subst na; exact ⟨_, h1⟩
      · rw [upd_ne na] at hq; exact ⟨o, h2 a o na hq⟩
  have YL : ∀ i H', Pv i H' → (∀ x, xs[i]? = some x → J.go i H' ∧ ∀ v H'', J.yld i H' v H'' → Ex H' H'' ∧ Dat.rep X.K (wo H'' (UU (fun a => O a ∨ a = D) fp)) v x) ∧ (xs.length ≤ i → J.stop i H') := fun i H' pv => by
    refine yl H' _ (SP i H' pv).bndU (fun a o hq => ?_) i
    obtain ⟨ws, h1, h2, _⟩ := pv
    obtain ⟨n, hq⟩ := wo_some hq
    have na : a ≠ D := ne_of_none hq hD
    rw [wo_out fun z => ((hU a).mp z).elim n na]
    exact h2 a o na hq
  refine ⟨fun i m H' => m = xs.length - i ∧ i ≤ xs.length ∧ Pv i H', ⟨xs.length, by simp, Nat.zero_le _, [], upd_same, fun a o na h => by rw [upd_ne na]; exact h, .nil⟩, ?_⟩
  rintro i m H2 ⟨rfl, hle, pv⟩
  obtain ⟨y1, y2⟩ := YL i H2 pv
  by_cases hlt : i < xs.length
  · obtain ⟨x, hx⟩ : ∃ x, xs[i]? = some x := ⟨_, List.getElem?_eq_getElem hlt⟩
    have hm : x ∈ xs := List.mem_of_getElem? hx
    obtain ⟨go, yy⟩ := y1 x hx
    refine .inr ⟨go, Pv (i + 1), fun H' p' => ⟨_, by omega, rfl, hlt, p'⟩, fun v H3 yv => ?_⟩
    obtain ⟨e3, rv⟩ := yy v H3 yv
    have S3 := (SP i H2 pv).ex e3
    obtain ⟨ws, h1, h2, h3⟩ := pv
    have tk : xs.take (i + 1) = xs.take i ++ [x] := by rw [List.take_add_one, hx]; rfl
    refine hg.run x _ fp _ H3 v (S3.wipe vs) rv (hww σ) _ fun σ4 S4 w4 => ⟨w4.trans rfl, ?_⟩
    refine ht x hm _ fp σ4 H3 S4 _ fun H5 e5 => ?_
    cases htx : t x with
    | true =>
      show tEb X scope e σ4 H5 _
      refine he x hm htx _ fp σ4 H5 (S4.ex e5) _ fun y H6 e6 ry => ?_
      have e36 : Ex H2 H6 := (e3.trans e5).trans e6
      refine ⟨ws, e36 D _ h1, ?_, ws ++ [y], upd_same, fun a o na h => by rw [upd_ne na]; exact e36 a o (h2 a o na h), ?_⟩
      · have := Paired.length h3
        rw [List.length_map] at this
        have l2 := List.length_filter_le t (xs.take i)
        have l3 : (xs.take i).length ≤ xs.length := by rw [List.length_take]; omega
        exact Nat.lt_of_lt_of_le (show ws.length < 100001 by omega) (by decide)
      · rw [tk, List.filter_append, List.map_append]
        have : (List.filter t [x]).map f = [f x] := by simp [htx]
        rw [this, wo_upd_in (show UU (fun a => O a ∨ a = D) fp D from (hU D).mpr (.inr rfl))]
        exact Paired.app (h3.mono (wo_ex e36).le) ry
    | false =>
      show Pv (i + 1) H5
      have e35 : Ex H2 H5 := e3.trans e5
      refine ⟨ws, e35 D _ h1, fun a o na h => e35 a o (h2 a o na h), ?_⟩
      rw [tk, List.filter_append, List.map_append]
      have : (List.filter t [x]).map f = [] := by simp [htx]
      rw [this, List.append_nil]
      exact h3.mono (wo_ex e35).le
  · have ei : i = xs.length := by omega
    subst ei
    obtain ⟨ws, h1, h2, h3⟩ := pv
    have ek : ∀ a o, H1 a = some o → H2 a = some o := fun a o h => h2 a o (ne_of_none h hD) h
    refine .inl ⟨y2 (Nat.le_refl _), q (.ref D) [D] H2 (e1.trans ek) (fun a ha => by rw [List.mem_singleton.mp ha]; exact e1.free hD) (fun a ha => by rw [List.mem_singleton.mp ha]; exact ⟨_, h1⟩) fun Hf le => ⟨D, ws, rfl, rfl, h1, ?_⟩⟩
    rw [List.take_length] at h3
    refine h3.mono (Le.trans (wo_mono fun a z => ?_).le le)
    rcases z with z | z
    · exact (hU a).mpr (.inl z)
    · exact (hU a).mpr (.inr (List.mem_singleton.mp z))
theorem en_lcD {scope : Scope} {ifs : List Expr} {own : List (Str × Nat)} {tt : TT} {g : TG} {δ : Type} [Dat δ] {d : Dc δ} {de : Expr} {J : Addr → Obj → List (Key × V) → It} {wi : TI} (mk : α → Env') (f : α → β) (t : α → Bool) (hc : X.calm = true) (hN : X.N.Nodup) (ok : BlkOk X.N X.env.scope scope own) (hPI : PI X tg iter wi)
    (hw : ∀ σ H1 ad od ws (R : It → Hp → Prop), H1 ad = some (.frz od (.dK ws)) → (∀ Q : VK, Q (.ref ad) H1 → tE X de σ H1 Q) → R (J ad od ws) H1 → wi σ H1 R)
    (hy : ∀ U H1 ad od ws, wo H1 U ad = some (.frz od (.dK ws)) → repD X.K (wo H1 U) ws d.kvs → Yields X.K (J ad od ws) U H1 xs)
    (hd : EPth X de env d) (hz : xs.length ≤ 100000) (hg : TgOk α X g (own.map (·.2)) (wipeE env (own.map (·.2))) mk) (hww : ∀ σ : L2.St, L2.wipe (L2.wipe σ (own.map (·.2))) (own.map (·.2)) = L2.wipe σ (own.map (·.2)))
    (pg : ∀ (s : Shared) (H : Hp) (C : Addr) (cl : List (Str × Addr)) (fp : List Addr), PG (X.blk s H scope (compEnvC scope cl C X.env) fp) tg g) (pt : ∀ (s : Shared) (H : Hp) (C : Addr) (cl : List (Str × Addr)) (fp : List Addr), PTs (X.blk s H scope (compEnvC scope cl C X.env) fp) ifs tt)
    (ht : ∀ x ∈ xs, EvT X.K tt (mk x) (t x)) (he : ∀ x ∈ xs, t x = true → Blk X scope fun Y => EX Y e (mk x) (f x)) (hs : ∀ x, foldedSetIterable iter X.env x = pure x := by intro _; rfl) : EN X (.ListComp e [⟨tg, iter, ifs, 0⟩] scope pos) env (OL.mk ((xs.filter t).map f)) := fun O fp σ H S Q q => tE_of fun pins s I => by
  obtain ⟨v, ⟨ad, ws, rfl, rd, rl⟩, hpth⟩ := hd O fp σ H S
  have core : ∀ (H1 : Hp) (od : Obj), Le H H1 → H1 ad = some (.frz od (.dK ws)) → SOk X.K O fp env σ H1 → wo H1 (UU O fp) ad = some (.frz od (.dK ws)) → repD X.K (wo H1 (UU O fp)) ws d.kvs → ∀ Q' : VK, (∀ v L H', Ex H1 H' → (∀ a ∈ L, H1 a = none) → (∀ a ∈ L, ∃ o, H' a = some o) → (∀ Hf, Le (wo H' (fun a => UU O fp a ∨ a ∈ L)) Hf → Own.own X.K Hf H' v L (OL.mk ((xs.filter t).map f))) → Q' v H') → tLc (tI X tg iter) g tt (tEb X scope e) (own.map (·.2)) σ H1 Q' := fun H1 od le hl S1 hv hr Q' q' =>
    lc_ev0 mk f t S1 (fun R r => tI_of fun pins s In => hPI.run pins s σ H1 R In (hw σ H1 ad od ws R hl (fun Q q => hpth H1 le Q q) (r _ H1 (Ex.refl _) (hy _ H1 ad od ws hv hr)))) hz hg hww ht (fun x hx h => ev_b (he x hx h)) Q' q'
  have pl := pe_lc (pos := pos) hc hN (mI X tg iter) ok pg pt (fun s H C cl fp => mEb (e := e) s H C cl fp) hs
  rcases rd with rd | ⟨od, rd⟩
  · obtain ⟨n, rd'⟩ := wo_some rd
    refine (pe_lock pl).run pins s σ H Q I ⟨ad, .dK ws, rd', trivial, fun od => ?_⟩
    refine core _ od (lock_le rd') upd_same (S.lock rd) (by rw [wo_out n, upd_same]) (rl.mono (by rw [wo_upd_out n]; exact lock_le rd)) _ fun v L H' e1 hL hd1 ow => ?_
    have h1 : H' ad = some (.frz od (.dK ws)) := e1 ad _ upd_same
    have nL : ad ∉ L := fun z => by
      have := hL ad z
      rw [upd_same] at this
      cases this
    refine ⟨h1, q v L _ (fun b o hb => ?_) (fun b hb => ?_) (fun b hb => ?_) fun Hf le => ?_⟩
    · by_cases eb : b = ad
      · subst eb; rw [rd'] at hb; cases hb; exact upd_same
      · rw [upd_ne eb]
        exact e1 b o (by rw [upd_ne eb]; exact hb)
    · have nb : b ≠ ad := fun z => nL (z ▸ hb)
      have := hL b hb
      rw [upd_ne nb] at this
      exact this
    · have nb : b ≠ ad := fun z => nL (z ▸ hb)
      rw [upd_ne nb]
      exact hd1 b hb
    · have nU : ¬ (UU O fp ad ∨ ad ∈ L) := fun z => z.elim n nL
      refine Own.frame (Le.refl Hf) (fun b hb => upd_ne fun z => nL (z ▸ hb)) (ow Hf (Le.trans ?_ le))
      rw [wo_upd_out nU]
      exact unlock_le (by rw [wo_out nU]; exact h1)
  · obtain ⟨n, rd'⟩ := wo_some rd
    exact pl.run pins s σ H Q I (core H od (Le.refl H) rd' S rd rl Q q)
end
end R
set_option maxHeartbeats 1000000
set_option autoImplicit false
/-! R31: sorted texts as one value: sorted(xs), sorted(d), sorted(d.keys()), sorted(.., reverse=True); list(d.values()) -/
namespace R
open PySem PySem.Spec PyProof.Rows L2
/-! ### the order of texts -/
theorem ltS_cps (x y : Str) : ltS x y = decide (x.cps.toList < y.cps.toList) := rfl
theorem str_cps {x y : Str} (h : x.cps.toList = y.cps.toList) : x = y := by
  cases x with | mk a => cases y with | mk b =>
    have : a = b := Array.toList_inj.mp h
    subst this; rfl
theorem leS_iff {x y : Str} : leS x y = true ↔ x.cps.toList ≤ y.cps.toList := by
  unfold leS
  rw [ltS_cps]
  constructor
  · intro h
    have : ¬ (y.cps.toList < x.cps.toList) := by simpa using h
    exact List.not_lt.mp this
  · intro h
    have : ¬ (y.cps.toList < x.cps.toList) := List.not_lt.mpr h
    simpa using this
theorem leS_trans {x y z : Str} (a : leS x y = true) (b : leS y z = true) : leS x z = true := leS_iff.mpr (List.le_trans (leS_iff.mp a) (leS_iff.mp b))
theorem leS_total (x y : Str) : (leS x y || leS y x) = true := by
  rcases List.le_total x.cps.toList y.cps.toList with h | h
  · rw [leS_iff.mpr h]; rfl
  · rw [leS_iff.mpr h]; simp
theorem leS_anti {x y : Str} (a : leS x y = true) (b : leS y x = true) : x = y := str_cps (List.le_antisymm (leS_iff.mp a) (leS_iff.mp b))
theorem leS_refl (x : Str) : leS x x = true := by have := leS_total x x; simpa using this
/-- two rows in order with the same members, each as often, are one -/
theorem srt_eq {xs ys : List Str} (p : xs.Perm ys) (h1 : xs.Pairwise (fun a b => leS a b = true)) (h2 : ys.Pairwise (fun a b => leS a b = true)) : xs = ys :=
  List.Perm.eq_of_pairwise (fun a b _ _ x y => leS_anti x y) h1 h2 p
theorem sortS_pw (xs : List Str) : (sortS xs).Pairwise (fun a b => leS a b = true) := List.pairwise_mergeSort (le := leS) (fun a b c h1 h2 => leS_trans h1 h2) (fun a b => leS_total a b) xs
theorem sortS_perm (xs : List Str) : (sortS xs).Perm xs := List.mergeSort_perm xs leS
theorem risingS_pw : ∀ {p : Str} {l : List Str}, risingS p l = true → (p :: l).Pairwise (fun a b => leS a b = true)
  | p, [], _ => List.pairwise_singleton _ _
  | p, x :: r, h => by
    have h : (!ltCps x.cps.toList p.cps.toList && risingS x r) = true := h
    rw [Bool.and_eq_true] at h
    have ih := risingS_pw h.2
    have h0 : leS p x = true := by
      unfold leS
      rw [ltS_cps, ← ltCps_eq]
      exact h.1
    refine List.pairwise_cons.mpr ⟨fun y hy => ?_, ih⟩
    rcases List.mem_cons.mp hy with e | e
    · rw [e]; exact h0
    · exact leS_trans h0 (List.rel_of_pairwise_cons ih e)
theorem sortedS_pw : ∀ {l : List Str}, sortedS l = true → l.Pairwise (fun a b => leS a b = true)
  | [], _ => List.Pairwise.nil
  | _ :: _, h => risingS_pw h
theorem sortS_is {xs ys : List Str} (p : ys.Perm xs) (h : sortedS ys = true) : ys = sortS xs := srt_eq (p.trans (sortS_perm xs).symm) (sortedS_pw h) (sortS_pw xs)
theorem sortS_congr {xs ys : List Str} (p : xs.Perm ys) : sortS xs = sortS ys := srt_eq ((sortS_perm xs).trans (p.trans (sortS_perm ys).symm)) (sortS_pw _) (sortS_pw _)
theorem sortS_len (xs : List Str) : (sortS xs).length = xs.length := (sortS_perm xs).length_eq
theorem mem_sortS {x : Str} {xs : List Str} : x ∈ sortS xs ↔ x ∈ xs := (sortS_perm xs).mem_iff
theorem sortS_self {xs : List Str} (h : xs.Pairwise (fun a b => leS a b = true)) : sortS xs = xs := srt_eq (sortS_perm xs) (sortS_pw _) h
/-! ### calls of a built-in that makes something new -/
section
variable {X : Cx} {env : Env'} {α β : Type} [Dat α] [Dat β] {x : α} {e a o : Expr} {es : List Expr} {pos p p2 apos cpos : Pos} {xs : List α}
theorem en_callB1 {β : Type} [Own β] {y : β} {id : String} {n : Str} {r : List V → Hp → VK → Prop} (hc : CallR X (.builtin id) r) (hm : X.mg n = none) (hv : bootBuiltins n = some (.builtin id)) (ha : EX X e env x)
    (hr : ∀ (U : Addr → Prop) (v : V) (H : Hp), Dat.rep X.K (wo H U) v x → ∀ Q : VK, (∀ v L H', Ex H H' → (∀ a ∈ L, H a = none) → (∀ a ∈ L, ∃ o, H' a = some o) → (∀ Hf, Le (wo H' (fun a => U a ∨ a ∈ L)) Hf → Own.own X.K Hf H' v L y) → Q v H') → r [v] H Q)
    (hg : Gl X n) (hn : n ≠ "__name__") (hdb : (n == ("__debug__" : Str)) = false) (he : starEach [e] X.env = (false, eval e X.env) :: starEach [] X.env) (hpl : (backTo pos (starEach [] X.env)).any (·.1) = false) : EN X (.Call (.Name n p) [e] [] pos) env y := by
  intro O fp σ H S Q q
  refine tE_of fun pins s I => ?_
  refine (pe_callB hc hg hm hv (mA X _) hn hdb he hpl).run pins s σ H Q I ?_
  refine ea1 ha he O fp σ H S _ fun vs H1 e1 ar => ?_
  match vs, ar with
  | [v], ⟨r1, _⟩ => exact hr (UU O fp) v H1 r1 Q fun v L H' e2 hL hd ow => q v L H' (e1.trans e2) (fun b hb => e1.free (hL b hb)) hd ow
theorem boot_sorted' : bootBuiltins "sorted" = some (.builtin "sorted") := by decide +kernel
/-- sorted(xs) of texts -/
theorem en_sortedS {ss : List Str} (hm : X.mg "sorted" = none) (h : EX X a env ss) (hl : ss.length < 64) (he : starEach [a] X.env = (false, eval a X.env) :: starEach [] X.env := by exact star_plain rfl _ _) (hpl : (backTo pos (starEach [] X.env)).any (·.1) = false := by exact star_pl rfl) (hg : Gl X "sorted" := by rfl) : EN X (.Call (.Name "sorted" p) [a] [] pos) env (OL.mk (sortS ss)) :=
  en_callB1 cr_sortedS hm boot_sorted' h (fun U v H r1 Q q => by
    obtain ⟨ad, vs, h1, h2, h3⟩ := r1
    have := h3.strs
    subst this
    refine ⟨ad, ss, by rw [h1], wo_le.lst h2, hl, fun ys u py sy hu => ?_⟩
    have := sortS_is py sy
    subst this
    exact q (.ref u) [u] _ (Ex.new hu) (fun b hb => by rw [List.mem_singleton.mp hb]; exact hu) (fun b hb => by rw [List.mem_singleton.mp hb]; exact ⟨_, upd_same⟩) fun Hf le => ⟨u, _, rfl, rfl, upd_same, strs_rep _⟩) hg (by decide) (by decide) he hpl
theorem repD.names {K : PySem.W.Frag} {H : Hp} {ws : List (Key × V)} {kvs : List (Str × α)} (h : repD K H ws kvs) : ws.map (·.1) = (kvs.map Prod.fst).map Sum.inr := by
  unfold repD at h
  induction h with
  | nil => rfl
  | cons h0 _ ih => rw [List.map_cons, List.map_cons, List.map_cons, ih, h0.1]
/-- sorted(d) -/
theorem en_sortedD {d : Dc α} (hc : X.calm = true) (hm : X.mg "sorted" = none) (h : EX X a env d) (hl : d.kvs.length < 64) (he : starEach [a] X.env = (false, eval a X.env) :: starEach [] X.env := by exact star_plain rfl _ _) (hpl : (backTo pos (starEach [] X.env)).any (·.1) = false := by exact star_pl rfl) (hg : Gl X "sorted" := by rfl) : EN X (.Call (.Name "sorted" p) [a] [] pos) env (OL.mk (sortS (d.kvs.map Prod.fst))) :=
  en_callB1 (call_sortedD hc) hm boot_sorted' h (fun U v H r1 Q q => by
    obtain ⟨ad, ws, h1, h2, h3⟩ := r1
    refine ⟨ad, ws, d.kvs.map Prod.fst, by rw [h1], wo_le _ _ trivial h2, h3.names, by rw [List.length_map]; exact hl, fun ys u py sy hu => ?_⟩
    have := sortS_is py sy
    subst this
    exact q (.ref u) [u] _ (Ex.new hu) (fun b hb => by rw [List.mem_singleton.mp hb]; exact hu) (fun b hb => by rw [List.mem_singleton.mp hb]; exact ⟨_, upd_same⟩) fun Hf le => ⟨u, _, rfl, rfl, upd_same, strs_rep _⟩) hg (by decide) (by decide) he hpl
end
end R
set_option maxHeartbeats 1000000
set_option autoImplicit false
/-! R32: list(d.values()), sorted(d.keys()) -/
namespace R
open PySem PySem.Spec PyProof.Rows L2
section
variable {X : Cx} {o : Expr} {td : TE} {p pos apos cpos : Pos}
def tListVals (td : TE) : TE := fun σ H Q => td σ H fun v H1 => ∃ (a : Addr) (kvs : List (L2.Key × V)), v = .ref a ∧ Rd H1 a (.dK kvs) ∧ ∀ q, H1 q = none → Q (.ref q) (upd H1 q (.lst (kvs.map (·.2))))
theorem KV.vals {κ : Type} {kvs : List (κ × V)} {vs : List (κ × Value)} (h : KV kvs vs) : Vals (kvs.map (·.2)) (vs.map (·.2)) := by
  unfold KV at h
  induction h with
  | nil => exact .nil
  | cons h0 _ ih => exact .cons h0.2 ih
theorem pe_listVals (hc : X.calm = true) (hg : Gl X "list") (hm : X.mg "list" = none) (he : PE X o td) (hbase : attributeBase o "values" X.env (eval o X.env) = eval o X.env) (hline : (apos.endLine == cpos.line) = true)
    (hs : starEach [.Call (.Attribute o "values" apos) [] [] cpos] X.env = (false, eval (.Call (.Attribute o "values" apos) [] [] cpos) X.env) :: starEach [] X.env) :
    PE X (.Call (.Name "list" p) [.Call (.Attribute o "values" apos) [] [] cpos] [] pos) (tListVals td) := by
  refine ⟨fun pins s σ H Q I h => ?_⟩
  refine Call_ (ld_blt I hg hm (by decide +kernel : bootBuiltins "list" = some (.type "list")) (PyProof.Rows.callWith_type1 (args_cons ?_ hs) hs rfl))
  refine wpAny_Call_method (T := "dict") (id := "dict.values") hbase rfl hline F.plainAttrs_dict F.slot_dict_values F.type_dict_values (thn (he.run pins s σ H _ I h) fun u s1 ⟨x, H1, I1, rx, d, kvs, ex, hd, q⟩ => ?_)
  subst ex
  obtain rfl : u = Value.ref d := rx
  obtain ⟨hz, lo, vs, kv, dd⟩ := dk_rd I1.hok hd
  obtain ⟨ep, hat⟩ := dd.dictAt
  refine ⟨dd.typeIs, dd.mapOf.noDict, ?_⟩
  have I2 : Inv X pins σ H1 { s1 with heap := s1.heap.push { cls := .type "dict_values", data := .fields #[.ref d] } } := I1.kept (t' := s1.toks) fun b ob q => Heap.get?_push_of_some _ q
  refine method_meetsIn F.slot_dict_values F.entry_dict_values rfl (PySem.evalArgs_none ⟨rfl, dd.typeIs, F.args_dict_values_1 _, _, meets_dict_values (mixKind X.prog X.w) d lo, ⟨vs, dd⟩, ?_⟩)
  refine args_nil ?_
  refine PySem.W.kdl_call (s := { s1 with heap := s1.heap.push { cls := .type "dict_values", data := .fields #[.ref d] } }) (PySem.W.kdl_values (knd := mixKind X.prog X.w) (kvs := vs) (ep := ep) (r := s1.heap.objs.size) (d := d)) (I1.ok.hd hc) ⟨⟨_, Heap.get?_push_size _ rfl, rfl, rfl⟩, hat.push _⟩ (by rw [← Paired.length kv]; exact hz) fun h' tk acc c' hk hD hacc => ?_
  have hv : acc.toList = vs.map (·.2) := PySem.W.kdl_vals_eq acc.toList (by rw [Array.length_toList]; exact hacc.1) fun j v e => hacc.2 j v (by rw [← Array.getElem?_toList]; exact e)
  exact ⟨.ref (s1.heap.push { cls := .type "dict_values", data := .fields #[.ref d] }).objs.size, upd H1 (s1.heap.push { cls := .type "dict_values", data := .fields #[.ref d] }).objs.size (.lst (kvs.map (·.2))), I2.laid (t' := tk) hk (Nat.le_refl _)
    (show ObjOk X.prog X.w _ _ _ (.lst (kvs.map (·.2))) from ⟨by rw [List.length_map]; exact hz, acc.toList, c', by rw [hv]; exact KV.vals kv, by rw [Array.toArray_toList]; exact hD⟩), rfl, q _ (I2.hok.fresh (Nat.le_refl _))⟩
/-- sorted(a source of texts) -/
theorem sorted_src {T : String} {r d : Addr} {n : Nat} {PP : Nat → Value → Prop} {OK : Heap → Prop} {pins : List (Addr × Obj)} {s : Shared} {σ : L2.St} {H : Hp} {QQ : Value → Shared → Prop} {EE : Value → Shared → Prop} {ks : List Str} (I : Inv X pins σ H s) (hcalm : X.calm = true) (K : PySem.W.KdlSrc X.prog X.w T r d n PP OK) (hok : OK s.heap) (hn : n = ks.length) (h64 : ks.length < 64)
    (hP : ∀ j v, PP j v → ∃ k t, ks[j]? = some k ∧ v = Value.str k t)
    (q : ∀ u s' (ys : List Str) (pp : Addr), ys.Perm ks → sortedS ys = true → H pp = none → Inv X pins σ (upd H pp (.lst (ys.map V.str))) s' → RelV (.ref pp) u → QQ u s') : wpAny (model X.prog X.w) X.A (call (.builtin "sorted") [.ref r]) QQ EE s := by
  have h16 : n ≤ sizeLine := by rw [hn, sizeLine_eq]; omega
  refine Calls.call_function_entry PyProof.Rows.kind_sorted PyProof.Rows.plain_sorted PyProof.Rows.entry_sorted (PyProof.Rows.args_sorted1 _) ?_
  unfold Builtin.«sorted»
  refine wpAny_bind (m := checkCount "sorted" 1 1 _) (wpAny_pure ?_)
  refine wpAny_bind (PySem.W.kdu_collect (A := X.A.in1) K (I.ok.hd hcalm) hok h16 fun h' tk acc hk hacc => ?_)
  have hal : acc.toList.length = ks.length := by rw [Array.length_toList, hacc.1, hn]
  have hS : StrsAre acc.toList ks := strs_at hal fun j v e => by
    obtain ⟨k, t, e1, e2⟩ := hP j v (hacc.2 j v (by rw [← Array.getElem?_toList]; exact e))
    exact ⟨k, t, e1, e2⟩
  have I1 : Inv X pins σ H { s with heap := h', toks := tk } := I.kept hk
  refine wpAny_bind (wpAny_newList ?_ (by rw [hal, sizeLine_eq]; omega))
  have hoL : (h'.push (seqObj "list" acc.toList.toArray 0)).get? h'.objs.size = some (seqObj "list" acc.toList.toArray 0) := Heap.get?_push_size _ rfl
  show wpAny _ _ _ _ _ { s with heap := h'.push (seqObj "list" acc.toList.toArray 0), toks := tk }
  refine wpAny_bind (wpAny_holding (wpAny_call_entry PyProof.Rows.slot_list_sort ⟨_, hoL, rfl⟩ PyProof.Rows.entry_list_sort
    (list_sort_treeK strKind_oneLt (s := { s with heap := h'.push (seqObj "list" acc.toList.toArray 0), toks := tk }) hoL hS.keysOf (fun v₁ v₂ rest e => keyKind_strs (by rw [← e]; exact hS)) (by rw [hal]; exact h64) fun st' hp hs => ⟨_, rfl, ?_⟩)
    (PyProof.Rows.args_list_sort _)))
  obtain ⟨ys, g1, g2, g3⟩ := sorted_out_str hS hp hs
  obtain ⟨e', he'⟩ := PyProof.Rows.sortedHeap_at (vs := acc.toList) (out := (arrOf st').map (·.2)) hoL
  have hlen : (ys.map V.str).length ≤ sizeLine := by
    rw [List.length_map, g2.length_eq]
    exact Nat.le_trans (Nat.le_of_lt h64) (by decide)
  refine wpAny_pure ⟨_, rfl, q _ _ ys h'.objs.size g2 g3 (I1.hok.fresh (Nat.le_refl _)) (I1.laid (t' := tk) (fun b u e => ?_) (Nat.le_refl _)
    (show ObjOk X.prog X.w _ _ _ (.lst (ys.map V.str)) from ⟨hlen, ((arrOf st').map (·.2)).toList, e', vals_of_strs g1, by rw [Array.toArray_toList]; exact he'⟩)) rfl⟩
  have hb : b < h'.objs.size := Heap.lt_size e
  rw [PyProof.Rows.sortedHeap_old (Nat.ne_of_lt hb) (by rw [size_push']; exact Nat.lt_succ_of_lt hb)]
  exact Heap.get?_push_of_some _ e
def tSortedKeys (td : TE) : TE := fun σ H Q => td σ H fun v H1 => ∃ (a : Addr) (kvs : List (L2.Key × V)) (ks : List Str), v = .ref a ∧ Rd H1 a (.dK kvs) ∧ kvs.map (·.1) = ks.map Sum.inr ∧ ks.length < 64 ∧ ∀ q, H1 q = none → Q (.ref q) (upd H1 q (.lst ((sortS ks).map V.str)))
theorem pe_sortedKeys (hc : X.calm = true) (hg : Gl X "sorted") (hm : X.mg "sorted" = none) (he : PE X o td) (hbase : attributeBase o "keys" X.env (eval o X.env) = eval o X.env) (hline : (apos.endLine == cpos.line) = true)
    (hs : starEach [.Call (.Attribute o "keys" apos) [] [] cpos] X.env = (false, eval (.Call (.Attribute o "keys" apos) [] [] cpos) X.env) :: starEach [] X.env) :
    PE X (.Call (.Name "sorted" p) [.Call (.Attribute o "keys" apos) [] [] cpos] [] pos) (tSortedKeys td) := by
  refine ⟨fun pins s σ H Q I h => ?_⟩
  refine Call_ (ld_blt I hg hm boot_sorted' (PyProof.Rows.callWith_builtin1 (args_cons ?_ hs) hs rfl))
  refine wpAny_Call_method (T := "dict") (id := "dict.keys") hbase rfl hline F.plainAttrs_dict F.slot_dict_keys F.type_dict_keys (thn (he.run pins s σ H _ I h) fun u s1 ⟨x, H1, I1, rx, d, kvs, ks, ex, hd, hks, h64, q⟩ => ?_)
  subst ex
  obtain rfl : u = Value.ref d := rx
  obtain ⟨hz, lo, vs, kv, dd⟩ := dk_rd I1.hok hd
  obtain ⟨ep, hat⟩ := dd.dictAt
  refine ⟨dd.typeIs, dd.mapOf.noDict, ?_⟩
  have I2 : Inv X pins σ H1 { s1 with heap := s1.heap.push { cls := .type "dict_keys", data := .fields #[.ref d] } } := I1.kept (t' := s1.toks) fun b ob q => Heap.get?_push_of_some _ q
  refine method_meetsIn F.slot_dict_keys F.entry_dict_keys rfl (PySem.evalArgs_none ⟨rfl, dd.typeIs, F.args_dict_keys_1 _, _, PySem.W.kdl_meets_keys (mixKind X.prog X.w) d lo, ⟨vs, dd⟩, ?_⟩)
  refine args_nil ?_
  have hkeys : vs.map (·.1) = ks.map Sum.inr := kv.keys.symm.trans hks
  have hl : vs.length = ks.length := by
    have e := congrArg List.length hkeys
    rw [List.length_map, List.length_map] at e
    exact e
  refine sorted_src (X := X) I2 hc (PySem.W.kdl_keys (knd := mixKind X.prog X.w) (kvs := vs) (ep := ep) (r := s1.heap.objs.size) (d := d)) ⟨⟨_, Heap.get?_push_size _ rfl, rfl, rfl⟩, hat.push _⟩ hl h64 (fun j v ⟨k, x, e1, e2⟩ => ?_) fun u s' ys pp py sy hp J r => ?_
  · have e3 : (vs.map (·.1))[j]? = some k := by rw [List.getElem?_map, e1]; all_goals rfl
    rw [hkeys, List.getElem?_map] at e3
    cases e4 : ks[j]? with
    | none => rw [e4] at e3; cases e3
    | some y =>
      rw [e4] at e3
      have e5 : Sum.inr y = k := Option.some.inj e3
      subst e5
      obtain ⟨t, ev⟩ := Value.isStrOf_shape (x := y) (v := v) e2
      exact ⟨y, t, rfl, ev⟩
  · have := sortS_is py sy
    subst this
    exact ⟨.ref pp, _, J, r, q pp hp⟩
end
section
variable {X : Cx} {env : Env'} {α : Type} [Dat α] {o : Expr} {p pos apos cpos : Pos} {d : Dc α}
theorem repD.seconds {K : PySem.W.Frag} {H : Hp} {ws : List (L2.Key × V)} {kvs : List (Str × α)} (h : repD K H ws kvs) : repL K H (ws.map (·.2)) (kvs.map Prod.snd) := by
  unfold repD at h
  induction h with
  | nil => exact .nil
  | cons h0 _ ih => exact .cons h0.2 ih
/-- list(d.values()) -/
theorem en_listVals (hc : X.calm = true) (hm : X.mg "list" = none) (h : EX X o env d) (hg : Gl X "list" := by rfl) (hbase : attributeBase o "values" X.env (eval o X.env) = eval o X.env := by rfl) (hline : (apos.endLine == cpos.line) = true := by rfl)
    (hs : starEach [.Call (.Attribute o "values" apos) [] [] cpos] X.env = (false, eval (.Call (.Attribute o "values" apos) [] [] cpos) X.env) :: starEach [] X.env := by exact star_plain rfl _ _) :
    EN X (.Call (.Name "list" p) [.Call (.Attribute o "values" apos) [] [] cpos] [] pos) env (OL.mk (d.kvs.map Prod.snd)) := by
  intro O fp σ H S Q q
  refine tE_of fun pins s I => ?_
  refine (pe_listVals hc hg hm (mE X o) hbase hline hs).run pins s σ H Q I ?_
  refine h O fp σ H S _ fun v H1 e1 r1 => ?_
  obtain ⟨ad, ws, rfl, t1, l1⟩ := r1
  refine ⟨ad, ws, rfl, wo_le _ _ trivial t1, fun u hu => ?_⟩
  exact q (.ref u) [u] _ (e1.trans (Ex.new hu)) (fun b hb => by rw [List.mem_singleton.mp hb]; exact e1.free hu) (fun b hb => by rw [List.mem_singleton.mp hb]; exact ⟨_, upd_same⟩) fun Hf le => ⟨u, _, rfl, rfl, upd_same, (repD.seconds l1).mono (Le.trans (le_new hu) le)⟩
/-- sorted(d.keys()) -/
theorem en_sortedK (hc : X.calm = true) (hm : X.mg "sorted" = none) (h : EX X o env d) (hl : d.kvs.length < 64) (hg : Gl X "sorted" := by rfl) (hbase : attributeBase o "keys" X.env (eval o X.env) = eval o X.env := by rfl) (hline : (apos.endLine == cpos.line) = true := by rfl)
    (hs : starEach [.Call (.Attribute o "keys" apos) [] [] cpos] X.env = (false, eval (.Call (.Attribute o "keys" apos) [] [] cpos) X.env) :: starEach [] X.env := by exact star_plain rfl _ _) :
    EN X (.Call (.Name "sorted" p) [.Call (.Attribute o "keys" apos) [] [] cpos] [] pos) env (OL.mk (sortS (d.kvs.map Prod.fst))) := by
  intro O fp σ H S Q q
  refine tE_of fun pins s I => ?_
  refine (pe_sortedKeys hc hg hm (mE X o) hbase hline hs).run pins s σ H Q I ?_
  refine h O fp σ H S _ fun v H1 e1 r1 => ?_
  obtain ⟨ad, ws, rfl, t1, l1⟩ := r1
  refine ⟨ad, ws, d.kvs.map Prod.fst, rfl, wo_le _ _ trivial t1, l1.names, by rw [List.length_map]; exact hl, fun u hu => ?_⟩
  exact q (.ref u) [u] _ (e1.trans (Ex.new hu)) (fun b hb => by rw [List.mem_singleton.mp hb]; exact e1.free hu) (fun b hb => by rw [List.mem_singleton.mp hb]; exact ⟨_, upd_same⟩) fun Hf le => ⟨u, _, rfl, rfl, upd_same, strs_rep _⟩
end
end R
set_option maxHeartbeats 1000000
set_option autoImplicit false
/-! R33: an object of one's own that holds more than one address is changed; slices of tuples -/
namespace R
open PySem PySem.Spec PyProof.Rows L2
section
variable {K : PySem.W.Frag} {O : Addr → Prop} {fp : Nat → List Addr} {env : Env'} {σ : L2.St} {H H' : Hp}
theorem setF_at {i : Nat} {L : List Addr} : setF fp i L i = L := by unfold setF; rw [if_pos rfl]
theorem setF_ne {i j : Nat} {L : List Addr} (h : j ≠ i) : setF fp i L j = fp j := by unfold setF; rw [if_neg h]
theorem chg_le {i : Nat} {L : List Addr} (S : SOk K O fp env σ H) (hk : ∀ b o, H b = some o → b ∉ fp i → H' b = some o) (hL : ∀ b ∈ L, b ∈ fp i ∨ H b = none) : Le (wo H (UU O fp)) (wo H' (UU O (setF fp i L))) := Ex.le fun a o q => by
  obtain ⟨n, q⟩ := wo_some q
  have n1 : a ∉ fp i := fun z => n (.inr ⟨i, z⟩)
  rw [wo_out]
  · exact hk a o q n1
  · rintro (z | ⟨j, z⟩)
    · exact n (.inl z)
    · by_cases e : j = i
      · subst e
        rw [setF_at] at z
        rcases hL a z with y | y
        · exact n1 y
        · rw [q] at y; cases y
      · rw [setF_ne e] at z
        exact n (.inr ⟨j, z⟩)
/-- the object of slot i is changed, with what it holds -/
theorem SOk.chg {β γ : Type} [Own β] [Own γ] (S : SOk K O fp env σ H) {i : Nat} {x : β} {y : γ} {L : List Addr} (hi : env[i]? = some (.own x)) (hk : ∀ b o, H b = some o → b ∉ fp i → H' b = some o) (hL : ∀ b ∈ L, b ∈ fp i ∨ H b = none) (hd : ∀ b ∈ L, ∃ o, H' b = some o)
    (hy : ∀ v, σ[i]? = some (some v) → Own.own K (wo H' (UU O (setF fp i L))) H' v L y) : SOk K O (setF fp i L) (env.set i (.own y)) σ H' := by
  have le := chg_le S hk hL
  exact {
    len := by rw [List.length_set]; exact S.len
    bnd := fun a h => let ⟨o, q⟩ := S.bnd a h; ⟨o, hk a o q fun z => S.fpO i a z h⟩
    fpO := fun j a h => by
      by_cases e : j = i
      · subst e
        rw [setF_at] at h
        rcases hL a h with z | z
        · exact S.fpO j a z
        · intro y
          obtain ⟨o, q⟩ := S.bnd a y
          rw [z] at q; cases q
      · rw [setF_ne e] at h; exact S.fpO j a h
    sep := fun j k a h1 h2 => by
      have key : ∀ m, m ≠ i → a ∈ fp m → a ∈ L → False := fun m hm z1 z2 => by
        rcases hL a z2 with z | z
        · exact hm (S.sep m i a z1 z)
        · obtain ⟨o, q⟩ := S.dom m a z1
          rw [z] at q; cases q
      by_cases e1 : j = i
      · by_cases e2 : k = i
        · rw [e1, e2]
        · rw [e1, setF_at] at h1
          rw [setF_ne e2] at h2
          exact (key k e2 h2 h1).elim
      · rw [setF_ne e1] at h1
        by_cases e2 : k = i
        · rw [e2, setF_at] at h2
          exact (key j e1 h1 h2).elim
        · rw [setF_ne e2] at h2
          exact S.sep j k a h1 h2
    dom := fun j a h => by
      by_cases e : j = i
      · subst e; rw [setF_at] at h; exact hd a h
      · rw [setF_ne e] at h
        obtain ⟨o, q⟩ := S.dom j a h
        exact ⟨o, hk a o q fun z => e (S.sep j i a h z)⟩
    sl := fun j s q => by
      by_cases e : i = j
      · subst e
        have hl : i < env.length := (List.getElem?_eq_some_iff.mp hi).1
        rw [List.getElem?_set_self hl] at q
        cases q
        obtain ⟨v, hv, _⟩ := S.sl i _ hi
        exact ⟨v, hv, by rw [setF_at]; exact hy v hv⟩
      · rw [List.getElem?_set_ne e] at q
        have r := S.sl j s q
        rw [setF_ne fun z => e z.symm]
        cases s with
        | any => exact trivial
        | dat x =>
          obtain ⟨v, h1, h2⟩ := r
          exact ⟨v, h1, Dat.mono le h2⟩
        | own x =>
          obtain ⟨v, h1, h2⟩ := r
          refine ⟨v, h1, Own.frame le (fun a ha => ?_) h2⟩
          obtain ⟨o, q⟩ := S.dom j a ha
          rw [q, hk a o q fun z => e (S.sep i j a z ha)] }
theorem Keep.chg {i : Nat} {L : List Addr} (hk : ∀ b o, H b = some o → b ∉ fp i → H' b = some o) (hL : ∀ b ∈ L, b ∈ fp i ∨ H b = none) : Keep fp H (setF fp i L) H' := ⟨fun a o n h => hk a o h fun z => n ⟨i, z⟩, fun j a h => by
  by_cases e : j = i
  · subst e
    rw [setF_at] at h
    rcases hL a h with z | z
    · exact .inl ⟨j, z⟩
    · exact .inr z
  · rw [setF_ne e] at h
    exact .inl ⟨j, h⟩⟩
end
/-! ### slices of tuples -/
section
variable {X : Cx} {env : Env'} {α : Type} [Dat α] {a e : Expr} {pos p2 : Pos}
theorem ARep.drop {K : PySem.W.Frag} {H : Hp} : ∀ {vs : List V} {xs : List Sl} (n : Nat), ARep K H vs xs → ARep K H (vs.drop n) (xs.drop n)
  | _, _, 0, h => h
  | [], [], n + 1, _ => trivial
  | _ :: _, .dat (i := i) x :: _, n + 1, h => ARep.drop n h.2
  | [], _ :: _, _ + 1, h => by simp [ARep] at h
  | _ :: _, [], _ + 1, h => by simp [ARep] at h
  | _ :: _, .any :: _, _ + 1, h => by simp [ARep] at h
  | _ :: _, .own (i := _) _ :: _, _ + 1, h => by simp [ARep] at h
theorem ARep.take {K : PySem.W.Frag} {H : Hp} : ∀ {vs : List V} {xs : List Sl} (n : Nat), ARep K H vs xs → ARep K H (vs.take n) (xs.take n)
  | [], [], 0, h => trivial
  | _ :: _, _, 0, h => by simp [ARep]
  | [], _ :: _, 0, h => by simp [ARep]
  | [], [], n + 1, _ => trivial
  | _ :: _, .dat (i := i) x :: _, n + 1, h => ⟨h.1, ARep.take n h.2⟩
  | [], _ :: _, _ + 1, h => by simp [ARep] at h
  | _ :: _, [], _ + 1, h => by simp [ARep] at h
  | _ :: _, .any :: _, _ + 1, h => by simp [ARep] at h
  | _ :: _, .own (i := _) _ :: _, _ + 1, h => by simp [ARep] at h
/-- t[lo:hi], not the whole -/
theorem ex_sliceT {τ υ : Type} [Dat τ] [T : Tup τ] [Dat υ] [T' : Tup υ] {p : τ} {q : υ} {lo hi : Option Expr} {l u : Option Int} (h : EX X a env p) (hl : EXO X lo env l) (hu : EXO X hi env u)
    (hw : ¬ (HT.sIx (T.comps p).length 0 l = 0 ∧ HT.sIx (T.comps p).length (T.comps p).length u = (T.comps p).length)) (hq : ((T.comps p).drop (HT.sIx (T.comps p).length 0 l)).take (HT.sIx (T.comps p).length (T.comps p).length u - HT.sIx (T.comps p).length 0 l) = T'.comps q) : EX X (.Subscript a (.Slice lo hi none p2) pos) env q :=
  ex_of (pe_slice sl_tup (mE X a) (mPo X lo) (mPo X hi)) fun O fp σ H S Q k => h O fp σ H S _ fun v1 H1 e1 r1 => hl O fp σ H1 (S.ex e1) _ fun H2 e2 => hu O fp σ H2 ((S.ex e1).ex e2) _ fun H3 e3 => by
    rw [T.is] at r1
    obtain ⟨ad, vs, rfl, t1, l1⟩ := r1
    have ee := e2.trans e3
    have hlen := l1.length
    refine ⟨ad, vs, rfl, wo_le.tup ((wo_ex (U := UU O fp) ee).le.tup t1), by rw [hlen]; exact hw, fun pp hp => ?_⟩
    have e4 : Ex H3 (upd H3 pp (.tup (cutV vs l u))) := Ex.new hp
    refine k _ _ ((e1.trans ee).trans e4) ?_
    rw [T'.is]
    refine ⟨pp, cutV vs l u, rfl, .inl (.inl (upd_out (((S.ex e1).ex ee).fresh hp))), ?_⟩
    rw [← hq]
    have ec : cutV vs l u = (vs.drop (HT.sIx (T.comps p).length 0 l)).take (HT.sIx (T.comps p).length (T.comps p).length u - HT.sIx (T.comps p).length 0 l) := by unfold cutV; rw [hlen]
    have rr := ((l1.mono (wo_ex (ee.trans e4)).le).drop (HT.sIx (T.comps p).length 0 l)).take (HT.sIx (T.comps p).length (T.comps p).length u - HT.sIx (T.comps p).length 0 l)
    rw [← ec] at rr
    exact rr
end
end R
set_option maxHeartbeats 1000000
set_option autoImplicit false
/-! R34: a list of one's own of rows whose dicts are one's own -/
namespace R
open PySem PySem.Spec PyProof.Rows L2
structure OR (α β γ δ ε : Type) where
  l : List (T5 (Dc α) β γ δ ε)
section
variable {α β γ δ ε : Type} [Dat α] [Dat β] [Dat γ] [Dat δ] [Dat ε]
inductive RowsAt (K : PySem.W.Frag) (Hf H : Hp) : List V → List Addr → List (T5 (Dc α) β γ δ ε) → Prop
  | nil : RowsAt K Hf H [] [] []
  | cons {t d : Addr} {v2 v3 v4 v5 : V} {ws : List (L2.Key × V)} {x : T5 (Dc α) β γ δ ε} {vs : List V} {ds : List Addr} {xs : List (T5 (Dc α) β γ δ ε)} : SqT K Hf t [.ref d, v2, v3, v4, v5] → H d = some (.dK ws) → repD K Hf ws x.a.kvs → Dat.rep K Hf v2 x.b → Dat.rep K Hf v3 x.c → Dat.rep K Hf v4 x.d → Dat.rep K Hf v5 x.e → RowsAt K Hf H vs ds xs → RowsAt K Hf H (.ref t :: vs) (d :: ds) (x :: xs)
variable {K : PySem.W.Frag} {Hf Hf' H H' : Hp} {vs : List V} {ds : List Addr} {xs : List (T5 (Dc α) β γ δ ε)}
theorem RowsAt.frame (h : RowsAt K Hf H vs ds xs) (e : Le Hf Hf') (f : ∀ a ∈ ds, H' a = H a) : RowsAt K Hf' H' vs ds xs := by
  induction h with
  | nil => exact .nil
  | cons h1 h2 h3 h4 h5 h6 h7 _ ih =>
    exact .cons (e.tup h1) (by rw [f _ List.mem_cons_self]; exact h2) (h3.mono e) (Dat.mono e h4) (Dat.mono e h5) (Dat.mono e h6) (Dat.mono e h7) (ih fun a ha => f a (List.mem_cons_of_mem _ ha))
theorem RowsAt.len (h : RowsAt K Hf H vs ds xs) : vs.length = xs.length := by
  induction h with
  | nil => rfl
  | cons _ _ _ _ _ _ _ _ ih => rw [List.length_cons, List.length_cons, ih]
theorem RowsAt.there (h : RowsAt K Hf H vs ds xs) : ∀ a ∈ ds, ∃ ws, H a = some (.dK ws) := by
  induction h with
  | nil => intro a z; cases z
  | cons _ h2 _ _ _ _ _ _ ih =>
    intro a z
    rcases List.mem_cons.mp z with e | z
    · rw [e]; exact ⟨_, h2⟩
    · exact ih a z
theorem RowsAt.rep (h : RowsAt K Hf H vs ds xs) (q : ∀ a ∈ ds, Hf a = H a) : repL K Hf vs xs := by
  induction h with
  | nil => exact .nil
  | cons h1 h2 h3 h4 h5 h6 h7 _ ih =>
    exact .cons ⟨_, _, rfl, h1, ⟨_, _, rfl, .inl (by rw [q _ List.mem_cons_self]; exact h2), h3⟩, h4, h5, h6, h7, trivial⟩ (ih fun a ha => q a (List.mem_cons_of_mem _ ha))
theorem RowsAt.app (h : RowsAt K Hf H vs ds xs) {vs2 : List V} {ds2 : List Addr} {xs2 : List (T5 (Dc α) β γ δ ε)} (h2 : RowsAt K Hf H vs2 ds2 xs2) : RowsAt K Hf H (vs ++ vs2) (ds ++ ds2) (xs ++ xs2) := by
  induction h with
  | nil => exact h2
  | cons a b c d e f g _ ih => exact .cons a b c d e f g ih
instance : Own (OR α β γ δ ε) where
  own K Hf H v L x := ∃ a vs ds, v = .ref a ∧ L = a :: ds ∧ L.Nodup ∧ H a = some (.lst vs) ∧ RowsAt K Hf H vs ds x.l
  frame := fun e f ⟨a, vs, ds, h1, h2, h3, h4, h5⟩ => ⟨a, vs, ds, h1, h2, h3, by rw [f a (by rw [h2]; exact List.mem_cons_self)]; exact h4, h5.frame e fun b hb => f b (by rw [h2]; exact List.mem_cons_of_mem _ hb)⟩
theorem own_frzR {v : V} {L : List Addr} (h : Own.own K Hf H v L (OR.mk xs)) (q : ∀ a ∈ L, Hf a = H a) : Dat.rep K Hf v xs := by
  obtain ⟨a, vs, ds, h1, h2, h3, h4, h5⟩ := h
  exact ⟨a, vs, h1, .inl (.inl (by rw [q a (by rw [h2]; exact List.mem_cons_self)]; exact h4)), h5.rep fun b hb => q b (by rw [h2]; exact List.mem_cons_of_mem _ hb)⟩
end
section
variable {X : Cx} {W : WX} {env env' : Env'} {ρ : Type} [Res ρ] {α β γ δ ε : Type} [Dat α] [Dat β] [Dat γ] [Dat δ] [Dat ε] {po : Po ρ} {e a b c : Expr} {es : List Expr} {pos p p2 : Pos} {rest : List Stmt} {st : Stmt} {xs : List (T5 (Dc α) β γ δ ε)}
theorem en_nilR : EN X (.List [] pos) env (OR.mk ([] : List (T5 (Dc α) β γ δ ε))) := by
  intro O fp σ H S Q q
  refine tE_of fun pins s I => ?_
  refine (pe_lst (pa_nil)).run pins s σ H Q I ?_
  refine ⟨Nat.zero_le _, fun u hu => ?_⟩
  exact q (.ref u) [u] _ (Ex.new hu) (fun b hb => by rw [List.mem_singleton.mp hb]; exact hu) (fun b hb => by rw [List.mem_singleton.mp hb]; exact ⟨_, upd_same⟩) fun Hf le => ⟨u, [], [], rfl, rfl, by simp, upd_same, .nil⟩
theorem ex_newR (h : EN X e env (OR.mk xs)) : EX X e env xs := ex_new h fun _ _ _ _ _ => own_frzR
theorem sx_frzR {i : Nat} (hi : env[i]? = some (.own (OR.mk xs))) (h : SX X W rest (env.set i (.dat xs)) po) : SX X W rest env po := fun O fp σ H S D G => h O (setF fp i []) σ H (S.frz hi fun v Hf r q => own_frzR r q) D (G.step Keep.frz')
theorem et_thawR {k : Bool} {i : Nat} (hi : env[i]? = some (.own (OR.mk xs))) (h : ET X e (env.set i (.dat xs)) k) : ET X e env k := fun O fp σ H S Q r => h O (setF fp i []) σ H (S.frz hi fun v Hf r q => own_frzR r q) Q r
theorem SOk.or {O : Addr → Prop} {fp : Nat → List Addr} {σ : L2.St} {H : Hp} {i : Nat} (S : SOk X.K O fp env σ H) (hi : env[i]? = some (.own (OR.mk xs))) : ∃ ad vs ds, σ[i]? = some (some (.ref ad)) ∧ fp i = ad :: ds ∧ (ad :: ds).Nodup ∧ H ad = some (.lst vs) ∧ RowsAt X.K (wo H (UU O fp)) H vs ds xs := by
  obtain ⟨v, h1, ad, vs, ds, h2, h3, h4, h5, h6⟩ := S.sl i _ hi
  subst h2
  exact ⟨ad, vs, ds, h1, h3, by rw [← h3]; exact h4, h5, h6⟩
theorem SOk.hideL {K : PySem.W.Frag} {O : Addr → Prop} {fp : Nat → List Addr} {σ : L2.St} {H H1 : Hp} {L : List Addr} (S : SOk K O fp env σ H) (e : Ex H H1) (hL : ∀ a ∈ L, H a = none) (hd : ∀ a ∈ L, ∃ o, H1 a = some o) : SOk K (fun a => O a ∨ a ∈ L) fp env σ H1 where
  len := S.len
  bnd := fun a h => by
    rcases h with h | h
    · obtain ⟨o, q⟩ := S.bnd a h
      exact ⟨o, e a o q⟩
    · exact hd a h
  fpO := fun i a h z => by
    rcases z with z | z
    · exact S.fpO i a h z
    · obtain ⟨o, q⟩ := S.dom i a h
      rw [hL a z] at q; cases q
  sep := S.sep
  dom := fun i a h => let ⟨o, q⟩ := S.dom i a h; ⟨o, e a o q⟩
  sl := fun i s q => by
    have le : Le (wo H (UU O fp)) (wo H1 (UU (fun a => O a ∨ a ∈ L) fp)) := Ex.le fun a o z => by
      obtain ⟨n, z⟩ := wo_some z
      rw [wo_out]
      · exact e a o z
      · rintro ((y | y) | y)
        · exact n (.inl y)
        · rw [hL a y] at z; cases z
        · exact n (.inr y)
    have r := S.sl i s q
    cases s with
    | any => exact trivial
    | dat x =>
      obtain ⟨v, h1, h2⟩ := r
      exact ⟨v, h1, Dat.mono le h2⟩
    | own x =>
      obtain ⟨v, h1, h2⟩ := r
      refine ⟨v, h1, Own.frame le (fun a ha => ?_) h2⟩
      obtain ⟨o, q⟩ := S.dom i a ha
      rw [q, e a o q]
theorem ne_of_none' {H : Hp} {a b : Addr} {o : HO} (h : H a = none) (h' : H b = some o) : a ≠ b := fun z => by subst z; rw [h] at h'; cases h'
/-- l.append((a new dict, b, c, d, e)) -/
theorem sx_appR {i : Nat} {e0 : Expr} {d : Dc α} {x2 : β} {x3 : γ} {x4 : δ} {x5 : ε} (ps : PS X st (tDrop (tBM X.K "list" rAppend (tVar i) (tCons (tTup (tCons (tE X e0) (tA X es))) tNil)))) (hi : env[i]? = some (.own (OR.mk xs))) (h0 : EN X e0 env (OD.mk d)) (he : EA X es env [.dat x2, .dat x3, .dat x4, .dat x5]) (hz : xs.length < 100000) (h : SX X W rest (env.set i (.own (OR.mk (xs ++ [⟨d, x2, x3, x4, x5⟩])))) po) : SX X W (st :: rest) env po :=
  sx_cons (fun e => e = env.set i (.own (OR.mk (xs ++ [⟨d, x2, x3, x4, x5⟩])))) (s1_of ps fun O fp σ H S D G => by
    obtain ⟨ad, vs, ds, h1, h2, h3, h4, h5⟩ := S.or hi
    refine ⟨.ref ad, h1, .inl ⟨rfl, vs, .inl (.inl h4)⟩, ?_⟩
    refine h0 O fp σ H S _ fun vd L H1 e1 hL hd ow => ?_
    obtain ⟨dd, ws0, hvd, hLd, hdd, _⟩ := ow _ (Le.refl _)
    subst hvd hLd
    have S1 := S.hideL e1 hL hd
    refine he _ fp σ H1 S1 _ fun us H2 e2 ar => ?_
    match us, ar with
    | [u2, u3, u4, u5], ⟨r2, r3, r4, r5, _⟩ =>
    have S2 := S1.ex e2
    refine ⟨by show 5 ≤ sizeLine; decide, fun t ht => ?_⟩
    have e3 : Ex H2 (upd H2 t (.tup [.ref dd, u2, u3, u4, u5])) := Ex.new ht
    have nd : H dd = none := hL dd (List.mem_singleton.mpr rfl)
    have ne : dd ≠ ad := ne_of_none' nd h4
    have e12 := e1.trans (e2.trans e3)
    have ht0 : H t = none := (e1.trans e2).free ht
    have ntd : t ≠ dd := fun z => by
      subst z
      rw [e2 t _ hdd] at ht; cases ht
    have nta : t ≠ ad := ne_of_none' ht0 h4
    refine ⟨ad, vs, .ref t, rfl, rfl, e12 ad _ h4, by rw [h5.len]; exact Nat.lt_of_lt_of_le hz (by decide), ?_⟩
    have hk : ∀ b o, H b = some o → b ∉ fp i → (upd (upd H2 t (.tup [.ref dd, u2, u3, u4, u5])) ad (.lst (vs ++ [.ref t]))) b = some o := fun b o hb nb => by
      rw [upd_ne (fun z => nb (by rw [h2, z]; exact List.mem_cons_self))]
      exact e12 b o hb
    have hLL : ∀ b ∈ ad :: (ds ++ [dd]), b ∈ fp i ∨ H b = none := fun b hb => by
      rcases List.mem_cons.mp hb with z | z
      · exact .inl (by rw [h2, z]; exact List.mem_cons_self)
      · rcases List.mem_append.mp z with z | z
        · exact .inl (by rw [h2]; exact List.mem_cons_of_mem _ z)
        · exact .inr (by rw [List.mem_singleton.mp z]; exact nd)
    refine G.nx _ (setF fp i (ad :: (ds ++ [dd]))) σ _ rfl (Keep.chg hk hLL) (S.chg hi hk hLL (fun b hb => ?_) fun v hv => ?_)
    · by_cases z : b = ad
      · rw [z, upd_same]; exact ⟨_, rfl⟩
      · rw [upd_ne z]
        rcases List.mem_cons.mp hb with y | y
        · exact absurd y z
        · rcases List.mem_append.mp y with y | y
          · obtain ⟨w0, hw⟩ := h5.there b y
            exact ⟨_, e12 b _ hw⟩
          · rw [List.mem_singleton.mp y]
            exact ⟨_, (e2.trans e3) dd _ hdd⟩
    · rw [h1] at hv
      cases hv
      have le := chg_le S hk hLL
      have nout : ∀ b, H b = none → b ≠ dd → ¬ UU O (setF fp i (ad :: (ds ++ [dd]))) b := fun b hb hne z => by
        rcases z with z | ⟨j, z⟩
        · obtain ⟨o, q⟩ := S.bnd b z
          rw [hb] at q; cases q
        · by_cases ej : j = i
          · subst ej
            rw [setF_at] at z
            rcases List.mem_cons.mp z with y | y
            · rw [y, h4] at hb; cases hb
            · rcases List.mem_append.mp y with y | y
              · obtain ⟨w0, hw⟩ := h5.there b y
                rw [hw] at hb; cases hb
              · exact hne (List.mem_singleton.mp y)
          · rw [setF_ne ej] at z
            obtain ⟨o, q⟩ := S.dom j b z
            rw [hb] at q; cases q
      have le2 : Le (wo H2 (UU (fun a => O a ∨ a ∈ [dd]) fp)) (wo (upd (upd H2 t (.tup [.ref dd, u2, u3, u4, u5])) ad (.lst (vs ++ [.ref t]))) (UU O (setF fp i (ad :: (ds ++ [dd]))))) := by
        refine Ex.le fun b o q => ?_
        obtain ⟨n, q⟩ := wo_some q
        have nba : b ≠ ad := fun z => n (.inr ⟨i, by rw [h2, z]; exact List.mem_cons_self⟩)
        rw [wo_out, upd_ne nba]
        · exact e3 b o q
        · rintro (z | ⟨j, z⟩)
          · exact n (.inl (.inl z))
          · by_cases ej : j = i
            · subst ej
              rw [setF_at] at z
              rcases List.mem_cons.mp z with y | y
              · exact nba y
              · rcases List.mem_append.mp y with y | y
                · exact n (.inr ⟨j, by rw [h2]; exact List.mem_cons_of_mem _ y⟩)
                · exact n (.inl (.inr y))
            · rw [setF_ne ej] at z
              exact n (.inr ⟨j, z⟩)
      have le1 : Le (wo H1 (fun a => UU O fp a ∨ a ∈ [dd])) (wo (upd (upd H2 t (.tup [.ref dd, u2, u3, u4, u5])) ad (.lst (vs ++ [.ref t]))) (UU O (setF fp i (ad :: (ds ++ [dd]))))) := by
        refine Le.trans (Ex.le fun b o q => ?_) le2
        obtain ⟨n, q⟩ := wo_some q
        rw [wo_out]
        · exact e2 b o q
        · rintro ((z | z) | z)
          · exact n (.inl (.inl z))
          · exact n (.inr z)
          · exact n (.inl (.inr z))
      obtain ⟨dd', ws, hv', hl', hdw, hrep⟩ := ow _ le1
      cases hv'
      refine ⟨ad, vs ++ [.ref t], ds ++ [dd], rfl, rfl, ?_, upd_same, ?_⟩
      · have h3' := List.nodup_cons.mp h3
        refine List.nodup_cons.mpr ⟨fun z => ?_, ?_⟩
        · rcases List.mem_append.mp z with z | z
          · exact h3'.1 z
          · exact ne (List.mem_singleton.mp z).symm
        · refine List.nodup_append.mpr ⟨h3'.2, by simp, fun x hx y hy z => ?_⟩
          rw [List.mem_singleton] at hy
          subst z hy
          obtain ⟨w0, hw⟩ := h5.there x hx
          rw [nd] at hw; cases hw
      · refine RowsAt.app (h5.frame le fun b hb => ?_) ?_
        · obtain ⟨w0, hw⟩ := h5.there b hb
          have nb : b ≠ ad := fun z => (List.nodup_cons.mp h3).1 (z ▸ hb)
          rw [upd_ne nb, hw]
          exact e12 b _ hw
        · refine .cons (ws := ws) ?_ ?_ hrep (Dat.mono le2 r2) (Dat.mono le2 r3) (Dat.mono le2 r4) (Dat.mono le2 r5) .nil
          · refine .inl (.inl ?_)
            rw [wo_out (nout t ht0 ntd), upd_ne nta, upd_same]
          · rw [upd_ne ne]
            exact (e2.trans e3) dd _ hdw) fun e he => by subst he; exact h
theorem sx_clearR {i : Nat} (ps : PS X st (tDrop (tBM0 X.K "list" rClear (tVar i)))) (hi : env[i]? = some (.own (OR.mk xs))) (h : SX X W rest (env.set i (.own (OR.mk ([] : List (T5 (Dc α) β γ δ ε))))) po) : SX X W (st :: rest) env po :=
  sx_step ps (fun O fp σ H S D q => by
    obtain ⟨ad, vs, ds, h1, h2, h3, h4, h5⟩ := S.or hi
    refine ⟨.ref ad, h1, .inl ⟨rfl, vs, .inl (.inl h4)⟩, ad, vs, rfl, rfl, h4, ?_⟩
    have hk : ∀ b o, H b = some o → b ∉ fp i → (upd H ad (.lst [])) b = some o := fun b o hb nb => by
      rw [upd_ne (fun z => nb (by rw [h2, z]; exact List.mem_cons_self))]
      exact hb
    have hL : ∀ b ∈ [ad], b ∈ fp i ∨ H b = none := fun b hb => .inl (by rw [List.mem_singleton.mp hb, h2]; exact List.mem_cons_self)
    refine q (setF fp i [ad]) σ _ (Keep.chg hk hL) (S.chg hi hk hL (fun b hb => by rw [List.mem_singleton.mp hb]; exact ⟨_, upd_same⟩) fun v hv => ?_)
    rw [h1] at hv
    cases hv
    exact ⟨ad, [], [], rfl, rfl, by simp, upd_same, .nil⟩) h
def clr (x : T5 (Dc α) β γ δ ε) : T5 (Dc α) β γ δ ε := { x with a := ⟨[]⟩ }
def clN : Nat → List (T5 (Dc α) β γ δ ε) → List (T5 (Dc α) β γ δ ε)
  | 0, xs => xs
  | _ + 1, [] => []
  | n + 1, x :: r => clr x :: clN n r
theorem clN_len : ∀ (n : Nat) (xs : List (T5 (Dc α) β γ δ ε)), (clN n xs).length = xs.length
  | 0, _ => rfl
  | _ + 1, [] => rfl
  | n + 1, x :: r => by show (clr x :: clN n r).length = _; rw [List.length_cons, clN_len n r, List.length_cons]
theorem clN_all : ∀ (xs : List (T5 (Dc α) β γ δ ε)), clN xs.length xs = xs.map clr
  | [] => rfl
  | x :: r => by show clr x :: clN r.length r = _; rw [clN_all r]; rfl
theorem RowsAt.clear {K : PySem.W.Frag} {Hf H : Hp} : ∀ (n : Nat) {vs : List V} {ds : List Addr} {xs : List (T5 (Dc α) β γ δ ε)}, RowsAt K Hf H vs ds (clN n xs) → ds.Nodup → n < xs.length → ∃ t d v2 v3 v4 v5 ws, vs[n]? = some (.ref t) ∧ d ∈ ds ∧ SqT K Hf t [.ref d, v2, v3, v4, v5] ∧ H d = some (.dK ws) ∧ RowsAt K Hf (upd H d (.dK [])) vs ds (clN (n + 1) xs)
  | 0, vs, ds, [], h, nd, hn => absurd hn (by simp)
  | n + 1, vs, ds, [], h, nd, hn => absurd hn (by simp)
  | 0, vs, ds, x :: r, h, nd, _ => by
    have h : RowsAt K Hf H vs ds (x :: r) := h
    cases h with
    | cons h1 h2 h3 h4 h5 h6 h7 h8 =>
      exact ⟨_, _, _, _, _, _, _, rfl, List.mem_cons_self, h1, h2, .cons (ws := []) h1 upd_same .nil h4 h5 h6 h7 (h8.frame (Le.refl _) fun a ha => upd_ne fun z => (List.nodup_cons.mp nd).1 (z ▸ ha))⟩
  | n + 1, vs, ds, x :: r, h, nd, hn => by
    have h : RowsAt K Hf H vs ds (clr x :: clN n r) := h
    cases h with
    | cons h1 h2 h3 h4 h5 h6 h7 h8 =>
      obtain ⟨t, d, v2, v3, v4, v5, ws, g1, g2, g3, g4, g5⟩ := RowsAt.clear n h8 (List.nodup_cons.mp nd).2 (by simpa using hn)
      refine ⟨t, d, v2, v3, v4, v5, ws, by simpa using g1, List.mem_cons_of_mem _ g2, g3, g4, .cons h1 ?_ h3 h4 h5 h6 h7 g5⟩
      rw [upd_ne fun z => (List.nodup_cons.mp nd).1 (by rw [z]; exact g2)]
      exact h2
theorem setF_self {fp : Nat → List Addr} {k : Nat} : setF fp k (fp k) = fp := by
  funext j
  unfold setF
  split
  · rename_i h; rw [h]
  · rfl
/-- for x in rows: x[0].clear() -/
theorem sx_clearRows {k j : Nat} (ps : PS X st (tFor (iList X.K (tVar k)) (gName j) (tDrop (tBM0 X.K "dict" rDClear (tOp (rIxT X.K) (tVar j) (tC (.int 0))))))) (hi : env[k]? = some (.own (OR.mk xs))) (hkj : k ≠ j) (hj : j < env.length) (h : SX X W rest ((env.set j .any).set k (.own (OR.mk (xs.map clr)))) po) : SX X W (st :: rest) env po :=
  sx_step ps (fun O fp σ H S D q => by
    obtain ⟨ad, vs, ds, h1, h2, h3, h4, h5⟩ := S.or hi
    have hlen := h5.len
    refine ⟨.ref ad, h1, ad, rfl, ⟨vs, .inl (.inl h4)⟩, fun i m σ' H' => m = xs.length - i ∧ i ≤ xs.length ∧ Keep fp H fp H' ∧ σ'[k]? = some (some (.ref ad)) ∧ H' ad = some (.lst vs) ∧ SOk X.K O fp ((env.set j .any).set k (.own (OR.mk (clN i xs)))) σ' H', ⟨xs.length, rfl, Nat.zero_le _, Keep.refl, h1, h4, ?_⟩, ?_⟩
    · refine S.sub ?_
      have e1 : (env.set j .any).set k (.own (OR.mk (clN 0 xs))) = env.set j .any := by
        apply List.ext_getElem?
        intro n
        by_cases e : k = n
        · subst e
          have hl : k < env.length := (List.getElem?_eq_some_iff.mp hi).1
          rw [List.getElem?_set_self (by rw [List.length_set]; exact hl), List.getElem?_set_ne (fun z => hkj z.symm), hi]
          rfl
        · rw [List.getElem?_set_ne e]
      rw [e1]
      have : ∀ (env : Env') (j : Nat), Sub env (env.set j .any) := by
        intro env
        induction env with
        | nil => intro j; exact trivial
        | cons s r ih =>
          intro j
          cases j with
          | zero => exact ⟨.inl rfl, Sub.refl _⟩
          | succ j => exact ⟨.inr rfl, ih j⟩
      exact this env j
    · rintro i m σ1 H1 ⟨rfl, hle, k1, g1, g2, S1⟩
      have hl1 : k < (env.set j .any).length := by rw [List.length_set]; exact (List.getElem?_eq_some_iff.mp hi).1
      have hi1 : ((env.set j Sl.any).set k (.own (OR.mk (clN i xs))))[k]? = some (.own (OR.mk (clN i xs))) := List.getElem?_set_self hl1
      obtain ⟨ad', vs', ds', f1, f2, f3, f4, f5⟩ := S1.or hi1
      rw [g1] at f1
      cases f1
      rw [g2] at f4
      cases f4
      by_cases hlt : i < xs.length
      · obtain ⟨t, d, v2, v3, v4, v5, ws, e1, e2, e3, e4, e5⟩ := RowsAt.clear i f5 (List.nodup_cons.mp f3).2 hlt
        refine .inr ⟨⟨vs, .ref t, .inl (.inl g2), e1⟩, fun σ' H' => i + 1 ≤ xs.length ∧ Keep fp H fp H' ∧ σ'[k]? = some (some (.ref ad)) ∧ H' ad = some (.lst vs) ∧ SOk X.K O fp ((env.set j .any).set k (.own (OR.mk (clN (i + 1) xs)))) σ' H', fun σ' H' hh => ⟨xs.length - (i + 1), by omega, rfl, hh⟩, fun x H' ⟨y1, y2⟩ => ?_⟩
        have y1' := y1.symm
        subst y1'
        have y3 := y2 vs (.inl (.inl g2))
        rw [e1] at y3
        cases y3
        have S2 : SOk X.K O fp (((env.set j .any).set k (.own (OR.mk (clN i xs)))).set j .any) (σ1.set j (some (.ref t))) H1 := S1.forget j
        have sj : (σ1.set j (some (V.ref t)))[j]? = some (some (.ref t)) := List.getElem?_set_self (by rw [S1.len, List.length_set, List.length_set]; exact hj)
        have sk : (σ1.set j (some (V.ref t)))[k]? = some (some (.ref ad)) := by rw [List.getElem?_set_ne (fun z => hkj z.symm)]; exact g1
        have ee : (((env.set j Sl.any).set k (.own (OR.mk (clN i xs)))).set j .any) = (env.set j .any).set k (.own (OR.mk (clN i xs))) := by
          apply List.ext_getElem?
          intro n
          by_cases e : j = n
          · subst e
            rw [List.getElem?_set_self (by rw [List.length_set, List.length_set]; exact hj), List.getElem?_set_ne hkj, List.getElem?_set_self hj]
          · rw [List.getElem?_set_ne e]
        rw [ee] at S2
        show tDrop _ _ (σ1.set j (some (.ref t))) H1
        have hdk : d ∈ fp k := by rw [f2]; exact List.mem_cons_of_mem _ e2
        have nda : d ≠ ad := fun z => (List.nodup_cons.mp f3).1 (z ▸ e2)
        refine ⟨.ref t, sj, t, [.ref d, v2, v3, v4, v5], 0, .ref d, rfl, rfl, wo_le.tup e3, rfl, .inr (.inr (.inl ⟨rfl, .inl ⟨ws, e4⟩⟩)), d, ws, rfl, rfl, e4, ?_⟩
        have hk : ∀ b o, H1 b = some o → b ∉ fp k → (upd H1 d (.dK [])) b = some o := fun b o hb nb => by
          rw [upd_ne (fun z => nb (by rw [z]; exact hdk))]
          exact hb
        have hL : ∀ b ∈ fp k, b ∈ fp k ∨ H1 b = none := fun b hb => .inl hb
        have kk := Keep.chg (fp := fp) (i := k) hk hL
        rw [setF_self] at kk
        refine ⟨hlt, k1.trans kk, sk, by rw [upd_ne (Ne.symm nda)]; exact g2, ?_⟩
        have hi2 : ((env.set j Sl.any).set k (.own (OR.mk (clN i xs))))[k]? = some (.own (OR.mk (clN i xs))) := hi1
        have S3 := S2.chg (y := OR.mk (clN (i + 1) xs)) (L := fp k) hi2 hk hL (fun b hb => ?_) fun v hv => ?_
        · rw [setF_self, List.set_set] at S3
          exact S3
        · by_cases z : b = d
          · rw [z, upd_same]; exact ⟨_, rfl⟩
          · obtain ⟨o, qo⟩ := S1.dom k b hb
            rw [upd_ne z]; exact ⟨o, qo⟩
        · rw [sk] at hv
          cases hv
          rw [setF_self, wo_upd_in (.inr ⟨k, hdk⟩)]
          exact ⟨ad, vs, ds', rfl, f2, by rw [f2]; exact f3, by rw [upd_ne (Ne.symm nda)]; exact g2, e5⟩
      · have e : i = xs.length := by omega
        subst e
        refine .inl ⟨⟨vs, .inl (.inl g2), by rw [hlen]; exact Nat.le_refl _⟩, ?_⟩
        rw [clN_all] at S1
        exact q fp σ1 H1 k1 S1) h
end
end R
set_option maxHeartbeats 1000000
set_option autoImplicit false
/-! R35: sorted(d, reverse=True) of a dict of texts; tuple(list) of four -/
namespace R
open PySem PySem.Spec PyProof.Rows L2
section
variable {prog : Program} {w : World} {A : Around} {s : Shared}
def ltSv (v u : Value) : Bool := decide ((strOf v).cps.toList < (strOf u).cps.toList)
theorem swo_str : SrtO.Swo ltSv := by
  refine ⟨fun x y h => ?_, fun x y z h1 h2 => ?_⟩
  · have a : (strOf x).cps.toList < (strOf y).cps.toList := of_decide_eq_true h
    exact decide_eq_false (List.lt_asymm a)
  · have a : ¬ (strOf y).cps.toList < (strOf x).cps.toList := of_decide_eq_false h1
    have b : ¬ (strOf z).cps.toList < (strOf y).cps.toList := of_decide_eq_false h2
    refine decide_eq_false (p := (strOf z).cps.toList < (strOf x).cps.toList) ?_
    exact List.not_lt.mpr (List.le_trans (List.not_lt.mp a) (List.not_lt.mp b))
theorem str_cmp {vs : List Value} {ss : List Str} (hS : StrsAre vs ss) : SrtO.Cmp prog w A s oneType' (fun p => p.1 ∈ vs) (SrtO.lt2 ltSv) := by
  intro p q hm hm'
  obtain ⟨a, t, e⟩ := hS.all _ hm
  obtain ⟨b, u, e'⟩ := hS.all _ hm'
  show wpAny (model prog w) A (keyLt' oneType' p.1 q.1) (fun r s' => s' = s ∧ r = ltSv p.1 q.1) (fun _ _ => False) s
  rw [e, e', keyLt'_oneType]
  exact oneLt_str ⟨rfl, rfl⟩
theorem strs_sortable {a : Addr} {vs : List Value} {ss : List Str} (hS : StrsAre vs ss) (h2 : 2 ≤ vs.length) : SrtO.SortableO prog w A s a vs ltSv := by
  intro h' _
  refine ⟨oneType', fun Q E hq => ?_, str_cmp hS⟩
  match vs, hS, h2 with
  | v1 :: v2 :: rest, hS, _ =>
    rw [keyKind_strs hS]
    exact wpAny_pure hq
  | [], _, h => exact absurd h (by decide)
  | [v], _, h => exact absurd h (by simp)
theorem strs_rev : ∀ {vs : List Value} {ss : List Str}, StrsAre vs ss → StrsAre vs.reverse ss.reverse := fun {vs ss} h => by
  have e : vs.reverse.map strOf = ss.reverse := by rw [List.map_reverse, h.strs]
  rw [← e]
  exact strsAre_map _ fun v hv => h.all v (List.mem_reverse.mp hv)
theorem strs_out {vs out : List Value} {ss : List Str} (hS : StrsAre vs ss) (hs : SrtO.Srtd ltSv out) (hb : SrtO.Stb ltSv out vs.reverse) : StrsAre out.reverse (sortS ss).reverse := by
  have h1 : StrsAre out (out.map strOf) := strsAre_map _ fun v hv => hS.all v (List.mem_reverse.mp (hb.perm.mem_iff.mp hv))
  have h2 : (out.map strOf).Perm ss := by
    have q := hb.perm.map strOf
    rw [List.map_reverse, hS.strs] at q
    exact q.trans (List.reverse_perm ss)
  have h3 : (out.map strOf).Pairwise (fun a b => leS a b = true) := List.pairwise_map.mpr (hs.imp fun {x y} h => by
    rw [leS_iff]
    have : ¬ (strOf y).cps.toList < (strOf x).cps.toList := of_decide_eq_false h
    exact List.not_lt.mp this)
  have h4 : out.map strOf = sortS ss := srt_eq (h2.trans (sortS_perm ss).symm) h3 (sortS_pw ss)
  rw [← h4]
  exact strs_rev h1
end
section
variable {X : Cx} {o : Expr} {td : TE} {p pos apos cpos : Pos}
/-- sorted(a source of texts, reverse=True) -/
theorem sortedR_src {T : String} {r d : Addr} {n : Nat} {PP : Nat → Value → Prop} {OK : Heap → Prop} {pins : List (Addr × Obj)} {s : Shared} {σ : L2.St} {H : Hp} {QQ : Value → Shared → Prop} {EE : Value → Shared → Prop} {ks : List Str} (I : Inv X pins σ H s) (hcalm : X.calm = true) (K : PySem.W.KdlSrc X.prog X.w T r d n PP OK) (hok : OK s.heap) (hn : n = ks.length) (h64 : ks.length < 64)
    (hP : ∀ j v, PP j v → ∃ k t, ks[j]? = some k ∧ v = Value.str k t)
    (q : ∀ u s' (pp : Addr), H pp = none → Inv X pins σ (upd H pp (.lst ((sortS ks).reverse.map V.str))) s' → RelV (.ref pp) u → QQ u s') : wpAny (model X.prog X.w) X.A (call (.builtin "sorted") [.ref r] [(Str.ofString "reverse", .bool true)]) QQ EE s := by
  have h16 : n ≤ sizeLine := by rw [hn, sizeLine_eq]; omega
  refine call_function_entry_kw PyProof.Rows.kind_sorted PyProof.Rows.plain_sorted PyProof.Rows.entry_sorted (PyProof.Rows.args_sorted_rev _ _) ?_
  unfold Builtin.«sorted»
  refine wpAny_bind (m := checkCount "sorted" 1 1 _) (wpAny_pure ?_)
  refine wpAny_bind (PySem.W.kdu_collect (A := X.A.in1) K (I.ok.hd hcalm) hok h16 fun h' tk acc hk hacc => ?_)
  have hal : acc.toList.length = ks.length := by rw [Array.length_toList, hacc.1, hn]
  have hS : StrsAre acc.toList ks := strs_at hal fun j v e => by
    obtain ⟨k, t, e1, e2⟩ := hP j v (hacc.2 j v (by rw [← Array.getElem?_toList]; exact e))
    exact ⟨k, t, e1, e2⟩
  have I1 : Inv X pins σ H { s with heap := h', toks := tk } := I.kept hk
  refine wpAny_bind (wpAny_newList ?_ (by rw [hal, sizeLine_eq]; omega))
  have hoL : (h'.push (seqObj "list" acc.toList.toArray 0)).get? h'.objs.size = some (seqObj "list" acc.toList.toArray 0) := Heap.get?_push_size _ rfl
  show wpAny _ _ _ _ _ { s with heap := h'.push (seqObj "list" acc.toList.toArray 0), toks := tk }
  refine wpAny_bind (wpAny_holding (wpAny_call_entry_kw PyProof.Rows.slot_list_sort ⟨_, hoL, rfl⟩ PyProof.Rows.entry_list_sort ?_ (PyProof.Rows.args_list_sort_rev _ _)))
  refine SrtR.list_sort_ordR (b := true) (s := { s with heap := h'.push (seqObj "list" acc.toList.toArray 0), toks := tk }) swo_str hoL (by rw [hal, sizeLine_eq]; omega) (fun h2 => strs_sortable hS h2) fun out hs hb => ⟨_, rfl, ?_⟩
  have g1 : StrsAre (out.toArray.reverse).toList (sortS ks).reverse := by
    rw [Array.toList_reverse]
    exact strs_out hS hs hb
  obtain ⟨e', he'⟩ := PyProof.Rows.sortedHeap_at (vs := acc.toList) (out := out.toArray.reverse) hoL
  have hlen : ((sortS ks).reverse.map V.str).length ≤ sizeLine := by
    rw [List.length_map, List.length_reverse, sortS_len]
    exact Nat.le_trans (Nat.le_of_lt h64) (by decide)
  refine wpAny_pure ⟨_, rfl, q _ _ h'.objs.size (I1.hok.fresh (Nat.le_refl _)) (I1.laid (t' := tk) (fun b u e => ?_) (Nat.le_refl _)
    (show ObjOk X.prog X.w _ _ _ (.lst ((sortS ks).reverse.map V.str)) from ⟨hlen, (out.toArray.reverse).toList, e', vals_of_strs g1, by rw [Array.toArray_toList]; exact he'⟩)) rfl⟩
  have hb : b < h'.objs.size := Heap.lt_size e
  show (PyProof.Rows.sortedHeap _ _ _ _).get? b = _
  rw [PyProof.Rows.sortedHeap_old (Nat.ne_of_lt hb) (by rw [size_push']; exact Nat.lt_succ_of_lt hb)]
  exact Heap.get?_push_of_some _ e
def rSortedDR : List V → List V → Hp → VK → Prop := fun xs zs H Q => ∃ (a : Addr) (kvs : List (L2.Key × V)) (ks : List Str), xs = [.ref a] ∧ zs = [.bl true] ∧ Rd H a (.dK kvs) ∧ kvs.map (·.1) = ks.map Sum.inr ∧ ks.length < 64 ∧ ∀ q, H q = none → Q (.ref q) (upd H q (.lst ((sortS ks).reverse.map V.str)))
theorem call_sortedDR (hcalm : X.calm = true) : CallRK X (.builtin "sorted") [Str.ofString "reverse"] rSortedDR := by
  intro pins s σ H vs zs us ws Q I r rz h
  obtain ⟨a, kvs, ks, rfl, rfl, hd, hks, h64, q⟩ := h
  obtain rfl := Vals.ref1 r
  obtain ⟨w1, rfl, e1⟩ := vals1 rz
  obtain rfl : w1 = Value.bool true := e1
  obtain ⟨hz, lo, vs, kv, dd⟩ := dk_rd I.hok hd
  obtain ⟨ep, hat⟩ := dd.dictAt
  have hkeys : vs.map (·.1) = ks.map Sum.inr := kv.keys.symm.trans hks
  have hl : vs.length = ks.length := by
    have e := congrArg List.length hkeys
    rw [List.length_map, List.length_map] at e
    exact e
  refine sortedR_src I hcalm (PySem.W.kdl_dict (knd := mixKind X.prog X.w) (kvs := vs) (ep := ep) lo) hat hl h64 (fun j v ⟨k, x, e1, e2⟩ => ?_) fun u s' pp hp J rr => ⟨.ref pp, _, J, rr, q pp hp⟩
  have e3 : (vs.map (·.1))[j]? = some k := by rw [List.getElem?_map, e1]; all_goals rfl
  rw [hkeys, List.getElem?_map] at e3
  cases e4 : ks[j]? with
  | none => rw [e4] at e3; cases e3
  | some y =>
    rw [e4] at e3
    have e5 : Sum.inr y = k := Option.some.inj e3
    subst e5
    obtain ⟨t, ev⟩ := Value.isStrOf_shape (x := y) (v := v) e2
    exact ⟨y, t, rfl, ev⟩
end
section
variable {X : Cx} {env : Env'} {α : Type} [Dat α] {a e : Expr} {p pos kp cp : Pos} {d : Dc α} {xs : List α} {j : Nat}
theorem back_cons {t : Sem Value} {ts : List (Bool × Sem Value)} : backTo pos ((false, t) :: ts) = (false, t) :: backTo pos ts := rfl
/-- sorted(d, reverse=True) -/
theorem en_sortedDR (hc : X.calm = true) (hm : X.mg "sorted" = none) (h : EX X a env d) (hl : d.kvs.length < 64) (hg : Gl X "sorted" := by rfl) (hp : plainE a = true := by rfl) :
    EN X (.Call (.Name "sorted" p) [a] [⟨some "reverse", .Constant (.bool true) j cp, kp⟩] pos) env (OL.mk (sortS (d.kvs.map Prod.fst)).reverse) := by
  intro O fp σ H S Q q
  refine tE_of fun pins s I => ?_
  have h2 : backTo pos (starEach [a] X.env) = (false, eval a X.env) :: backTo pos (starEach [] X.env) := by rw [star_plain hp, back_cons]
  have hpl : (backTo pos (starEach [a] X.env)).any (·.1) = false := star_pl (by simp [hp])
  refine (pe_callBK (call_sortedDR hc) hg hm boot_sorted' (pa_cons (mE X a) pa_nil (star_plain hp _ _)) (pk_cons pe_bl pk_nil) (by decide) (by decide) h2 hpl).run pins s σ H Q I ?_
  refine h O fp σ H S _ fun v H1 e1 r1 => ?_
  obtain ⟨ad, ws, rfl, t1, l1⟩ := r1
  refine ⟨ad, ws, d.kvs.map Prod.fst, rfl, rfl, wo_le _ _ trivial t1, l1.names, by rw [List.length_map]; exact hl, fun u hu => ?_⟩
  exact q (.ref u) [u] _ (e1.trans (Ex.new hu)) (fun b hb => by rw [List.mem_singleton.mp hb]; exact e1.free hu) (fun b hb => by rw [List.mem_singleton.mp hb]; exact ⟨_, upd_same⟩) fun Hf le => ⟨u, _, rfl, rfl, upd_same, strs_rep _⟩
theorem list4 {τ : Type} : ∀ {xs : List τ}, xs.length = 4 → ∃ a b c d, xs = [a, b, c, d]
  | [a, b, c, d], _ => ⟨a, b, c, d, rfl⟩
  | [], h => by simp at h
  | [_], h => by simp at h
  | [_, _], h => by simp at h
  | [_, _, _], h => by simp at h
  | _ :: _ :: _ :: _ :: _ :: _, h => by simp at h
theorem rep4 {K : PySem.W.Frag} {H : Hp} {vs : List V} {x1 x2 x3 x4 : α} (h : repL K H vs [x1, x2, x3, x4]) : ∃ v1 v2 v3 v4, vs = [v1, v2, v3, v4] ∧ Dat.rep K H v1 x1 ∧ Dat.rep K H v2 x2 ∧ Dat.rep K H v3 x3 ∧ Dat.rep K H v4 x4 := by
  obtain ⟨v1, v2, v3, v4, rfl⟩ := list4 (Paired.length h)
  obtain ⟨a, e1, r1⟩ := h.get (i := 0) rfl
  obtain ⟨b, e2, r2⟩ := h.get (i := 1) rfl
  obtain ⟨c, e3, r3⟩ := h.get (i := 2) rfl
  obtain ⟨d, e4, r4⟩ := h.get (i := 3) rfl
  cases e1; cases e2; cases e3; cases e4
  exact ⟨v1, v2, v3, v4, rfl, r1, r2, r3, r4⟩
/-- tuple(xs), four of a kind -/
theorem ex_tup4 {d0 : α} (hm : X.mg "tuple" = none) (h : EX X a env xs) (hl : xs.length = 4) (he : starEach [a] X.env = (false, eval a X.env) :: starEach [] X.env := by exact star_plain rfl _ _) (hpl : (backTo pos (starEach [] X.env)).any (·.1) = false := by exact star_pl rfl) (hg : Gl X "tuple" := by rfl) :
    EX X (.Call (.Name "tuple" p) [a] [] pos) env (⟨xs.getD 0 d0, xs.getD 1 d0, xs.getD 2 d0, xs.getD 3 d0⟩ : T4 α α α α) := by
  obtain ⟨x1, x2, x3, x4, rfl⟩ := list4 hl
  show EX X _ env (⟨x1, x2, x3, x4⟩ : T4 α α α α)
  refine ex_callTy call_tuple_of hm (by decide +kernel) (ea1 h he) (rc1 fun U v H bn r1 Q q => ?_) hg (by decide) (by decide) he hpl
  obtain ⟨ad, vs, rfl, t1, l1⟩ := r1
  obtain ⟨v1, v2, v3, v4, rfl, g1, g2, g3, g4⟩ := rep4 l1
  refine ⟨ad, _, rfl, .inl ⟨wo_le.lst t1, fun u hu => ?_⟩⟩
  have nu : ¬ U u := fun z => by
    obtain ⟨o, qq⟩ := bn u z
    rw [hu] at qq; cases qq
  have le : Le (wo H U) (wo (upd H u (.tup [v1, v2, v3, v4])) U) := (wo_ex (Ex.new hu)).le
  refine q _ _ (Ex.new hu) ?_
  refine ⟨u, _, rfl, .inl (.inl (upd_out nu)), ?_⟩
  exact ⟨Dat.mono le g1, Dat.mono le g2, Dat.mono le g3, Dat.mono le g4, trivial⟩
end
end R
set_option maxHeartbeats 1000000
set_option autoImplicit false
/-! R36: enumerate of a text -/
namespace PySem
section
variable {pg : Program} {wd : World} {Z : Around} {E : Value → Shared → Prop} {st : Shared}
theorem rq_enum_endD {e it0 : Addr} {fp : List Addr} {n : Nat} {P : Nat → Value → Prop} {St : Nat → Heap → Prop} {c : Int} {old : Value} {Q : Option Value → Shared → Prop} (D : ∀ A : Around, A.handled = none → Draws pg wd A it0 fp n P St) (noh : Z.handled = none) (en : IsEnum st.heap e it0 c old) (h0 : St n st.heap)
    (fin : ∀ h', Heap.ExtBut it0 st.heap h' → Q none { st with heap := h' }) : wpAny (model pg wd) Z (pyNext (.ref e)) Q E st := by
  have ty : st.TypeIs (.ref e) "enumerate" := ⟨_, en, rfl⟩
  unfold pyNext
  refine wpAny_bind (wpAny_attempt (wpAny_callSpecial?_slot (name := Str.ofString "__next__") ty F.slot_enumerate_next (wpAny_call_entry F.slot_enumerate_next ty F.entry_enumerate_next ?_ (F.args_enumerate_next_1 _))))
  show wpAny _ _ (field (.ref e) 2 >>= _) _ _ _
  refine wpAny_bind (wpAny_field en rfl (x := .ref it0) rfl ?_)
  refine wpAny_bind ((D _ (by simpa using noh)).done st _ _ h0 fun h' e2 x ⟨o, o1, o2⟩ => ?_)
  exact wpAny_bind (wpAny_isInstance (T := "StopIteration") (b := true) ⟨o, o1, o2⟩ isSubtype_stop (wpAny_pure (fin _ x)))
end
end PySem
namespace R
open PySem PySem.Spec PyProof.Rows L2
/-- the signs of a text, each in a new pair with its number -/
def Itse (x : Str) : It := ⟨fun i _ => i < x.cps.size, fun i H v H' => ∃ (T : Addr) (c : Nat), v = .ref T ∧ H T = none ∧ H' = upd H T (.tup [.int (i : Nat), .str ⟨#[c]⟩]) ∧ x.cps[i]? = some c, fun i _ => x.cps.size ≤ i⟩
theorem turn_enumS {P : Program} {w : World} {K : PySem.W.Frag} {elts : List Expr} {kk : Nat} {tpos : Pos} {e it : Addr} (x : Str) (t : Tok) :
    Turn P w K (.Tuple elts kk tpos) (Itse x) [e, it] e (fun i h => (∃ old, IsEnum h e it ((i : Nat) : Int) old) ∧ h.IsStrIter it (strIterType x) x t i ∧ e ≠ it ∧ i ≤ x.cps.size) where
  mem := by simp
  obj := fun i h st b hb => by
    obtain ⟨⟨old, he⟩, ⟨oi, ho, _, hd⟩, _⟩ := st
    rcases (by simpa using hb : b = e ∨ b = it) with z | z
    · rw [z]; exact ⟨_, he, fun v q => nomatch q⟩
    · rw [z]; exact ⟨oi, ho, fun v q => by rw [hd] at q; cases q⟩
  keep := fun i h h' st k => ⟨st.1.imp fun old he => k e (by simp) _ he, (let ⟨o, ho, r⟩ := st.2.1; ⟨o, k it (by simp) o ho, r⟩), st.2.2⟩
  item := by
    intro X hP hw hK hc i pins s σ H E I hf st hg
    subst hP hw hK
    obtain ⟨⟨old, he⟩, hit, hne, hsz⟩ := st
    have hi : i < x.cps.size := hg
    have e_lt : e < s.heap.objs.size := Heap.lt_size he
    have i_lt : it < s.heap.objs.size := by obtain ⟨_, q, _⟩ := hit; exact Heap.lt_size q
    refine wpAny_pyNext_enum_itemD (n := x.cps.size) (Draws.text (A := X.A.in1) (I.ok.hd hc) it x t) he hit hi hne (by simp [hne]) fun v h' tk ⟨c, u, hcx, hv⟩ ho hit' hT hsz2 hk => ?_
    subst hv
    refine ⟨_, rfl, wpAny_letOwnedTupleGo_enum (s := { s with heap := h', toks := tk + 1 }) ho fun h'' he' sb => ?_⟩
    have hT2 : h''.get? s.heap.objs.size = some { cls := .type "tuple", data := .seq #[.int i tk, .str ⟨#[c]⟩ u] } := (sb.2 _ (Nat.ne_of_gt e_lt)).trans hT
    have new : ObjOk X.prog X.w (upd H s.heap.objs.size (.tup [.int (i : Nat), .str ⟨#[c]⟩])) h'' s.heap.objs.size (.tup [.int (i : Nat), .str ⟨#[c]⟩]) :=
      ⟨by show 2 ≤ sizeLine; decide, [.int i tk, .str ⟨#[c]⟩ u], .cons ⟨_, rfl⟩ (.cons ⟨_, rfl⟩ .nil), ⟨_, hT2, rfl, _, rfl⟩⟩
    have I1 : Inv X pins σ (upd H s.heap.objs.size (.tup [.int (i : Nat), .str ⟨#[c]⟩])) { s with heap := h'', toks := tk + 1 } :=
      I.turnedNew (ch := [e, it]) (fun b ob hb q => (sb.2 b (fun z => hb (by simp [z]))).trans (hk b ob (fun z => hb (by simp [z])) (fun z => hb (by simp [z])) q)) hf (Nat.le_refl _) new
    refine ⟨.ref s.heap.objs.size, _, I1, rfl, ⟨_, c, rfl, I.hok.fresh (Nat.le_refl _), rfl, hcx⟩, ⟨⟨.str ⟨#[c]⟩ u, ?_⟩, ?_, hne, hi⟩, fun b hb => ?_⟩
    · rw [show ((i + 1 : Nat) : Int) = (i : Int) + 1 by omega]; exact he'
    · obtain ⟨o, q, r⟩ := hit'
      exact ⟨o, (sb.2 it (Ne.symm hne)).trans q, r⟩
    · have hb' : b < s.heap.objs.size := by
        rcases (by simpa using hb : b = e ∨ b = it) with z | z
        · rw [z]; exact e_lt
        · rw [z]; exact i_lt
      rw [upd_ne (Nat.ne_of_lt hb')]
      exact (hf b hb).1
  done := by
    intro X hP hw hK hc i pins s σ H E I hf st hg
    subst hP hw hK
    obtain ⟨⟨old, he⟩, hit, hne, hsz⟩ := st
    have hi : x.cps.size ≤ i := hg
    obtain ⟨f0, f1, f2, f3, f4, f5⟩ := hf it (by simp)
    have hle : i = x.cps.size := Nat.le_antisymm hsz hi
    subst hle
    exact rq_enum_endD (fun A hA => Draws.text hA it x t) (I.ok.hd hc) he hit fun h' eb => ⟨rfl, I.turned (t' := s.toks) (fun b ob hb q => eb b ob (by simpa using hb) q) f0 f1 f3 f4 f5⟩
  self := fun A i s Q E st h => wpAny_pyIter_enum st.1.choose_spec h
def iEnumS (ta : TA) : TI := fun σ H R => ta σ H fun vs H1 => ∃ x : Str, vs = [.str x] ∧ R (Itse x) H1
theorem pi_enumS {X : Cx} {e : Expr} {ta : TA} {p pos tpos : Pos} {elts : List Expr} {kk : Nat} (hg : Gl X "enumerate") (hm : X.mg "enumerate" = none) (ha : PA X [e] ta) (hs : starEach [e] X.env = [(false, eval e X.env)] := by exact star_plain rfl _ _) :
    PI X (.Tuple elts kk tpos) (.Call (.Name "enumerate" p) [e] [] pos) (iEnumS ta) := by
  refine ⟨fun pins s σ H R I h => Call_ (ld_blt I hg hm boot_enumerate (PyProof.Rows.callWith_type1 (thn (ha.run pos pins s σ H _ I h) fun us s1 ⟨vs, H1, I1, r1, q1⟩ => ?_) hs rfl))⟩
  obtain ⟨x, ex, q⟩ := q1
  subst ex
  obtain ⟨u, rfl, rx⟩ := vals1 r1
  obtain ⟨t, rfl⟩ := rx
  refine rq_enum1 (begins_text x t) trivial fun h' en it1 hk => wpAny_pyIter_enum en ?_
  have I2 : Inv X pins σ H1 { s1 with heap := h' } := I1.kept (t' := s1.toks) hk
  refine ⟨s1.heap.objs.size + 1, [s1.heap.objs.size + 1, s1.heap.objs.size], _, _, H1, rfl, I2, turn_enumS (e := s1.heap.objs.size + 1) (it := s1.heap.objs.size) x t, ⟨⟨.none, en⟩, ⟨_, it1, rfl, rfl⟩, Nat.succ_ne_self _, Nat.zero_le _⟩, fun b hb => ?_, q⟩
  have hle : s1.heap.objs.size ≤ b := by
    rcases (by simpa using hb : b = s1.heap.objs.size + 1 ∨ b = s1.heap.objs.size) with z | z
    · rw [z]; exact Nat.le_add_right _ _
    · rw [z]; exact Nat.le_refl _
  exact I1.fpOk hle (I1.hok.fresh hle)
section
variable {X : Cx} {env : Env'} {e : Expr} {elts : List Expr} {kk : Nat} {p pos tpos : Pos} {x : Str}
theorem ix_enumS (hm : X.mg "enumerate" = none) (h : EX X e env x) (hg : Gl X "enumerate" := by rfl) (hs : starEach [e] X.env = [(false, eval e X.env)] := by exact star_plain rfl _ _) : IX X (.Tuple elts kk tpos) (.Call (.Name "enumerate" p) [e] [] pos) env (enumI (signs x)) :=
  ix_of (pi_enumS hg hm (mA X _) hs) fun O fp σ H S R r => ea1 h hs O fp σ H S _ fun vs H1 e1 ar => by
    match vs, ar with
    | [v], ⟨h1, _⟩ =>
      have h1 : v = .str x := h1
      subst h1
      refine ⟨x, rfl, r _ H1 e1 fun H' U' bn ex i => ⟨fun y hy => ?_, fun hi => (show x.cps.size ≤ i by unfold enumI signs at hi; simpa using hi)⟩⟩
      unfold enumI signs at hy
      rw [List.getElem?_mapIdx, List.getElem?_map] at hy
      cases hc : x.cps.toList[i]? with
      | none => rw [hc] at hy; cases hy
      | some c =>
        rw [hc] at hy
        have hy : ((i : Int), (⟨#[c]⟩ : Str)) = y := Option.some.inj hy
        subst hy
        rw [Array.getElem?_toList] at hc
        refine ⟨(Array.getElem?_eq_some_iff.mp hc).1, fun u H'' ⟨T, c', q1, q2, q3, g⟩ => ?_⟩
        rw [hc] at g
        cases g
        subst q1 q3
        exact ⟨Ex.new q2, new_rep bn q2 rfl rfl⟩
end
end R
set_option maxHeartbeats 1000000
set_option autoImplicit false
/-! R37: a loop over a fraction's pair -/
namespace R
open PySem PySem.Spec PyProof.Rows L2
section
variable {X : Cx} {env : Env'} {tg iter : Expr}
theorem ix_pair {q : Rat} (h : EX X iter env q) : IX X tg iter env [q.num, (q.den : Int)] := ix_of (pi_tup (mE X iter)) fun O fp σ H S R r => h O fp σ H S _ fun v H1 e1 rp => by
  obtain ⟨ad, vs, e, l, rl⟩ := rp
  have ev : vs = [.int q.num, .int (q.den : Int)] := by
    match vs, rl with
    | [], rl => simp [ARep] at rl
    | [_], rl => simp [ARep] at rl
    | [a, b], ⟨ra, rb, _⟩ => rw [show a = V.int q.num from ra, show b = V.int (q.den : Int) from rb]
    | _ :: _ :: _ :: _, ⟨_, _, rl⟩ => simp [ARep] at rl
  subst ev
  refine ⟨ad, e, ⟨_, wo_le.tup l⟩, r _ H1 e1 fun H' U' bn ex i => ⟨fun x hx => ?_, fun hi => ?_⟩⟩
  · have l' : SqT X.K H' ad [.int q.num, .int (q.den : Int)] := wo_le.tup (ex.le.tup l)
    have hv : ([V.int q.num, V.int (q.den : Int)] : List V)[i]? = some (V.int x) := by
      match i, hx with
      | 0, hx => rw [← Option.some.inj (show some q.num = some x from hx)]; rfl
      | 1, hx => rw [← Option.some.inj (show some ((q.den : Int)) = some x from hx)]; rfl
      | _ + 2, hx => cases (show (none : Option Int) = some x from hx)
    refine ⟨⟨_, V.int x, l', hv⟩, fun u H'' ⟨q1, q2⟩ => ?_⟩
    subst q1
    have := q2 _ l'
    rw [hv] at this
    cases this
    exact ⟨Ex.refl _, rfl⟩
  · exact ⟨_, wo_le.tup (ex.le.tup l), hi⟩
end
end R
set_option maxHeartbeats 1000000
set_option autoImplicit false
/-! R38: a row of one's own (a tuple of five that begins with a dict of one's own) -/
namespace R
open PySem PySem.Spec PyProof.Rows L2
structure O5 (α β γ δ ε : Type) where
  p : T5 (Dc α) β γ δ ε
section
variable {α β γ δ ε : Type} [Dat α] [Dat β] [Dat γ] [Dat δ] [Dat ε]
instance : Own (O5 α β γ δ ε) where
  own K Hf H v L x := ∃ t d v2 v3 v4 v5 ws, v = .ref t ∧ SqT K Hf t [.ref d, v2, v3, v4, v5] ∧ L = [d] ∧ H d = some (.dK ws) ∧ repD K Hf ws x.p.a.kvs ∧ Dat.rep K Hf v2 x.p.b ∧ Dat.rep K Hf v3 x.p.c ∧ Dat.rep K Hf v4 x.p.d ∧ Dat.rep K Hf v5 x.p.e
  frame := fun e f ⟨t, d, v2, v3, v4, v5, ws, h1, h2, h3, h4, h5, h6, h7, h8, h9⟩ => ⟨t, d, v2, v3, v4, v5, ws, h1, e.tup h2, h3, by rw [f d (by rw [h3]; exact List.mem_singleton.mpr rfl)]; exact h4, h5.mono e, Dat.mono e h6, Dat.mono e h7, Dat.mono e h8, Dat.mono e h9⟩
instance [NoMut α] [NoMut β] [NoMut γ] [NoMut δ] [NoMut ε] : OwnNM (O5 α β γ δ ε) := ⟨fun K Hf Hf' H v L x h ⟨t, d, v2, v3, v4, v5, ws, h1, h2, h3, h4, h5, h6, h7, h8, h9⟩ => ⟨t, d, v2, v3, v4, v5, ws, h1, cut_tup h h2, h3, h4, Paired.imp h5 fun _ _ q => ⟨q.1, NoMut.cut K Hf Hf' _ _ h q.2⟩, NoMut.cut K Hf Hf' _ _ h h6, NoMut.cut K Hf Hf' _ _ h h7, NoMut.cut K Hf Hf' _ _ h h8, NoMut.cut K Hf Hf' _ _ h h9⟩⟩
theorem own_frz5 {K : PySem.W.Frag} {Hf H : Hp} {v : V} {L : List Addr} {x : T5 (Dc α) β γ δ ε} (h : Own.own K Hf H v L (O5.mk x)) (q : ∀ a ∈ L, Hf a = H a) : Dat.rep K Hf v x := by
  obtain ⟨t, d, v2, v3, v4, v5, ws, h1, h2, h3, h4, h5, h6, h7, h8, h9⟩ := h
  exact ⟨t, [.ref d, v2, v3, v4, v5], h1, h2, ⟨d, ws, rfl, .inl (by rw [q d (by rw [h3]; exact List.mem_singleton.mpr rfl)]; exact h4), h5⟩, h6, h7, h8, h9, trivial⟩
end
section
variable {X : Cx} {W : WX} {env env' : Env'} {ρ α β γ δ ε : Type} [Res ρ] [Dat α] [Dat β] [Dat γ] [Dat δ] [Dat ε] {po : Po ρ} {e a b c b2 b3 b4 b5 : Expr} {es : List Expr} {pos p p2 tpos : Pos} {rest : List Stmt} {x : T5 (Dc α) β γ δ ε} {y2 : β} {y3 : γ} {y4 : δ} {y5 : ε}
theorem sx_frz5 {i : Nat} (hi : env[i]? = some (.own (O5.mk x))) (h : SX X W rest (env.set i (.dat x)) po) : SX X W rest env po := fun O fp σ H S D G => h O (setF fp i []) σ H (S.frz hi fun v Hf r q => own_frz5 r q) D (G.step Keep.frz')
theorem ex_new5 (h : EN X e env (O5.mk x)) : EX X e env x := ex_new h fun _ _ _ _ _ => own_frz5
theorem sx_ret5 {d : Dc α} {i : Nat} {n : Str} {j : Nat} {po : Po (O5 α β γ δ ε)} (h : env[i]? = some (.own (OD.mk d))) (he : EA X [b2, b3, b4, b5] env [.dat y2, .dat y3, .dat y4, .dat y5]) (hR : po.R (O5.mk ⟨d, y2, y3, y4, y5⟩) env) (hN : X.N[i]? = some n := by rfl) (hv : Vis X.env.scope n := by first | exact Or.inl rfl | exact Or.inr (Or.inl rfl) | exact Or.inr (Or.inr rfl)) (hd : (n == ("__debug__" : Str)) = false := by decide) (hc : (n == ("__classdict__" : Str)) = false := by decide)
    (hs : starEach [.Name n p, b2, b3, b4, b5] X.env = (false, eval (.Name n p) X.env) :: starEach [b2, b3, b4, b5] X.env := by exact star_plain rfl _ _) : SX X W [.Return (some (.Tuple [.Name n p, b2, b3, b4, b5] j tpos)) pos] env po :=
  sx_of (pss_one (ps_ret (mE X _))) fun O fp σ H S D G => by
    obtain ⟨ad, ws, h1, h2, h3, h4⟩ := S.od h
    refine tE_of fun pins s I => (pe_tup (pa_cons (pe_var hN hv hd hc) (mA X [b2, b3, b4, b5]) hs)).run pins s σ H _ I ⟨.ref ad, h1, ?_⟩
    refine he O fp σ H S _ fun vs H1 e1 r1 => ?_
    match vs, r1 with
    | [], r1 => simp [ARep] at r1
    | [_], r1 => simp [ARep] at r1
    | [_, _], r1 => simp [ARep] at r1
    | [_, _, _], r1 => simp [ARep] at r1
    | _ :: _ :: _ :: _ :: _ :: _, ⟨_, _, _, _, r1⟩ => simp [ARep] at r1
    | [v2, v3, v4, v5], ⟨r2, r3, r4, r5, _⟩ =>
      refine ⟨show 5 ≤ sizeLine from by decide, fun t ht => ?_⟩
      have S1 := S.ex e1
      have nt := S1.fresh ht
      have e2 : Ex H1 (upd H1 t (.tup [.ref ad, v2, v3, v4, v5])) := Ex.new ht
      have le := (wo_ex (U := UU O fp) (e1.trans e2)).le
      have l2 := (wo_ex (U := UU O fp) e2).le
      refine G.rt _ env fp σ _ _ hR (Keep.ex (e1.trans e2)) (S1.ex e2) ⟨[ad], fun a ha => ⟨i, by rw [h2]; exact ha⟩, t, ad, v2, v3, v4, v5, ws, rfl, .inl (.inl (upd_out nt)), rfl, (e1.trans e2) ad _ h3, h4.mono le, Dat.mono l2 r2, Dat.mono l2 r3, Dat.mono l2 r4, Dat.mono l2 r5⟩
end
/-- what is one's own may be taken as data -/
theorem DefOk.frz5 {α β γ δ ε : Type} [Dat α] [Dat β] [Dat γ] [Dat δ] [Dat ε] {P : Program} {w : World} {K : PySem.W.Frag} {mg : Str → Option Value} {base : Heap} {n : Str} {k m : Nat} {ps : List Str} {dvs : List V} {Φ : Phi (O5 α β γ δ ε)} (d : DefOk P w K mg base n k ps dvs (spP K mg m Φ)) : DefOk P w K mg base n k ps dvs (spP K mg m (fun args Rp Xp => Φ args (fun z => Rp z.p) Xp : Phi (T5 (Dc α) β γ δ ε))) := by
  obtain ⟨f, fd, ds, F, r⟩ := d.ex
  refine ⟨f, fd, ds, F.imp ?_, r⟩
  intro vs H Q E ⟨h1, O, args, Rp, Xp, h2, S, h3, h4⟩
  refine ⟨h1, O, args, _, Xp, h2, S, fun z v H' hz e ⟨L, g1, g2, g3⟩ => h3 z.p v H' hz e ?_, h4⟩
  have hO : ∀ a ∈ L, ¬ O a := fun a ha ho => by
    obtain ⟨o, q⟩ := S.bnd a ho
    rw [g1 a ha] at q
    cases q
  exact own_frz5 (Own.frame (wo_mono fun a z => .inl z).le (fun _ _ => rfl) g3) fun a ha => wo_out (hO a ha)
section
variable {P : Program} {w : World} {K : PySem.W.Frag} {mg : Str → Option Value} {base : Heap} {ρ : Type} [Res ρ]
/-- a def that has defaults -/
theorem fn_okD {x qual : Str} {dvs : List V} {st : Stmt} {f : Addr} {fd : FuncData} {N ps : List Str} {k n : Nat} {Φ : Phi ρ} (F : FunD K x qual (defArgs st) (defBody st) (defScope st) dvs [] f fd) (S : FnScope N ps (defScope st)) (hn : ps.length = n)
    (hb : ∀ (args : Env') (Rp : ρ → Prop) (Xp : Exn → Prop), Φ args Rp Xp → args.length = n → ∀ (cdv : Value) (A : Around) (outer : List PySem.Env) (s : Shared) (H : Hp) (E : XK) (W : WX), Room k (A.deeper (envOfC qual (defScope st) s.heap.objs.size f cdv)) → Takes (cxX P w K mg base N qual (defScope st) f cdv A outer s H E) W →
      SX (cxX P w K mg base N qual (defScope st) f cdv A outer s H E) W (defBody st) (args ++ List.replicate (N.length - n) .any) { N := fun _ => ∃ r, Rp r ∧ ∀ O H H', Res.out K O H H' .non r, R := fun r _ => Rp r, X := fun e _ => Xp e }) :
    FnOk P w K mg base (L2.CX P w) (k + 1) f fd ps (spP K mg n Φ) := by
  refine F.ok (CX := L2.CX P w) S (fun vs H Q E h => h.1.trans hn.symm) fun cdv A outer s H vs Q E hr h => ?_
  obtain ⟨hl, O, args, Rp, Xp, ph, SS, hq, he⟩ := h
  have hlen : args.length = n := by
    have := SS.len
    rw [List.length_map] at this
    omega
  refine ⟨tSs _ _, mSs _ _, ?_⟩
  have tk : Takes (cxOf (L2.CX P w) P w K mg base N qual (defScope st) f cdv A outer s H E) (fun cls d _ H => E cls d H) := takes_of rfl rfl rfl rfl
  refine hb args Rp Xp ph hlen cdv A outer s H E (fun cls d _ H => E cls d H) hr tk O nofp _ H ?_ _ ?_
  · have := SS.pad (N.length - n)
    rw [show L2.start N vs = vs.map some ++ List.replicate (N.length - n) none from by unfold L2.start; rw [hl]]
    exact this
  · refine ⟨fun e fp' σ' H' ⟨r, h1, h2⟩ kp S' => ?_, fun r e fp' σ' v H' h1 kp S' rp => ?_, fun x e fp' σ' cls d H' h1 kp S' xa => ?_, fun _ _ _ _ h => h.elim, fun _ _ _ _ h => h.elim⟩
    · exact hq r .non H' h1 kp.ex_of (h2 _ _ _)
    · exact hq r v H' h1 kp.ex_of (Res.conv (fun a ⟨i, z⟩ => (kp.2 i a z).elim (fun ⟨j, y⟩ => by cases y) id) (fun a ⟨i, z⟩ => S'.dom i a z) rp)
    · refine he x cls d H' h1 kp.ex_of ?_
      have le : Ex (wo H' (UU O fp')) (wo H' O) := wo_mono fun a z => .inl z
      cases x with
      | one c => exact xa
      | clash ns ws =>
        obtain ⟨m, dx, v1, v2, a, b, c, d⟩ := xa
        exact ⟨m, dx, v1, v2, a, le _ _ b, Dat.mono le.le c, Dat.mono le.le d⟩
      | stuck y ns ws =>
        obtain ⟨m, dx, v0, v1, v2, a, b, b', c, d⟩ := xa
        exact ⟨m, dx, v0, v1, v2, a, le _ _ b, Dat.mono le.le b', Dat.mono le.le c, Dat.mono le.le d⟩
end
theorem hu64m {A : Around} {k : Nat} {h : Option Value} (hr : Room k A) : (A.mark h).units + 64 < cLine := hr.units
end R
set_option maxHeartbeats 1000000
set_option autoImplicit false
/-! R39: what may be a bool, None or a fraction; a key of two kinds in a dict -/
namespace R
open PySem PySem.Spec PyProof.Rows L2
def Dc.hasK {α : Type} (d : Dc α) : Key → Bool
  | .inr s => d.has s
  | .inl _ => false
theorem repD.noInt {α : Type} [Dat α] {K : PySem.W.Frag} {H : Hp} : ∀ {ws : List (Key × V)} {kvs : List (Str × α)}, repD K H ws kvs → ∀ i : Int, valV ws (.inl i : Key) = Option.none
  | _, _, .nil, i => rfl
  | (k1, v) :: ws, (k2, x) :: kvs, .cons h t, i => by
    obtain ⟨h1, h2⟩ := h
    have h1 : k1 = .inr k2 := h1
    subst h1
    have ih := repD.noInt t i
    unfold valV at *
    rw [List.find?_cons]
    have e1 : decide ((Sum.inr k2 : Key) = Sum.inl i) = false := decide_eq_false (fun z => by cases z)
    simp only [e1]
    exact ih
/-- a bool, None or a fraction -/
inductive Ans where
  | b (x : Bool)
  | n
  | q (r : Rat)
def repA (K : PySem.W.Frag) (H : Hp) (v : V) : Ans → Prop
  | .b x => v = .bl x
  | .n => v = .non
  | .q r => Dat.rep K H v r
instance : Dat Ans := ⟨repA, fun {K H H' v x} e h => by
  cases x with
  | b x => exact h
  | n => exact h
  | q r => exact Dat.mono (α := Rat) e h⟩
instance : NoMut Ans := ⟨fun K Hf Hf' v x h r => by
  cases x with
  | b x => exact r
  | n => exact r
  | q r' => exact NoMut.cut (α := Rat) K Hf Hf' _ _ h r⟩
def Ans.isT : Ans → Bool
  | .b x => x
  | _ => false
def Ans.isQ : Ans → Bool
  | .q _ => true
  | _ => false
def Ans.val : Ans → Rat
  | .q r => r
  | _ => 0
section
variable {X : Cx}
theorem op_isTrue {b : Bool} : OpR X (compareOp .Is) (fun x y H Q => y = .bl b ∧ (x = .non ∨ (∃ a, x = .bl a) ∨ ∃ a, x = .ref a) ∧ Q (.bl (decide (x = .bl b))) H) := by
  intro pins s σ H x y v u Q I rx ry h
  obtain ⟨rfl, hx, q⟩ := h
  cases (show u = Value.bool b from ry)
  rcases hx with rfl | ⟨a, rfl⟩ | ⟨a, rfl⟩
  · cases (show v = Value.none from rx)
    exact wpAny_is_other rfl (fun z => by cases z) ⟨.bl false, H, I, rfl, by simpa using q⟩
  · cases (show v = Value.bool a from rx)
    by_cases e : a = b
    · subst e
      exact wpAny_is_self rfl ⟨.bl true, H, I, rfl, by simpa using q⟩
    · exact wpAny_is_other rfl (fun z => e (Value.bool.inj z)) ⟨.bl false, H, I, rfl, by simpa [e] using q⟩
  · cases (show v = Value.ref a from rx)
    exact wpAny_is_other rfl (fun z => by cases z) ⟨.bl false, H, I, rfl, by simpa using q⟩
theorem op_isNotTrue {b : Bool} : OpR X (compareOp .IsNot) (fun x y H Q => y = .bl b ∧ (x = .non ∨ (∃ a, x = .bl a) ∨ ∃ a, x = .ref a) ∧ Q (.bl (!decide (x = .bl b))) H) := by
  intro pins s σ H x y v u Q I rx ry h
  obtain ⟨rfl, hx, q⟩ := h
  cases (show u = Value.bool b from ry)
  rcases hx with rfl | ⟨a, rfl⟩ | ⟨a, rfl⟩
  · cases (show v = Value.none from rx)
    exact wpAny_isNot_other rfl (fun z => by cases z) ⟨.bl true, H, I, rfl, by simpa using q⟩
  · cases (show v = Value.bool a from rx)
    by_cases e : a = b
    · subst e
      exact wpAny_isNot_self rfl ⟨.bl false, H, I, rfl, by simpa using q⟩
    · exact wpAny_isNot_other rfl (fun z => e (Value.bool.inj z)) ⟨.bl true, H, I, rfl, by simpa [e] using q⟩
  · cases (show v = Value.ref a from rx)
    exact wpAny_isNot_other rfl (fun z => by cases z) ⟨.bl true, H, I, rfl, by simpa using q⟩
end
theorem ans_shape {K : PySem.W.Frag} {H : Hp} {v : V} {x : Ans} (h : Dat.rep K H v x) : (v = .non ∨ (∃ a, v = .bl a) ∨ ∃ a, v = .ref a) ∧ decide (v = V.bl true) = x.isT := by
  cases x with
  | b x =>
    have h : v = .bl x := h
    subst h
    exact ⟨.inr (.inl ⟨x, rfl⟩), by cases x <;> decide⟩
  | n =>
    have h : v = .non := h
    subst h
    exact ⟨.inl rfl, by decide⟩
  | q r =>
    obtain ⟨a, vs, e, _⟩ := h
    subst e
    exact ⟨.inr (.inr ⟨a, rfl⟩), decide_eq_false (fun z => by cases z)⟩
section
variable {X : Cx} {env : Env'} {a b e o : Expr} {pos p : Pos} {x : Ans} {α : Type} [Dat α] {j : Nat}
theorem ex_ansB {y : Bool} (h : EX X e env y) : EX X e env (Ans.b y) := fun O fp σ H S Q q => h O fp σ H S Q fun v H' e1 r => q v H' e1 r
theorem ex_ansN (h : EX X e env ()) : EX X e env Ans.n := fun O fp σ H S Q q => h O fp σ H S Q fun v H' e1 r => q v H' e1 r
theorem ex_ansQ {r : Rat} (h : EX X e env r) : EX X e env (Ans.q r) := fun O fp σ H S Q q => h O fp σ H S Q fun v H' e1 r => q v H' e1 r
theorem ex_ofAns (h : EX X e env x) (g : x.isQ = true) : EX X e env x.val := by
  cases x with
  | q r => exact fun O fp σ H S Q q => h O fp σ H S Q fun v H' e1 r => q v H' e1 r
  | b _ => cases g
  | n => cases g
theorem ex_isT (h : EX X a env x) (hb : EX X b env true) (hm : behindInMarks .Is b = false := by rfl) : EX X (.Compare a [.Is] [b] pos) env x.isT := ex_cmp (op_isTrue (b := true)) h hb (fun U v1 v2 H _ r1 r2 Q q => ⟨r2, (ans_shape r1).1, q _ H (Ex.refl H) (by rw [(ans_shape r1).2]; rfl)⟩) hm
theorem et_isT (h : EX X a env x) (hb : EX X b env true) (hm : behindInMarks .Is b = false := by rfl) : ET X (.Compare a [.Is] [b] pos) env x.isT := et_cmp (op_isTrue (b := true)) h hb (fun U v1 v2 H _ r1 r2 Q q => ⟨r2, (ans_shape r1).1, q _ H (Ex.refl H) (by rw [(ans_shape r1).2]; rfl)⟩) hm
theorem ex_isNotT (h : EX X a env x) (hb : EX X b env true) (hm : behindInMarks .IsNot b = false := by rfl) : EX X (.Compare a [.IsNot] [b] pos) env (!x.isT) := ex_cmp (op_isNotTrue (b := true)) h hb (fun U v1 v2 H _ r1 r2 Q q => ⟨r2, (ans_shape r1).1, q _ H (Ex.refl H) (by rw [(ans_shape r1).2]; rfl)⟩) hm
theorem et_isNotT (h : EX X a env x) (hb : EX X b env true) (hm : behindInMarks .IsNot b = false := by rfl) : ET X (.Compare a [.IsNot] [b] pos) env (!x.isT) := et_cmp (op_isNotTrue (b := true)) h hb (fun U v1 v2 H _ r1 r2 Q q => ⟨r2, (ans_shape r1).1, q _ H (Ex.refl H) (by rw [(ans_shape r1).2]; rfl)⟩) hm
theorem ex_dinK {d : Dc α} {k : Key} (hu : X.A.units + 1 < cLine) (hk : EX X a env k) (ho : EX X o env d) (hm : behindInMarks .In o = false := by rfl) : EX X (.Compare a [.In] [o] pos) env (d.hasK k) := by
  cases k with
  | inr s => exact ex_din hu (ex_ofKey hk rfl) ho hm
  | inl i =>
    exact ex_of (pe_cmp (pc_din hu (mE X a) (mE X o)) hm) fun O fp σ H S Q q => hk O fp σ H S _ fun v2 H1 e1 r2 => ho O fp σ H1 (S.ex e1) _ fun v1 H2 e2 r1 => by
      obtain ⟨ad, ws, h1, h2, h3⟩ := r1
      have r2 : v2 = .int i := r2
      subst h1 r2
      refine ⟨ad, valV ws (.inl i), rfl, .inl ⟨ws, .inl i, wo_le _ _ trivial h2, rfl, rfl⟩, q _ H2 (e1.trans e2) ?_⟩
      rw [repD.noInt h3 i]
      rfl
theorem et_dinK {d : Dc α} {k : Key} (hu : X.A.units + 1 < cLine) (hk : EX X a env k) (ho : EX X o env d) (hm : behindInMarks .In o = false := by rfl) : ET X (.Compare a [.In] [o] pos) env (d.hasK k) := by
  cases k with
  | inr s => exact et_din hu (ex_ofKey hk rfl) ho hm
  | inl i =>
    exact et_of (pt_cmp (pc_din hu (mE X a) (mE X o)) hm) fun O fp σ H S Q q => hk O fp σ H S _ fun v2 H1 e1 r2 => ho O fp σ H1 (S.ex e1) _ fun v1 H2 e2 r1 => by
      obtain ⟨ad, ws, h1, h2, h3⟩ := r1
      have r2 : v2 = .int i := r2
      subst h1 r2
      refine ⟨ad, valV ws (.inl i), rfl, .inl ⟨ws, .inl i, wo_le _ _ trivial h2, rfl, rfl⟩, _, rfl, ?_⟩
      refine EvT.go (q H2 (e1.trans e2)) ?_
      rw [repD.noInt h3 i]
      rfl
end
end R
set_option maxHeartbeats 1000000
set_option autoImplicit false
/-! R40: a list of four of different kinds -/
namespace R
open PySem PySem.Spec PyProof.Rows L2 RQ1
structure L4 (α β γ δ : Type) where
  a : α
  b : β
  c : γ
  d : δ
section
variable {α β γ δ : Type} [Dat α] [Dat β] [Dat γ] [Dat δ]
def repL4 (K : PySem.W.Frag) (H : Hp) (v : V) (x : L4 α β γ δ) : Prop := ∃ a vs, v = .ref a ∧ SqL K H a vs ∧ ARep K H vs [.dat x.a, .dat x.b, .dat x.c, .dat x.d]
instance : Dat (L4 α β γ δ) := ⟨repL4, fun {K H H' v x} e h => let ⟨a, vs, h0, t, r⟩ := h; ⟨a, vs, h0, e.lst t, r.mono e⟩⟩
variable {X : Cx} {env : Env'} {e a b : Expr} {es : List Expr} {pos p : Pos} {x1 : α} {x2 : β} {x3 : γ} {x4 : δ} {x : L4 α β γ δ} {j : Nat}
theorem ex_lst4 (h : EA X es env [.dat x1, .dat x2, .dat x3, .dat x4]) : EX X (.List es pos) env (⟨x1, x2, x3, x4⟩ : L4 α β γ δ) := fun O fp σ H S Q q => by
  refine tE_of fun pins s I => ?_
  refine (pe_lst (mA X es)).run pins s σ H Q I ?_
  refine h O fp σ H S _ fun vs H1 e1 ar => ?_
  refine ⟨by rw [ARep.length ar]; exact (show 4 ≤ sizeLine from by decide), fun u hu => ?_⟩
  have e2 : Ex H1 (upd H1 u (.lst vs)) := Ex.new hu
  have S1 := S.ex e1
  exact q (.ref u) _ (e1.trans e2) ⟨u, vs, rfl, .inl (.inl (upd_out (S1.fresh hu))), ar.mono (wo_ex e2).le⟩
theorem ex_l4a (h : EX X a env x) : EX X (.Subscript a (.Constant (.int 0) j p) pos) env x.a := ex_of (pe_ix L2.ix_list (mE X a) (mE X _) (fun _ _ => rfl)) (ev_op h ex_int fun U v1 v2 H _ r1 r2 Q q => by
  obtain ⟨ad, vs, e, t, r⟩ := r1
  match vs, r with
  | [v1, v2, v3, v4], ⟨p1, p2, p3, p4, _⟩ => exact ⟨ad, _, 0, v1, e, r2, wo_le.lst t, atI_nat (j := 0) rfl, q _ H (Ex.refl H) p1⟩)
theorem ex_l4b (h : EX X a env x) : EX X (.Subscript a (.Constant (.int 1) j p) pos) env x.b := ex_of (pe_ix L2.ix_list (mE X a) (mE X _) (fun _ _ => rfl)) (ev_op h ex_int fun U v1 v2 H _ r1 r2 Q q => by
  obtain ⟨ad, vs, e, t, r⟩ := r1
  match vs, r with
  | [v1, v2, v3, v4], ⟨p1, p2, p3, p4, _⟩ => exact ⟨ad, _, 1, v2, e, r2, wo_le.lst t, atI_nat (j := 1) rfl, q _ H (Ex.refl H) p2⟩)
theorem ex_l4c (h : EX X a env x) : EX X (.Subscript a (.Constant (.int 2) j p) pos) env x.c := ex_of (pe_ix L2.ix_list (mE X a) (mE X _) (fun _ _ => rfl)) (ev_op h ex_int fun U v1 v2 H _ r1 r2 Q q => by
  obtain ⟨ad, vs, e, t, r⟩ := r1
  match vs, r with
  | [v1, v2, v3, v4], ⟨p1, p2, p3, p4, _⟩ => exact ⟨ad, _, 2, v3, e, r2, wo_le.lst t, atI_nat (j := 2) rfl, q _ H (Ex.refl H) p3⟩)
theorem ex_l4d (h : EX X a env x) : EX X (.Subscript a (.Constant (.int 3) j p) pos) env x.d := ex_of (pe_ix L2.ix_list (mE X a) (mE X _) (fun _ _ => rfl)) (ev_op h ex_int fun U v1 v2 H _ r1 r2 Q q => by
  obtain ⟨ad, vs, e, t, r⟩ := r1
  match vs, r with
  | [v1, v2, v3, v4], ⟨p1, p2, p3, p4, _⟩ => exact ⟨ad, _, 3, v4, e, r2, wo_le.lst t, atI_nat (j := 3) rfl, q _ H (Ex.refl H) p4⟩)
variable [DEq α] [DEq β] [DEq γ] [DEq δ]
def eq4 (x y : L4 α β γ δ) : Bool := DEq.eqv x.a y.a && (DEq.eqv x.b y.b && (DEq.eqv x.c y.c && DEq.eqv x.d y.d))
theorem rc_l4 {pins : List (Addr × Obj)} {σ : L2.St} {H : Hp} {s : Shared} {A : Around} {v w : V} {x y : L4 α β γ δ} (I : Inv X pins σ H s) (hu : A.units + (max (DEq.dep α) (max (DEq.dep β) (max (DEq.dep γ) (DEq.dep δ))) + 1) < cLine) (h : Dat.rep X.K H v x) (h' : Dat.rep X.K H w y) :
    ∃ a b, v = .ref a ∧ w = .ref b ∧ RcP X.prog X.w A s (.ref a) (.ref b) (eq4 x y) := by
  obtain ⟨a, vs, rfl, t1, a1⟩ := h
  obtain ⟨b, ws, rfl, t2, a2⟩ := h'
  match vs, ws, a1, a2 with
  | [v1, v2, v3, v4], [w1, w2, w3, w4], ⟨p1, p2, p3, p4, _⟩, ⟨q1, q2, q3, q4, _⟩ =>
    have hv := units_in1 hu
    have q := rc_listS (A := A) I (f := fun j => if j = 0 then DEq.eqv x.a y.a else if j = 1 then DEq.eqv x.b y.b else if j = 2 then DEq.eqv x.c y.c else DEq.eqv x.d y.d) (by omega) t1 t2 (fun j v w hj hk => by
      match j with
      | 0 => cases hj; cases hk; exact DEq.run I (by omega) p1 q1
      | 1 => cases hj; cases hk; exact DEq.run I (by omega) p2 q2
      | 2 => cases hj; cases hk; exact DEq.run I (by omega) p3 q3
      | 3 => cases hj; cases hk; exact DEq.run I (by omega) p4 q4
      | j + 4 => simp at hj)
    exact ⟨a, b, rfl, rfl, by simpa [List.range_succ, Bool.and_assoc, eq4] using q⟩
theorem same_l4 {pins : List (Addr × Obj)} {σ : L2.St} {H : Hp} {s : Shared} {v : V} {x y : L4 α β γ δ} (I : Inv X pins σ H s) (h : Dat.rep X.K H v x) (h' : Dat.rep X.K H v y) : eq4 x y = true := by
  obtain ⟨a, vs, rfl, t1, a1⟩ := h
  obtain ⟨b, ws, e, t2, a2⟩ := h'
  cases e
  cases I.list_inj t1 t2
  match vs, a1, a2 with
  | [v1, v2, v3, v4], ⟨p1, p2, p3, p4, _⟩, ⟨q1, q2, q3, q4, _⟩ => unfold eq4; rw [DEq.same I p1 q1, DEq.same I p2 q2, DEq.same I p3 q3, DEq.same I p4 q4]; rfl
instance : DEq (L4 α β γ δ) := ⟨max (DEq.dep α) (max (DEq.dep β) (max (DEq.dep γ) (DEq.dep δ))) + 1, eq4, fun {X pins σ H s v x y} I h h' => same_l4 I h h', fun {X pins σ H s A v w x y} I hu h h' => by
  obtain ⟨a, b, rfl, rfl, q⟩ := rc_l4 I hu h h'
  refine eqS_ref (α := α) (fun e => ?_) q
  subst e
  exact same_l4 I h h'⟩
instance : DRc (L4 α β γ δ) := ⟨fun {X pins σ H s A v w x y} I hu h h' => rc_l4 I hu h h'⟩
end
end R
set_option maxHeartbeats 1000000
set_option autoImplicit false
/-! R41: {k: v, l: w, m: x} -/
namespace R
open PySem PySem.Spec PyProof.Rows L2
section
variable {X : Cx} {env : Env'} {a1 a2 a3 b1 b2 b3 : Expr} {pos : Pos} {α : Type} [Dat α] {x1 x2 x3 : α} {s1 s2 s3 : Str}
def dc3 (s1 s2 s3 : Str) (x1 x2 x3 : α) : Dc α := (((⟨[]⟩ : Dc α).put s1 x1).put s2 x2).put s3 x3
theorem en_dict3 (hk1 : EX X a1 env s1) (hv1 : EX X b1 env x1) (hk2 : EX X a2 env s2) (hv2 : EX X b2 env x2) (hk3 : EX X a3 env s3) (hv3 : EX X b3 env x3) : EN X (.Dict [some a1, some a2, some a3] [b1, b2, b3] pos) env (OD.mk (dc3 s1 s2 s3 x1 x2 x3)) := fun O fp σ H S Q q => tE_of fun pins s0 I => by
  refine (pe_disp (pps_cons (mE X a1) (mE X b1) (pps_cons (mE X a2) (mE X b2) (pps_cons (mE X a3) (mE X b3) pps_nil))) rfl rfl (fun z => by cases z) (Nat.le_of_ble_eq_true rfl)).run pins s0 σ H Q I fun u hu => ?_
  have S1 := S.hide (o := .dK []) hu
  have nu : ¬ UU O fp u := S.fresh hu
  refine hk1 _ fp σ _ S1 _ fun v1 H1 e1 r1 => hv1 _ fp σ H1 (S1.ex e1) _ fun w1 H2 e2 q1 => hk2 _ fp σ H2 ((S1.ex e1).ex e2) _ fun v2 H3 e3 r2 => hv2 _ fp σ H3 (((S1.ex e1).ex e2).ex e3) _ fun w2 H4 e4 q2 => hk3 _ fp σ H4 ((((S1.ex e1).ex e2).ex e3).ex e4) _ fun v3 H5 e5 r3 => hv3 _ fp σ H5 (((((S1.ex e1).ex e2).ex e3).ex e4).ex e5) _ fun w3 H6 e6 q3 => ?_
  have r1 : v1 = .str s1 := r1
  have r2 : v2 = .str s2 := r2
  have r3 : v3 = .str s3 := r3
  subst r1 r2 r3
  have e16 := ((((e1.trans e2).trans e3).trans e4).trans e5).trans e6
  have h6 : H6 u = some (.dK []) := e16 u _ upd_same
  have e7 : Ex H (upd H6 u (.dK (mergeK [] [(.inr s1, w1), (.inr s2, w2), (.inr s3, w3)]))) := fun c ob hc => by
    have nc := ne_of_none hc hu
    rw [upd_ne nc]
    exact e16 c ob (by rw [upd_ne nc]; exact hc)
  refine ⟨h6, [(.inr s1, w1), (.inr s2, w2), (.inr s3, w3)], rfl, by simp, ?_⟩
  refine q (.ref u) [u] _ e7 (fun c hc => by rw [List.mem_singleton.mp hc]; exact hu) (fun c hc => by rw [List.mem_singleton.mp hc]; exact ⟨_, upd_same⟩) fun Hf le => ?_
  have go : Le (wo H6 (UU (fun a => O a ∨ a = u) fp)) Hf := Le.trans (Ex.le fun c ob hc => by
    obtain ⟨n, hc⟩ := wo_some hc
    have nc : c ≠ u := fun z => n (.inl (.inr z))
    have n2 : ¬ (UU O fp c ∨ c ∈ [u]) := fun z => by
      rcases z with (z | z) | z
      · exact n (.inl (.inl z))
      · exact n (.inr z)
      · exact nc (List.mem_singleton.mp z)
    rw [wo_out n2, upd_ne nc]
    exact hc) le
  have m1 := Dat.mono (Le.trans (wo_ex (U := UU (fun a => O a ∨ a = u) fp) (((e3.trans e4).trans e5).trans e6)).le go) q1
  have m2 := Dat.mono (Le.trans (wo_ex (U := UU (fun a => O a ∨ a = u) fp) (e5.trans e6)).le go) q2
  have m3 := Dat.mono go q3
  exact ⟨u, _, rfl, rfl, upd_same, repD.put (repD.put (repD.put (ws := []) (kvs := []) .nil s1 m1) s2 m2) s3 m3⟩
end
end R
set_option maxHeartbeats 1000000
set_option autoImplicit false
/-! R42: while, without ways out -/
namespace R
open PySem PySem.Spec PyProof.Rows L2
def whileN {S : Type} (c : S → Bool) (b : S → S) : Nat → S → S
  | 0, s => s
  | n + 1, s => cond (c s) (whileN c b n (b s)) s
def okWhile {S : Type} (okc okb : S → Prop) (c : S → Bool) (b : S → S) : Nat → S → Prop
  | 0, s => okc s ∧ c s = false
  | n + 1, s => okc s ∧ (c s = true → okb s ∧ okWhile okc okb c b n (b s))
section
variable {X : Cx} {W : WX} {env : Env'} {ρ : Type} [Res ρ] {po : Po ρ} {c : Expr} {pos : Pos} {rest body : List Stmt}
theorem sx_whileN {S : Type} (uu : S → Env' → Env') (cd : S → Bool) (step : S → S) (okc okb : S → Prop) (n : Nat) (s0 : S) (hp : PassesOwn (model X.prog X.w) X.A X.env X.xe) (h0 : Sub env (uu s0 env)) (hk : okWhile okc okb cd step n s0)
    (ht : ∀ s, okc s → ET X c (uu s env) (cd s))
    (hb : ∀ s, okb s → cd s = true → SX X W body (uu s env) { po with N := fun e => Sub e (uu (step s) env), C := fun e => Sub e (uu (step s) env), B := fun _ => False })
    (hr : SX X W rest (uu (whileN cd step n s0) env) po) : SX X W (.While c body [] pos :: rest) env po :=
  sx_while (S := Nat × S) (fun s => uu s.2 env) (fun s => okWhile okc okb cd step s.1 s.2 ∧ whileN cd step s.1 s.2 = whileN cd step n s0) (fun s => s.1) (fun _ => False) (n, s0) hp h0 ⟨hk, rfl⟩ (fun ⟨m, s⟩ ⟨h1, h2⟩ => by
    cases m with
    | zero =>
      refine ⟨cd s, ht s h1.1, fun h => ?_, fun _ => ?_⟩
      · rw [h1.2] at h; cases h
      · have h2 : s = whileN cd step n s0 := h2
        rw [← h2] at hr
        exact hr
    | succ m =>
      refine ⟨cd s, ht s h1.1, fun h => ?_, fun h => ?_⟩
      · obtain ⟨g1, g2⟩ := h1.2 h
        have e : whileN cd step (m + 1) s = whileN cd step m (step s) := by
          show cond (cd s) _ _ = _
          rw [h]; rfl
        have h2 : whileN cd step m (step s) = whileN cd step n s0 := e ▸ h2
        exact (hb s g1 h).imp (fun e h => ⟨(m, step s), h, ⟨g2, h2⟩, Nat.lt_succ_self m⟩) (fun _ _ h => h) (fun _ _ h => h) (fun _ h => h) (fun e h => ⟨(m, step s), h, ⟨g2, h2⟩, Nat.lt_succ_self m⟩)
      · have e : whileN cd step (m + 1) s = s := by
          show cond (cd s) _ _ = _
          rw [h]; rfl
        have h2 : s = whileN cd step n s0 := e ▸ h2
        rw [← h2] at hr
        exact hr) (fun _ h => h.elim) 
end
end R
set_option maxHeartbeats 1000000
set_option autoImplicit false
/-! defs called within an except suite, told of the exception it holds -/
namespace R
open PySem PySem.Spec PyProof.Rows L2
/-- a def's promise where p is the exception that is handled -/
structure HotOk (P : Program) (w : World) (K : PySem.W.Frag) (mg : Str → Option Value) (base : Heap) (k : Nat) (f : Addr) (fd : FuncData) (ps : List Str) (sp : Addr × Obj → Sp) : Prop where
  len : ∀ p vs H Q E, sp p vs H Q E → vs.length = ps.length
  run : ∀ (p : Addr × Obj) (A : Around) (outer : List PySem.Env) (s : Shared) (H : Hp) (args : Args) (us : List Value) (vs : List V) (Q : VK) (E : XK), L2H.RoomH k A → A.handled = some (.ref p.1) → L2H.PinOk outer H s p → Env0 P w K mg base A outer s H → BindsTo s fd args (ps.zip us) → Vals vs us → sp p vs H Q E →
    codeAny (model P w) A (.call (.ref f) args) (CR (L2.CX P w) outer P w H s Q E) s
abbrev cxP (P : Program) (w : World) (K : PySem.W.Frag) (mg : Str → Option Value) (base : Heap) (N : List Str) (qual : Str) (scope : Scope) (f : Addr) (cd : Value) (A : Around) (outer : List PySem.Env) (s : Shared) (H : Hp) (E : XK) (p : Addr × Obj) : Cx := L2H.cxH (L2.CX P w) P w K mg base N qual scope f cd A outer s H E p
section
variable {P : Program} {w : World} {K : PySem.W.Frag} {mg : Str → Option Value} {base : Heap}
theorem Fun.hot {x qual : Str} {st : Stmt} {f : Addr} {fd : FuncData} {N ps : List Str} {k : Nat} {sp : Addr × Obj → Sp} (F : Fun K x qual st f fd) (S : FnScope N ps (defScope st)) (len : ∀ p vs H Q E, sp p vs H Q E → vs.length = ps.length)
    (hbody : ∀ (p : Addr × Obj) (cdv : Value) (A : Around) (outer : List PySem.Env) (s : Shared) (H : Hp) (vs : List V) (Q : VK) (E : XK), L2H.RoomH k (A.deeper (envOfC qual (defScope st) s.heap.objs.size f cdv)) → sp p vs H Q E →
      ∃ t, PSs (cxP P w K mg base N qual (defScope st) f cdv A outer s H E p) (defBody st) t ∧ t { nx := fun _ H' => Q .non H', rt := Q } (start N vs) H) : HotOk P w K mg base (k + 1) f fd ps sp := by
  obtain ⟨oc, od, kV, doc, pm, an, cdv, ct, osl, rfl, lk, hcd⟩ := F.ex
  refine ⟨len, ?_⟩
  intro p A outer s H args us vs Q E room _ pin e0 bind rel prom
  have l1 := len p _ _ _ _ prom
  have k1 := e0.mod.kin.keeps fun b o e => (e0.bs b o e).1
  have k2 := e0.mod.nolimit.keeps fun b o e => (e0.bs b o e).1
  have k3 : ∀ y ∈ ps.zip us, (defScope st).names.lookup y.1 = some .local ∨ ((defScope st).names.lookup y.1 = some .cell ∧ ((cellsFrom (s.heap.objs.size + 1) (defScope st).names []).lookup y.1).isSome = true) := by
    rintro ⟨n, v⟩ hy
    exact (S.par n (List.of_mem_zip hy).1).elim .inl fun q => .inr ⟨q, PySem.W.cellsFrom_some _ _ _ (.inl q)⟩
  refine codeAny_call_function room.depth (k1 _ _ lk) rfl S.co S.gen rfl (PySem.W.codeRec_of k1 hcd) (bind _ _ _ _ (wpAny_newFunctionEnv_cells S.kind k3 fun env he s1 y => ?_))
  subst he
  refine ⟨k2.keeps y.toInCall.keep, codeAny_func ?_⟩
  obtain ⟨t, t1, t2⟩ := hbody p cdv A outer s H vs Q E (room.deeper _) prom
  have J0 : Inv (cxP P w K mg base N qual (defScope st) f cdv A outer s H E p) [] (start N vs) H s1 := L2H.inv_startH S pin e0 l1 rel y
  refine wpAny_mono (t1.run [] s1 _ H _ J0 t2) (fun fl s' z => ?_) fun _ _ z => z
  have out : ∀ {σ' : L2.St} {H' : Hp} {v : V} {u : Value}, Inv (cxP P w K mg base N qual (defScope st) f cdv A outer s H E p) [] σ' H' s' → RelV v u → Q v H' → CE outer P w H s Q u s' := fun {_ H' v _} J r q => ⟨v, H', J.os, J.bare, J.base, J.hok, r, q⟩
  cases fl with
  | ret u => exact let ⟨_, _, _, J, r, q⟩ := z; out J r q
  | next => exact let ⟨_, _, J, q⟩ := z; out (v := V.non) (u := Value.none) J rfl q
  | brk => exact let ⟨_, _, _, q⟩ := z; q.elim
  | cont => exact let ⟨_, _, _, q⟩ := z; q.elim
/-- the promise of a def told of the exception -/
abbrev PhiH (ρ : Type) := Addr × Obj → Hp → Phi ρ
/-- Hf: where the exception is known from -/
def spH {ρ : Type} [Res ρ] (K : PySem.W.Frag) (mg : Str → Option Value) (n : Nat) (Φ : Addr × Obj → Phi ρ) : Addr × Obj → Sp := fun p => spP K mg n (Φ p)
theorem fn_okH {ρ : Type} [Res ρ] {x qual : Str} {st : Stmt} {f : Addr} {fd : FuncData} {N ps : List Str} {k n : Nat} {Φ : Addr × Obj → Phi ρ} (F : Fun K x qual st f fd) (S : FnScope N ps (defScope st)) (hn : ps.length = n)
    (hb : ∀ (p : Addr × Obj) (args : Env') (Rp : ρ → Prop) (Xp : Exn → Prop), Φ p args Rp Xp → args.length = n → ∀ (cdv : Value) (A : Around) (outer : List PySem.Env) (s : Shared) (H : Hp) (E : XK) (W : WX), L2H.RoomH k (A.deeper (envOfC qual (defScope st) s.heap.objs.size f cdv)) →
      SX (cxP P w K mg base N qual (defScope st) f cdv A outer s H E p) W (defBody st) (args ++ List.replicate (N.length - n) .any) { N := fun _ => ∃ r, Rp r ∧ ∀ O H H', Res.out K O H H' .non r, R := fun r _ => Rp r }) :
    HotOk P w K mg base (k + 1) f fd ps (spH K mg n Φ) := by
  refine Fun.hot F S (fun p vs H Q E h => h.1.trans hn.symm) fun p cdv A outer s H vs Q E room h => ?_
  obtain ⟨hl, O, args, Rp, Xp, ph, SS, hq, he⟩ := h
  have hlen : args.length = n := by
    have := SS.len
    rw [List.length_map] at this
    omega
  refine ⟨tSs _ _, mSs _ _, hb p args Rp Xp ph hlen cdv A outer s H E (fun cls d _ H => E cls d H) room O nofp _ H ?_ _ ?_⟩
  · rw [show L2.start N vs = vs.map some ++ List.replicate (N.length - n) none from by unfold L2.start; rw [hl]]
    exact SS.pad (N.length - n)
  · exact ⟨fun e fp' σ' H' ⟨r, h1, h2⟩ kp S' => hq r .non H' h1 kp.ex_of (h2 _ _ _), fun r e fp' σ' v H' h1 kp S' rp => hq r v H' h1 kp.ex_of (Res.conv (fun a ⟨i, z⟩ => (kp.2 i a z).elim (fun ⟨j, y⟩ => by cases y) id) (fun a ⟨i, z⟩ => S'.dom i a z) rp), fun _ _ _ _ _ _ _ h => h.elim, fun _ _ _ _ h => h.elim, fun _ _ _ _ h => h.elim⟩
end
/-- such a def, by its name -/
structure HotDef (P : Program) (w : World) (K : PySem.W.Frag) (mg : Str → Option Value) (base : Heap) (n : Str) (k : Nat) (ps : List Str) (sp : Addr × Obj → Sp) : Prop where
  ex : ∃ f fd, HotOk P w K mg base k f fd ps sp ∧ mg n = some (.ref f) ∧ PySem.W.keepIn K (.ref f) = true ∧ Binds K fd ps []
section
variable {X : Cx} {W : WX} {env : Env'} {ρ : Type} [Dat ρ] {pos q : Pos} {e : Expr} {es : List Expr}
theorem run_hot {k : Nat} {f : Addr} {fd : FuncData} {ps : List Str} {sp : Addr × Obj → Sp} {p : Addr × Obj} {pins : List (Addr × Obj)} {σ : L2.St} {H : Hp} {s : Shared} {Q : VK} {us : List Value} {vs : List V} (F : HotOk X.prog X.w X.K X.mg X.base k f fd ps sp) (hr : L2H.RoomH k X.A) (hh : X.A.handled = some (.ref p.1)) (hp : p ∈ X.pn) (hb : Binds X.K fd ps [])
    (I : Inv X pins σ H s) (r : Vals vs us) (h : sp p vs H Q (fun _ _ _ => False)) : wpAny (model X.prog X.w) X.A (call (.ref f) us) (EP X pins σ Q) X.xe s := by
  have hl : us.length = ps.length := r.length.symm.trans (F.len p _ _ _ _ h)
  have b := hb s us I.kIn (by rw [List.append_nil]; exact hl)
  rw [List.append_nil] at b
  obtain ⟨g1, g2, g3, g4, g5⟩ := I.pin p (List.mem_append_left _ hp)
  refine wpAny_call (codeAny_mono (F.run p X.A X.stack s H ⟨us, []⟩ us vs Q _ hr hh ⟨g1, g2, fun hm => (List.mem_cons.mp (I.stkSub p.1 hm)).elim g3 g4, g5⟩ I.env0 b r h) fun z s' hz => ?_)
  cases z with
  | ok fl =>
    cases fl with
    | ret u => exact I.after hz
    | _ => exact hz.elim
  | error e =>
    obtain ⟨a, B, H', cls, d, z1, z2, z3, z4, z5, z6, z7, z8⟩ := hz
    exact z8.elim
theorem ex_hot {n : Str} {k m : Nat} {ps : List Str} {xs : List Sl} {Φ : Addr × Obj → Phi ρ} {r : ρ} {p : Addr × Obj} (d : HotDef X.prog X.w X.K X.mg X.base n k ps (spH X.K X.mg m Φ)) (hr : L2H.RoomH k X.A) (hh : X.A.handled = some (.ref p.1)) (hp : p ∈ X.pn) (ha : EA X (e :: es) env xs) (hΦ : Φ p xs (fun r' => r' = r) (fun _ => False))
    (hl : xs.length = m := by rfl) (hg : Gl X n := by rfl) (hdb : (n == ("__debug__" : Str)) = false := by decide) (he : starEach (e :: es) X.env = (false, eval e X.env) :: starEach es X.env := by exact star_plain rfl _ _) (hpl : (backTo pos (starEach es X.env)).any (·.1) = false := by exact star_pl rfl) : EX X (.Call (.Name n q) (e :: es) [] pos) env r := by
  obtain ⟨f, fd, F, hm, hk, hb⟩ := d.ex
  have pe : PE X (.Call (.Name n q) (e :: es) [] pos) (fun σ H Q => tA X (e :: es) σ H fun vs H1 => spH X.K X.mg m Φ p vs H1 Q (fun _ _ _ => False)) := by
    constructor
    intro pins s σ H Q I h
    refine wpAny_Call_Name_kw (ld_glob I hg hm ?_ hdb)
    exact PySem.W.callWith_K (h₀ := X.base) I.ok.mod.kin hk (thn ((mA X _).run pos pins s σ H _ I h) fun us s1 ⟨vs, H1, I1, rv, sp1⟩ => ⟨I1.kIn, run_hot F hr hh hp hb I1 rv sp1⟩) he hpl
  refine ex_of pe fun O fp σ H S Q q => ha O fp σ H S _ fun vs H1 e1 r1 => ?_
  have S2 := ARep.sok (S.ex e1).bndU r1
  exact ⟨by rw [r1.length]; exact hl, UU O fp, xs, _, _, hΦ, S2, fun r' v H' hr' e2 rp => by subst hr'; exact q v H' (e1.trans e2) rp, fun _ _ _ _ h => h.elim⟩
/-- isinstance of the handled exception, wherever it is held -/
theorem call_isP {a D : Addr} {oe : Obj} (C : ExcC X.K D) (hz : Zc (.ref D) none oe) (hf : ∃ vs, oe.data = .fields vs) (hp : (a, oe) ∈ X.pn) : CallR X (.builtin "isinstance") (rIsE X.K D a) := by
  rintro pins s σ H xs us Q I r ⟨c, cv, b, rfl, hcv, e, q⟩
  obtain _ | ⟨rx, _ | ⟨rt, _ | _⟩⟩ := r
  cases rx
  cases hcv _ rt
  have g1 := (I.pin (a, oe) (List.mem_append_left _ hp)).1
  obtain ⟨vs, hv⟩ := hf
  have J : PySem.W.InstAt s.heap a oe D none := by
    obtain ⟨oc, od, oda, osl⟩ := oe
    obtain ⟨h1, h2⟩ := hz
    dsimp only at h1 h2 hv
    subst h1 h2 hv
    exact ⟨g1, rfl, rfl, trivial⟩
  exact PySem.W.kia_one (PySem.W.handS_kitx_exc C.hg C.hk C.hs C.hd C.ha C.hn C.ht C.hm) I.kIn J e (fun z => nomatch z) fun tk => ⟨.bl b, H, I.kept (t' := tk) fun _ _ z => z, rfl, q⟩
theorem ex_isP {i : Nat} {v c : Str} {all some' : List Str} {e : Exn} {ad : Addr} {oe : Obj} {cls : Value} {d : Option Addr} {Hf : Hp} {p p2 pc : Pos} (I : IsC X.K X.mg all some' c) (hi : X.mg "isinstance" = none) (hall : exnIn all e = true) (h1 : ∃ n, e = .one n) (hz : Zc cls d oe) (hfd : ∃ vs, oe.data = .fields vs) (xa : ExAt X.mg X.K Hf e cls d) (hp : (ad, oe) ∈ X.pn) (hv : env[i]? = some (.dat (ExV.mk ad)))
    (hN : X.N[i]? = some v := by rfl) (hvis : Vis X.env.scope v := by first | exact Or.inl rfl | exact Or.inr (Or.inl rfl) | exact Or.inr (Or.inr rfl)) (hd : (v == ("__debug__" : Str)) = false := by decide) (hc : (v == ("__classdict__" : Str)) = false := by decide)
    (hg : Gl X "isinstance" := by rfl) (hgc : Gl X c := by rfl) (hdc : (c == ("__debug__" : Str)) = false := by decide) : EX X (.Call (.Name "isinstance" p2) [.Name v p, .Name c pc] [] pos) env (exnIn some' e) := by
  obtain ⟨n, rfl⟩ := h1
  obtain ⟨Cv, hm, tb⟩ := I.ex
  obtain ⟨D, q1, q2, q3⟩ := tb n (List.contains_iff_mem.mp hall)
  obtain ⟨x1, x2⟩ := xa
  rw [q1] at x1
  cases x1
  subst x2
  refine ex_of (pe_callB (call_isP q2 hz hfd hp) hg hi (by decide +kernel) (pa_cons (pe_var hN hvis hd hc) (pa_cons (pe_glob (v := .ref Cv) hgc hm rfl hdc) pa_nil (star_plain rfl _ _)) (star_plain rfl _ _)) (by decide) (by decide) (star_plain rfl _ _) (star_pl rfl)) ?_
  intro O fp σ H S Q q
  obtain ⟨v1, w1, w2⟩ := S.sl i _ hv
  have w2 : v1 = .ref ad := w2
  subst w2
  exact ⟨.ref ad, w1, .ref Cv, .ref Cv, some'.contains n, rfl, fun u r => r, q3, q _ H (Ex.refl H) rfl⟩
end
/-- isinstance(e, c) of a built-in class -/
structure IsCB (K : PySem.W.Frag) (mg : Str → Option Value) (all some' : List Str) (c : Str) (id : String) : Prop where
  no : mg c = none
  ex : ∀ n ∈ all, ∃ D, mg n = some (.ref D) ∧ ExcC K D ∧ PySem.W.kitOne K (.ref D) (.type id) = some (some'.contains n)
section
variable {X : Cx} {env : Env'}
theorem ex_isPB {i : Nat} {v c : Str} {id : String} {all some' : List Str} {e : Exn} {ad : Addr} {oe : Obj} {cls : Value} {d : Option Addr} {Hf : Hp} {p p2 pc pos : Pos} (I : IsCB X.K X.mg all some' c id) (hi : X.mg "isinstance" = none) (hall : exnIn all e = true) (h1 : ∃ n, e = .one n) (hz : Zc cls d oe) (hfd : ∃ vs, oe.data = .fields vs) (xa : ExAt X.mg X.K Hf e cls d) (hp : (ad, oe) ∈ X.pn) (hv : env[i]? = some (.dat (ExV.mk ad))) (hb : bootBuiltins c = some (.type id))
    (hN : X.N[i]? = some v := by rfl) (hvis : Vis X.env.scope v := by first | exact Or.inl rfl | exact Or.inr (Or.inl rfl) | exact Or.inr (Or.inr rfl)) (hd : (v == ("__debug__" : Str)) = false := by decide) (hc : (v == ("__classdict__" : Str)) = false := by decide)
    (hg : Gl X "isinstance" := by rfl) (hgc : Gl X c := by rfl) (hn : c ≠ "__name__" := by decide) (hdc : (c == ("__debug__" : Str)) = false := by decide) : EX X (.Call (.Name "isinstance" p2) [.Name v p, .Name c pc] [] pos) env (exnIn some' e) := by
  obtain ⟨n, rfl⟩ := h1
  obtain ⟨D, q1, q2, q3⟩ := I.ex n (List.contains_iff_mem.mp hall)
  obtain ⟨x1, x2⟩ := xa
  rw [q1] at x1
  cases x1
  subst x2
  refine ex_of (pe_callB (call_isP q2 hz hfd hp) hg hi (by decide +kernel) (pa_cons (pe_var hN hvis hd hc) (pa_cons (pe_bltn (v := .ty id) hgc I.no hb rfl hn hdc) pa_nil (star_plain rfl _ _)) (star_plain rfl _ _)) (by decide) (by decide) (star_plain rfl _ _) (star_pl rfl)) ?_
  intro O fp σ H S Q q
  obtain ⟨v1, w1, w2⟩ := S.sl i _ hv
  have w2 : v1 = .ref ad := w2
  subst w2
  exact ⟨.ref ad, w1, .ty id, .type id, some'.contains n, rfl, fun u r => r, q3, q _ H (Ex.refl H) rfl⟩
end
section
variable {X : Cx} {W : WX} {env : Env'} {ρ : Type} [Res ρ] {po : Po ρ} {c : Expr} {thn els rest : List Stmt} {pos : Pos}
/-- a way that may leave or go on: what follows is walked at its end -/
theorem sx_ifK {k : Bool} (hc : ET X c env k) (h1 : k = true → SX X W thn env { po with N := fun e => SX X W rest e po }) (h2 : k = false → SX X W els env { po with N := fun e => SX X W rest e po }) : SX X W (.If c thn els pos :: rest) env po :=
  sx_if (fun e => SX X W rest e po) hc h1 h2 fun _ h => h
end
theorem roomH_suite {X : Cx} {k j : Nat} {a : Addr} {pn : List (Addr × Obj)} (hr : Room k X.A) (h : j ≤ k) : L2H.RoomH j (X.suite a pn).A := ⟨(hr.mono h).dp, (hr.mono h).un⟩
end R
set_option maxHeartbeats 1000000
set_option autoImplicit false
/-! == of tuples, the later parts only where the earlier ones are the same -/
namespace RQ1
open PySem PySem.SeqAt
open AutoSeq1 (wpAny_loadPart')
open MeetsSeq MeetsSeq2 MeetsSeq3 SeqRoads2
section
variable {P : Program} {w : World}
def ItemsT (P : Program) (w : World) (A : Around) (s : Shared) (us ws : Array Value) (f : Nat → Bool) : Prop := ∀ j (h1 : j < us.size) (h2 : j < ws.size), (∀ i, i < j → f i = true) → EqP P w A.in1 s us[j] ws[j] (f j)
theorem tupA (p q : Addr) (us ws : Array Value) (n n2 : Nat) (da db : Option Addr) (sa sb : Array (Option Value)) (hz : us.size = ws.size) (f : Nat → Bool) :
    MeetsIn P w (Builtin.«tuple.__eq__» ⟨[.ref p, .ref q], []⟩)
      (fun A R s => s.heap.get? p = some { cls := .type "tuple", dict := da, data := .seq us n, slots := sa } ∧ s.heap.get? q = some { cls := .type "tuple", dict := db, data := .seq ws n2, slots := sb } ∧
        ItemsT P w A s us ws f ∧ R (.ok (.ret (.bool ((List.range us.size).all f)))) s) :=
  .of_wp fun A R s ⟨hl, hb, he, h⟩ => by
    obtain ⟨hp, g, d, tk, os⟩ := s
    have f2 := AutoSeq1.sub_tuple_tuple
    have hZ : (us.toList.zip ws.toList).length = us.size := by simp [hz]
    wp_walk using wpAny_loadPart' hl, wpAny_loadPart' hb, wpAny_forIn_list _ (fun rest b s' => b.1 = none ∧ s' = ⟨hp, g, d, tk, os⟩ ∧ ∃ i, rest = (us.toList.zip ws.toList).drop i ∧ (∀ j, j < i → f j = true) ∧ R (.ok (.ret (.bool (((List.range us.size).drop i).all f)))) ⟨hp, g, d, tk, os⟩) _
    case turn =>
      rintro ⟨y, x⟩ rest b s' ⟨hb', rfl, i, hz', hall, hR⟩
      have lt : i < (us.toList.zip ws.toList).length := by
        rcases Nat.lt_or_ge i (us.toList.zip ws.toList).length with h' | h'
        · exact h'
        · rw [List.drop_of_length_le h'] at hz'; cases hz'
      have l1 : i < us.size := hZ ▸ lt
      have l2 : i < ws.size := hz ▸ l1
      rw [List.drop_eq_getElem_cons lt] at hz'
      injection hz' with hyx hrest
      have hy : y = us[i] := by have := congrArg Prod.fst hyx; simpa using this
      have hx : x = ws[i] := by have := congrArg Prod.snd hyx; simpa using this
      subst hy hx
      rw [show (List.range us.size).drop i = i :: (List.range us.size).drop (i + 1) by simp [List.drop_eq_getElem_cons, l1], List.all_cons] at hR
      refine wpAny_bind (he i l1 l2 hall _ _ ?_)
      cases fb : f i with
      | true =>
        rw [fb] at hR
        wp_walk
        exact ⟨rfl, rfl, i + 1, hrest, fun j hj => (by rcases Nat.lt_or_ge j i with z | z; exact hall j z; rw [show j = i by omega]; exact fb), by simpa using hR⟩
      | false =>
        rw [fb] at hR
        wp_walk
        exact ⟨_, rfl, by simpa using hR⟩
    case fin =>
      rintro ⟨b1, b2⟩ s' ⟨hb', rfl, i, hz', hall, hR⟩
      simp only at hb'
      subst hb'
      have ge : us.size ≤ i := by
        rcases Nat.lt_or_ge i (us.toList.zip ws.toList).length with h' | h'
        · rw [List.drop_eq_getElem_cons h'] at hz'; cases hz'
        · exact hZ ▸ h'
      rw [List.drop_of_length_le (by simpa using ge)] at hR
      wp_walk
      exact ⟨_, rfl, by simpa [Builtin.Tuple.tupleCompareSizes, hz] using hR⟩
    case h =>
      exact ⟨rfl, rfl, 0, rfl, fun j hj => absurd hj (Nat.not_lt_zero j), by simpa using h⟩
theorem tupB (p q : Addr) (us ws : Array Value) (n n2 : Nat) (da db : Option Addr) (sa sb : Array (Option Value)) (hz : us.size = ws.size) (f : Nat → Bool) :
    MeetsIn P w (Builtin.«tuple.__ne__» ⟨[.ref p, .ref q], []⟩)
      (fun A R s => s.heap.get? p = some { cls := .type "tuple", dict := da, data := .seq us n, slots := sa } ∧ s.heap.get? q = some { cls := .type "tuple", dict := db, data := .seq ws n2, slots := sb } ∧
        ItemsT P w A s us ws f ∧ R (.ok (.ret (.bool (!(List.range us.size).all f)))) s) :=
  .of_wp fun A R s ⟨hl, hb, he, h⟩ => by
    obtain ⟨hp, g, d, tk, os⟩ := s
    have f2 := AutoSeq1.sub_tuple_tuple
    have hZ : (us.toList.zip ws.toList).length = us.size := by simp [hz]
    wp_walk using wpAny_loadPart' hl, wpAny_loadPart' hb, wpAny_forIn_list _ (fun rest b s' => b.1 = none ∧ s' = ⟨hp, g, d, tk, os⟩ ∧ ∃ i, rest = (us.toList.zip ws.toList).drop i ∧ (∀ j, j < i → f j = true) ∧ R (.ok (.ret (.bool (!((List.range us.size).drop i).all f)))) ⟨hp, g, d, tk, os⟩) _
    case turn =>
      rintro ⟨y, x⟩ rest b s' ⟨hb', rfl, i, hz', hall, hR⟩
      have lt : i < (us.toList.zip ws.toList).length := by
        rcases Nat.lt_or_ge i (us.toList.zip ws.toList).length with h' | h'
        · exact h'
        · rw [List.drop_of_length_le h'] at hz'; cases hz'
      have l1 : i < us.size := hZ ▸ lt
      have l2 : i < ws.size := hz ▸ l1
      rw [List.drop_eq_getElem_cons lt] at hz'
      injection hz' with hyx hrest
      have hy : y = us[i] := by have := congrArg Prod.fst hyx; simpa using this
      have hx : x = ws[i] := by have := congrArg Prod.snd hyx; simpa using this
      subst hy hx
      rw [show (List.range us.size).drop i = i :: (List.range us.size).drop (i + 1) by simp [List.drop_eq_getElem_cons, l1], List.all_cons] at hR
      refine wpAny_bind (he i l1 l2 hall _ _ ?_)
      cases fb : f i with
      | true =>
        rw [fb] at hR
        wp_walk
        exact ⟨rfl, rfl, i + 1, hrest, fun j hj => (by rcases Nat.lt_or_ge j i with z | z; exact hall j z; rw [show j = i by omega]; exact fb), by simpa using hR⟩
      | false =>
        rw [fb] at hR
        wp_walk
        exact ⟨_, rfl, by simpa using hR⟩
    case fin =>
      rintro ⟨b1, b2⟩ s' ⟨hb', rfl, i, hz', hall, hR⟩
      simp only at hb'
      subst hb'
      have ge : us.size ≤ i := by
        rcases Nat.lt_or_ge i (us.toList.zip ws.toList).length with h' | h'
        · rw [List.drop_eq_getElem_cons h'] at hz'; cases hz'
        · exact hZ ▸ h'
      rw [List.drop_of_length_le (by simpa using ge)] at hR
      wp_walk
      exact ⟨_, rfl, by simpa [Builtin.Tuple.tupleCompareSizes, hz, bne] using hR⟩
    case h =>
      exact ⟨rfl, rfl, 0, rfl, fun j hj => absurd hj (Nat.not_lt_zero j), by simpa using h⟩
theorem rc_tupsT {A : Around} {s : Shared} {p q : Addr} {us ws : Array Value} {f : Nat → Bool} (hl : s.heap.IsTuple p us) (hb : s.heap.IsTuple q ws) (hz : us.size = ws.size) (hu : A.units < cLine) (he : ItemsT P w A s us ws f) : RcP P w A s (.ref p) (.ref q) ((List.range us.size).all f) := by
  obtain ⟨⟨c1, d1, x1, s1⟩, o1, e1, n1, y1⟩ := id hl
  obtain ⟨⟨c2, d2, x2, s2⟩, o2, e2, n2, y2⟩ := id hb
  simp only at e1 y1 e2 y2
  subst e1 y1 e2 y2
  have t1 : s.TypeIs (.ref p) "tuple" := ⟨_, o1, rfl⟩
  have t2 : s.TypeIs (.ref q) "tuple" := ⟨_, o2, rfl⟩
  refine ⟨fun E Q h => ?_, fun E Q h => ?_⟩
  · exact wpAny_richCompare_same_room (op := .Eq) t1 t2 F.slot_tuple_eq (call_meetsIn F.slot_tuple_eq t1 F.entry_tuple_eq (F.args_tuple_eq_2 _ _) (tupA p q us ws n1 n2 d1 d2 s1 s2 hz f) ⟨o1, o2, he, ⟨(fun x => nomatch x), h⟩⟩) hu
  · exact wpAny_richCompare_same_room (op := .NotEq) t1 t2 F.slot_tuple_ne (call_meetsIn F.slot_tuple_ne t1 F.entry_tuple_ne (F.args_tuple_ne_2 _ _) (tupB p q us ws n1 n2 d1 d2 s1 s2 hz f) ⟨o1, o2, he, ⟨(fun x => nomatch x), h⟩⟩) hu
end
end RQ1
set_option maxHeartbeats 1000000
set_option autoImplicit false
/-! texts: startswith, partition, index, in, int(text); what is told, or refused -/
namespace R
open PySem PySem.Spec PyProof.Rows L2
section
variable {X : Cx} {env : Env'} {o e a b : Expr} {pos apos p : Pos} {s c : Str}
theorem ex_starts (ho : EX X o env s) (h : EX X e env c) (hs : starEach [e] X.env = [(false, eval e X.env)] := by exact star_plain rfl _ _) (hbase : attributeBase o "startswith" X.env (eval o X.env) = eval o X.env := by rfl) (hline : (apos.endLine == pos.line) = true := by rfl) :
    EX X (.Call (.Attribute o "startswith" apos) [e] [] pos) env (Txt.startswith s c) := ex_of (pe_m1 F.slot_str_startswith F.type_str_startswith mt_startswith (mE X o) (mE X e) hs hbase hline) fun O fp σ H S Q q => ho O fp σ H S _ fun v H1 e1 r1 => ⟨⟨s, r1⟩, h O fp σ H1 (S.ex e1) _ fun u H2 e2 r2 =>
  ⟨s, c, r1, by rw [show u = .str c from r2], q _ H2 (e1.trans e2) rfl⟩⟩
def part3 (s c : Str) : T3 Str Str Str := ⟨(Txt.partition s c).1, (Txt.partition s c).2.1, (Txt.partition s c).2.2⟩
theorem ex_part (ho : EX X o env s) (h : EX X e env c) (g : s.length ≤ 100000) (hc : (c.length == 0) = false := by decide) (hs : starEach [e] X.env = [(false, eval e X.env)] := by exact star_plain rfl _ _) (hbase : attributeBase o "partition" X.env (eval o X.env) = eval o X.env := by rfl) (hline : (apos.endLine == pos.line) = true := by rfl) :
    EX X (.Call (.Attribute o "partition" apos) [e] [] pos) env (part3 s c) := ex_of (pe_m1 F.slot_str_partition F.type_str_partition mt_partition (mE X o) (mE X e) hs hbase hline) fun O fp σ H S Q q => ho O fp σ H S _ fun v H1 e1 r1 => ⟨⟨s, r1⟩, h O fp σ H1 (S.ex e1) _ fun u H2 e2 r2 =>
  ⟨s, c, r1, by rw [show u = .str c from r2], hc, sz_of g, fun p np => q _ _ ((e1.trans e2).trans (Ex.new np)) ⟨p, _, rfl, .inl (.inl (upd_out (((S.ex e1).ex e2).fresh np))), rfl, rfl, rfl, trivial⟩⟩⟩
/-- where a text first stands within another -/
def strIx (s c : Str) : Nat := (Builtin.Str.occurrences s c 0 s.length 1).headD 0
def strHas (s c : Str) : Bool := !(Builtin.Str.occurrences s c 0 s.length 1).isEmpty
theorem ex_indexS (ho : EX X o env s) (h : EX X e env c) (g : strHas s c = true) (hs : starEach [e] X.env = [(false, eval e X.env)] := by exact star_plain rfl _ _) (hbase : attributeBase o "index" X.env (eval o X.env) = eval o X.env := by rfl) (hline : (apos.endLine == pos.line) = true := by rfl) :
    EX X (.Call (.Attribute o "index" apos) [e] [] pos) env ((strIx s c : Nat) : Int) := ex_of (pe_m1 F.slot_str_index F.type_str_index mt_sindex (mE X o) (mE X e) hs hbase hline) fun O fp σ H S Q q => ho O fp σ H S _ fun v H1 e1 r1 => ⟨⟨s, r1⟩, h O fp σ H1 (S.ex e1) _ fun u H2 e2 r2 => by
  unfold strHas at g
  unfold strIx at q
  cases ho : Builtin.Str.occurrences s c 0 s.length 1 with
  | nil => rw [ho] at g; cases g
  | cons i rest =>
    rw [ho] at q
    exact ⟨s, c, i, rest, r1, by rw [show u = .str c from r2], ho, q _ H2 (e1.trans e2) rfl⟩⟩
theorem rv_inStr {K : PySem.W.Frag} {i j : Str} : RV K (fun x y H Q => ∃ i j, x = .str i ∧ y = .str j ∧ Q (.bl (!(Builtin.Str.occurrences j i 0 j.length 1).isEmpty)) H) i j (strHas j i) := fun U v1 v2 H _ r1 r2 Q q => ⟨i, j, r1, r2, q _ H (Ex.refl H) rfl⟩
theorem rv_notinStr {K : PySem.W.Frag} {i j : Str} : RV K (fun x y H Q => ∃ i j, x = .str i ∧ y = .str j ∧ Q (.bl (!(!(Builtin.Str.occurrences j i 0 j.length 1).isEmpty))) H) i j (!strHas j i) := fun U v1 v2 H _ r1 r2 Q q => ⟨i, j, r1, r2, q _ H (Ex.refl H) rfl⟩
theorem ex_inStr {i j : Str} (ha : EX X a env i) (hb : EX X b env j) (hm : behindInMarks .In b = false := by rfl) : EX X (.Compare a [.In] [b] pos) env (strHas j i) := ex_cmp op_in_str ha hb rv_inStr hm
theorem et_inStr {i j : Str} (ha : EX X a env i) (hb : EX X b env j) (hm : behindInMarks .In b = false := by rfl) : ET X (.Compare a [.In] [b] pos) env (strHas j i) := et_cmp op_in_str ha hb rv_inStr hm
theorem ex_notinStr {i j : Str} (ha : EX X a env i) (hb : EX X b env j) (hm : behindInMarks .NotIn b = false := by rfl) : EX X (.Compare a [.NotIn] [b] pos) env (!strHas j i) := ex_cmp op_notin_str ha hb rv_notinStr hm
theorem et_notinStr {i j : Str} (ha : EX X a env i) (hb : EX X b env j) (hm : behindInMarks .NotIn b = false := by rfl) : ET X (.Compare a [.NotIn] [b] pos) env (!strHas j i) := et_cmp op_notin_str ha hb rv_notinStr hm
/-- int(text) -/
def intT (s : Str) : Int := (intText? s).getD 0
theorem ex_intT (hm : X.mg "int" = none) (h : EX X e env s) (g : (intText? s).isSome = true ∧ s.length ≤ 640) (hg : Gl X "int" := by rfl) (hs : starEach [e] X.env = (false, eval e X.env) :: starEach [] X.env := by exact star_plain rfl _ _) : EX X (.Call (.Name "int" p) [e] [] pos) env (intT s) :=
  ex_callTy call_int_str hm (by decide +kernel) (ea1 h hs) (rc1 fun U v H bn r Q q => by
    have r : v = .str s := r
    subst r
    obtain ⟨g1, g2⟩ := g
    unfold intT at q
    cases hi : intText? s with
    | none => rw [hi] at g1; cases g1
    | some n =>
      rw [hi] at q
      exact ⟨s, n, rfl, hi, g2, q _ H (Ex.refl H) rfl⟩) hg (by decide) (by decide) hs
end
/-! what is told, or refused: a pair with a word ahead -/
inductive Tld where
  | told (r : Rat)
  | refused (b : Bool)
def Tld.comps : Tld → List Sl
  | .told r => [.dat (Str.ofString "told"), .dat r]
  | .refused b => [.dat (Str.ofString "refused"), .dat b]
instance : Dat Tld := ⟨fun K H v x => repT K H v x.comps, fun e h => h.mono e⟩
instance : Tup Tld := ⟨Tld.comps, fun _ _ _ _ => rfl⟩
def Tld.eqv : Tld → Tld → Bool
  | .told r, .told r' => decide (r = r')
  | .refused b, .refused b' => decide (b = b')
  | _, _ => false
def Tld.isTold : Tld → Bool
  | .told _ => true
  | _ => false
def Tld.val : Tld → Rat
  | .told r => r
  | _ => 0
instance : NoMut Tld := ⟨fun K Hf Hf' v x h r => by
  cases x with
  | told q => exact NoMut.cut (α := Str × Rat) K Hf Hf' v (Str.ofString "told", q) h r
  | refused b => exact NoMut.cut (α := Str × Bool) K Hf Hf' v (Str.ofString "refused", b) h r⟩
section
variable {X : Cx} {pins : List (Addr × Obj)} {σ : L2.St} {H : Hp} {s : Shared} {A : Around} {v w : V}
theorem items_ofT {vs ws : List V} {us us' : List Value} {f : Nat → Bool} (r : Vals vs us) (r' : Vals ws us') (h : ∀ j v w, vs[j]? = some v → ws[j]? = some w → (∀ i, i < j → f i = true) → EqS X A.in1 s v w (f j)) : RQ1.ItemsT X.prog X.w A s us.toArray us'.toArray f := fun j h1 h2 hall => by
  have k1 : j < vs.length := by rw [r.length]; simpa using h1
  have k2 : j < ws.length := by rw [r'.length]; simpa using h2
  obtain ⟨u, hu, ru⟩ := r.get (List.getElem?_eq_getElem k1)
  obtain ⟨u', hu', ru'⟩ := r'.get (List.getElem?_eq_getElem k2)
  have e1 : us[j]? = some us.toArray[j] := by
    have q : j < us.length := by simpa using h1
    rw [List.getElem?_eq_getElem q]
    simp
  have e2 : us'[j]? = some us'.toArray[j] := by
    have q : j < us'.length := by simpa using h2
    rw [List.getElem?_eq_getElem q]
    simp
  rw [e1] at hu
  rw [e2] at hu'
  cases hu
  cases hu'
  exact h j _ _ (List.getElem?_eq_getElem k1) (List.getElem?_eq_getElem k2) hall _ _ ru ru'
theorem rc_tupT (I : Inv X pins σ H s) {a b : Addr} {vs ws : List V} {f : Nat → Bool} (hu : A.units < cLine) (h1 : SqT X.K H a vs) (h2 : SqT X.K H b ws) (hz : vs.length = ws.length) (h : ∀ j v w, vs[j]? = some v → ws[j]? = some w → (∀ i, i < j → f i = true) → EqS X A.in1 s v w (f j)) :
    RQ1.RcP X.prog X.w A s (.ref a) (.ref b) ((List.range vs.length).all f) := by
  obtain ⟨us, r, e, _⟩ := I.tuple h1
  obtain ⟨us', r', e', _⟩ := I.tuple h2
  have q := RQ1.rc_tupsT (P := X.prog) (w := X.w) e e' (by rw [List.size_toArray, List.size_toArray, ← r.length, ← r'.length]; exact hz) hu (items_ofT r r' h)
  rw [List.size_toArray, ← r.length] at q
  exact q
theorem rc_mixed {α β γ : Type} [Dat α] [DEq α] [Dat β] [Dat γ] {a1 b1 : α} {x : β} {y : γ} (I : Inv X pins σ H s) (hu : A.units + (DEq.dep α + 1) < cLine) (h : repT X.K H v [.dat a1, .dat x]) (h' : repT X.K H w [.dat b1, .dat y]) (hne : DEq.eqv a1 b1 = false) : ∃ a b, v = .ref a ∧ w = .ref b ∧ RQ1.RcP X.prog X.w A s (.ref a) (.ref b) false := by
  obtain ⟨a, vs, rfl, t1, r1⟩ := h
  obtain ⟨b, ws, rfl, t2, r2⟩ := h'
  match vs, ws, r1, r2 with
  | [v1, v2], [w1, w2], ⟨p1, p2, _⟩, ⟨q1, q2, _⟩ =>
    have hv := units_in1 hu
    have q := rc_tupT (A := A) I (f := fun j => j != 0) (by omega) t1 t2 rfl (fun j v w hj hk hall => by
      match j with
      | 0 =>
        cases hj; cases hk
        have := DEq.run (A := A.in1) I (by omega) p1 q1
        rw [hne] at this
        exact this
      | j + 1 => have := hall 0 (by omega); cases this)
    exact ⟨a, b, rfl, rfl, by simpa [List.range_succ] using q⟩
theorem same_mixed {α β γ : Type} [Dat α] [DEq α] [Dat β] [Dat γ] {a1 b1 : α} {x : β} {y : γ} (I : Inv X pins σ H s) (h : repT X.K H v [.dat a1, .dat x]) (h' : repT X.K H v [.dat b1, .dat y]) : DEq.eqv a1 b1 = true := by
  obtain ⟨a, vs, rfl, t1, r1⟩ := h
  obtain ⟨b, ws, e, t2, r2⟩ := h'
  cases e
  cases I.tuple_inj t1 t2
  match vs, r1, r2 with
  | [v1, v2], ⟨p1, _⟩, ⟨q1, _⟩ => exact DEq.same I p1 q1
theorem ne1 : DEq.eqv (Str.ofString "told") (Str.ofString "refused") = false := decide_eq_false (by decide +kernel)
theorem ne2 : DEq.eqv (Str.ofString "refused") (Str.ofString "told") = false := decide_eq_false (by decide +kernel)
theorem eq1 (x : Str) : DEq.eqv x x = true := decide_eq_true rfl
theorem rc_ta {x y : Tld} (I : Inv X pins σ H s) (hu : A.units + 3 < cLine) (h : Dat.rep X.K H v x) (h' : Dat.rep X.K H w y) : ∃ a b, v = .ref a ∧ w = .ref b ∧ RQ1.RcP X.prog X.w A s (.ref a) (.ref b) (Tld.eqv x y) := by
  have m01 : max 0 1 + 1 = 2 := rfl
  have m00 : max 0 0 + 1 = 1 := rfl
  cases x with
  | told r => cases y with
    | told r' =>
      obtain ⟨a, b, h1, h2, h3⟩ := rc_pair (α := Str) (β := Rat) I (by show A.units + (max 0 1 + 1) < cLine; omega) h h'
      rw [eq1, Bool.true_and] at h3
      exact ⟨a, b, h1, h2, h3⟩
    | refused b => exact rc_mixed (α := Str) (β := Rat) (γ := Bool) I (by show A.units + (0 + 1) < cLine; omega) h h' ne1
  | refused b => cases y with
    | told r => exact rc_mixed (α := Str) (β := Bool) (γ := Rat) I (by show A.units + (0 + 1) < cLine; omega) h h' ne2
    | refused b' =>
      obtain ⟨a1, a2, h1, h2, h3⟩ := rc_pair (α := Str) (β := Bool) I (by show A.units + (max 0 0 + 1) < cLine; omega) h h'
      rw [eq1, Bool.true_and] at h3
      exact ⟨a1, a2, h1, h2, h3⟩
theorem same_ta {x y : Tld} (I : Inv X pins σ H s) (h : Dat.rep X.K H v x) (h' : Dat.rep X.K H v y) : Tld.eqv x y = true := by
  cases x with
  | told r => cases y with
    | told r' =>
      have q := same_pair (α := Str) (β := Rat) I h h'
      rw [eq1, Bool.true_and] at q
      exact q
    | refused b =>
      have q := same_mixed (α := Str) (β := Rat) (γ := Bool) I h h'
      rw [ne1] at q
      cases q
  | refused b => cases y with
    | told r' =>
      have q := same_mixed (α := Str) (β := Bool) (γ := Rat) I h h'
      rw [ne2] at q
      cases q
    | refused b' =>
      have q := same_pair (α := Str) (β := Bool) I h h'
      rw [eq1, Bool.true_and] at q
      exact q
end
instance : DEq Tld := ⟨3, Tld.eqv, fun {X pins σ H s v x y} I h h' => same_ta I h h', fun {X pins σ H s A v w x y} I hu h h' => by
  obtain ⟨a, b, rfl, rfl, q⟩ := rc_ta I hu h h'
  refine eqS_ref (α := Tld) (fun e => ?_) q
  subst e
  exact same_ta I h h'⟩
instance : DRc Tld := ⟨fun {X pins σ H s A v w x y} I hu h h' => rc_ta I hu h h'⟩
section
variable {X : Cx} {env : Env'} {e : Expr} {pos : Pos} {a b : Expr}
theorem ex_taT {r : Rat} (h : EX X e env (Str.ofString "told", r)) : EX X e env (Tld.told r) := h
theorem ex_taR {b : Bool} (h : EX X e env (Str.ofString "refused", b)) : EX X e env (Tld.refused b) := h
theorem ex_taV {x : Tld} (h : EX X a env x) (g : x.isTold = true) (hb : EX X b env (1 : Int)) (hs : PlainIx b := by exact fun _ _ => rfl) : EX X (.Subscript a b pos) env x.val := by
  cases x with
  | told r => exact ex_ixT (k := 1) (x := r) h hb rfl hs
  | refused b => cases g
end
end R
set_option maxHeartbeats 1000000
set_option autoImplicit false
/-! isinstance(e, (A, B, ..)) of the exception that is handled; tuples of which a part may raise -/
namespace R
open PySem PySem.Spec PyProof.Rows L2
def rIsEn (K : PySem.W.Frag) (D a : Addr) : List V → Hp → VK → Prop := fun xs H Q => ∃ (tp : Addr) (cs : List Addr) (b : Bool), xs = [V.ref a, V.ref tp] ∧ H tp = some (.tup (cs.map V.ref)) ∧ PySem.W.kitAny K (.ref D) (cs.map Value.ref) = some b ∧ Q (.bl b) H
theorem vals_refs {cs : List Addr} : ∀ {us : List Value}, Vals (cs.map V.ref) us → us = cs.map Value.ref := by
  induction cs with
  | nil => intro us r; cases r; rfl
  | cons c cs ih =>
    intro us r
    cases r with
    | cons ra rr =>
      cases (show _ = Value.ref c from ra)
      rw [ih rr]; rfl
theorem call_isPn {X : Cx} {a D : Addr} {oe : Obj} (C : ExcC X.K D) (hz : Zc (.ref D) none oe) (hf : ∃ vs, oe.data = .fields vs) (hp : (a, oe) ∈ X.pn) : CallR X (.builtin "isinstance") (rIsEn X.K D a) := by
  rintro pins s σ H xs us Q I r ⟨tp, cs, b, rfl, hT, e, q⟩
  obtain ⟨u1, u2, rfl, r1, r2⟩ := vals2 r
  cases (show u1 = Value.ref a from r1)
  cases (show u2 = Value.ref tp from r2)
  have hget := (I.pin (a, oe) (List.mem_append_left _ hp)).1
  obtain ⟨ws, hv⟩ := hf
  have J : PySem.W.InstAt s.heap a oe D none := by
    obtain ⟨oc, od, oda, osl⟩ := oe
    obtain ⟨h1, h2⟩ := hz
    dsimp only at h1 h2 hv
    subst h1 h2 hv
    exact ⟨hget, rfl, rfl, trivial⟩
  obtain ⟨_, its, rv, o, h1, h2, n, h3⟩ := (show ObjOk X.prog X.w H s.heap tp (.tup (cs.map V.ref)) from I.hok tp _ hT)
  obtain rfl := vals_refs rv
  obtain ⟨oc, od, dt, sl⟩ := o
  simp only at h2 h3
  subst h2 h3
  exact PySem.W.kia_tup (PySem.W.handS_kitx_exc C.hg C.hk C.hs C.hd C.ha C.hn C.ht C.hm) I.kIn J h1 e (fun z => nomatch z) fun tk => ⟨.bl b, H, I.kept (t' := tk) fun _ _ z => z, rfl, q⟩
/-- a class, as a value -/
structure ClV where
  a : Addr
instance : Dat ClV := ⟨fun _ _ v x => v = .ref x.a, fun _ h => h⟩
inductive IsCL (X : Cx) (all : List Str) : List Expr → List (List Str) → Prop
  | nil : IsCL X all [] []
  | cons {c : Str} {p : Pos} {es : List Expr} {s : List Str} {ss : List (List Str)} (I : IsC X.K X.mg all s c) (hg : Gl X c) (hd : (c == ("__debug__" : Str)) = false) (r : IsCL X all es ss) : IsCL X all (.Name c p :: es) (s :: ss)
section
variable {X : Cx} {W : WX} {env : Env'}
theorem IsCL.get {all : List Str} {es : List Expr} {ss : List (List Str)} (L : IsCL X all es ss) {n : Str} {D : Addr} (hn : n ∈ all) (hm : X.mg n = some (.ref D)) : ∃ cs : List Addr, EA X es env (cs.map fun a => Sl.dat (ClV.mk a)) ∧ PySem.W.kitAny X.K (.ref D) (cs.map Value.ref) = some (ss.any fun s => s.contains n) ∧ cs.length = es.length := by
  induction L with
  | nil => exact ⟨[], ea_nil, kitAny_nil, rfl⟩
  | cons I hg hd r ih =>
    obtain ⟨cs, h1, h2, h3⟩ := ih
    obtain ⟨Cv, m1, tb⟩ := I.ex
    obtain ⟨D2, q1, q2, q3⟩ := tb n hn
    rw [hm] at q1
    cases q1
    refine ⟨Cv :: cs, ea_cons (ex_of (pe_glob (v := .ref Cv) hg m1 rfl hd) fun O fp σ H S Q q => q _ H (Ex.refl H) rfl) h1, ?_⟩
    exact ⟨kitAny_cons q3 (fun hb => by rw [List.any_cons, hb, Bool.false_or]; exact h2) (fun hb => by rw [List.any_cons, hb]; rfl), by rw [List.length_cons, List.length_cons, h3]⟩
theorem arep_cls {K : PySem.W.Frag} {H : Hp} : ∀ {cs : List Addr} {vs : List V}, ARep K H vs (cs.map fun a => Sl.dat (ClV.mk a)) → vs = cs.map V.ref
  | [], [], _ => rfl
  | c :: cs, v :: vs, h => by rw [show v = V.ref c from h.1, arep_cls h.2]; rfl
  | [], _ :: _, h => by simp [ARep] at h
  | _ :: _, [], h => by simp [ARep] at h
theorem ex_isPn {i j : Nat} {v : Str} {all : List Str} {ss : List (List Str)} {e0 : Expr} {es : List Expr} {e : Exn} {ad : Addr} {oe : Obj} {cls : Value} {d : Option Addr} {Hf : Hp} {p p2 pt pos : Pos} (L : IsCL X all (e0 :: es) ss) (hi : X.mg "isinstance" = none) (hall : exnIn all e = true) (h1 : ∃ n, e = .one n) (hz : Zc cls d oe) (hfd : ∃ vs, oe.data = .fields vs) (xa : ExAt X.mg X.K Hf e cls d) (hp : (ad, oe) ∈ X.pn) (hv : env[i]? = some (.dat (ExV.mk ad))) (hl : (e0 :: es).length ≤ 100000 := by exact Nat.le_of_ble_eq_true rfl)
    (hN : X.N[i]? = some v := by rfl) (hvis : Vis X.env.scope v := by first | exact Or.inl rfl | exact Or.inr (Or.inl rfl) | exact Or.inr (Or.inr rfl)) (hd : (v == ("__debug__" : Str)) = false := by decide) (hc : (v == ("__classdict__" : Str)) = false := by decide)
    (hg : Gl X "isinstance" := by rfl) : EX X (.Call (.Name "isinstance" p2) [.Name v p, .Tuple (e0 :: es) j pt] [] pos) env (ss.any fun s => exnIn s e) := by
  obtain ⟨n, rfl⟩ := h1
  obtain ⟨x1, x2⟩ := xa
  have hn : n ∈ all := List.contains_iff_mem.mp hall
  subst x2
  have hcls : ∃ D, X.mg n = some (.ref D) ∧ ExcC X.K D := by
    cases L with
    | cons I hg hd r =>
      obtain ⟨Cv, m1, tb⟩ := I.ex
      obtain ⟨D, q1, q2, q3⟩ := tb n hn
      exact ⟨D, q1, q2⟩
  obtain ⟨D, q1, q2⟩ := hcls
  rw [q1] at x1
  cases x1
  obtain ⟨cs, ea, kt, cl⟩ := L.get (env := env) hn q1
  refine ex_of (pe_callB (call_isPn q2 hz hfd hp) hg hi (by decide +kernel) (pa_cons (pe_var hN hvis hd hc) (pa_cons (pe_tup (mA X (e0 :: es))) pa_nil (star_plain rfl _ _)) (star_plain rfl _ _)) (by decide) (by decide) (star_plain rfl _ _) (star_pl rfl)) ?_
  intro O fp σ H S Q q
  obtain ⟨v1, w1, w2⟩ := S.sl i _ hv
  have w2 : v1 = .ref ad := w2
  subst w2
  refine ⟨.ref ad, w1, ea O fp σ H S _ fun vs H1 e1 ar => ?_⟩
  obtain rfl := arep_cls ar
  refine ⟨sz_of (by rw [List.length_map, cl]; exact hl), fun u hu => ⟨u, cs, _, rfl, upd_same, kt, q _ _ (e1.trans (Ex.new hu)) rfl⟩⟩
end
/-! tuples of which a part may raise -/
section
variable {X : Cx} {W : WX} {env : Env'} {α β : Type} [Dat α] [Dat β] {x : α} {y : β} {a b : Expr} {pos : Pos} {j : Nat}
theorem exx_pair2 {Rp : β → Prop} {Xp : Exn → Prop} (ha : EX X a env x) (hb : EXX X W b env Rp Xp) (h1 : starEach [a, b] X.env = (false, eval a X.env) :: starEach [b] X.env := by exact star_plain rfl _ _) (h2 : starEach [b] X.env = (false, eval b X.env) :: starEach [] X.env := by exact star_plain rfl _ _) :
    EXX X W (.Tuple [a, b] j pos) env (fun p : α × β => ∃ r, Rp r ∧ p = (x, r)) Xp := fun O fp σ H S Q q qx => by
  refine tE_of fun pins s I => (pe_tup (pa_cons (mE X a) (pa_cons (mE X b) pa_nil h2) h1)).run pins s σ H Q I ?_
  refine ha O fp σ H S _ fun v1 H1 e1 r1 => hb O fp σ H1 (S.ex e1) _ (fun r v2 H2 hr e2 r2 => ⟨show 2 ≤ sizeLine by decide, fun u hu => ?_⟩) (fun c cls d H2 hx e2 xa => qx c cls d H2 hx (e1.trans e2) xa)
  have e3 : Ex H2 (upd H2 u (.tup [v1, v2])) := Ex.new hu
  exact q (x, r) _ _ ⟨r, hr, rfl⟩ ((e1.trans e2).trans e3) ⟨u, _, rfl, .inl (.inl (upd_out (((S.ex e1).ex e2).fresh hu))), Dat.mono (wo_ex (e2.trans e3)).le r1, Dat.mono (wo_ex e3).le r2, trivial⟩
theorem exx_pair1 {Rp : α → Prop} {Xp : Exn → Prop} (ha : EXX X W a env Rp Xp) (hb : EX X b env y) (h1 : starEach [a, b] X.env = (false, eval a X.env) :: starEach [b] X.env := by exact star_plain rfl _ _) (h2 : starEach [b] X.env = (false, eval b X.env) :: starEach [] X.env := by exact star_plain rfl _ _) :
    EXX X W (.Tuple [a, b] j pos) env (fun p : α × β => ∃ r, Rp r ∧ p = (r, y)) Xp := fun O fp σ H S Q q qx => by
  refine tE_of fun pins s I => (pe_tup (pa_cons (mE X a) (pa_cons (mE X b) pa_nil h2) h1)).run pins s σ H Q I ?_
  refine ha O fp σ H S _ (fun r v1 H1 hr e1 r1 => hb O fp σ H1 (S.ex e1) _ fun v2 H2 e2 r2 => ⟨show 2 ≤ sizeLine by decide, fun u hu => ?_⟩) (fun c cls d H1 hx e1 xa => qx c cls d H1 hx e1 xa)
  have e3 : Ex H2 (upd H2 u (.tup [v1, v2])) := Ex.new hu
  exact q (r, y) _ _ ⟨r, hr, rfl⟩ ((e1.trans e2).trans e3) ⟨u, _, rfl, .inl (.inl (upd_out (((S.ex e1).ex e2).fresh hu))), Dat.mono (wo_ex (e2.trans e3)).le r1, Dat.mono (wo_ex e3).le r2, trivial⟩
theorem exx_told {Rp : Rat → Prop} {Xp : Exn → Prop} (ha : EX X a env (Str.ofString "told")) (hb : EXX X W b env Rp Xp) (h1 : starEach [a, b] X.env = (false, eval a X.env) :: starEach [b] X.env := by exact star_plain rfl _ _) (h2 : starEach [b] X.env = (false, eval b X.env) :: starEach [] X.env := by exact star_plain rfl _ _) :
    EXX X W (.Tuple [a, b] j pos) env (fun p : Tld => ∃ r, Rp r ∧ p = Tld.told r) Xp := fun O fp σ H S Q q qx =>
  exx_pair2 ha hb h1 h2 O fp σ H S Q (fun p v H' ⟨r, hr, e⟩ e1 rp => q (Tld.told r) v H' ⟨r, hr, rfl⟩ e1 (by subst e; exact rp)) qx
end
end R
set_option maxHeartbeats 1000000
set_option autoImplicit false
/-! is None, as a value and as a test -/
namespace R
open PySem PySem.Spec PyProof.Rows L2
class NoNone (α : Type) [Dat α] : Prop where
  no : ∀ (K : PySem.W.Frag) (H : Hp) (v : V) (y : α), Dat.rep K H v y → v ≠ .non
instance : NoNone Int := ⟨fun K H v y h e => by have h : v = .int y := h; rw [h] at e; cases e⟩
instance : NoNone Bool := ⟨fun K H v y h e => by have h : v = .bl y := h; rw [h] at e; cases e⟩
instance : NoNone Str := ⟨fun K H v y h e => by have h : v = .str y := h; rw [h] at e; cases e⟩
theorem tup_none {K : PySem.W.Frag} {H : Hp} {v : V} {cs : List Sl} (h : repT K H v cs) : v ≠ .non := fun e => by
  obtain ⟨a, vs, h0, _⟩ := h
  rw [h0] at e
  cases e
instance {α β : Type} [Dat α] [Dat β] : NoNone (α × β) := ⟨fun K H v y h => tup_none h⟩
instance {α β γ : Type} [Dat α] [Dat β] [Dat γ] : NoNone (T3 α β γ) := ⟨fun K H v y h => tup_none h⟩
instance {α β γ δ : Type} [Dat α] [Dat β] [Dat γ] [Dat δ] : NoNone (T4 α β γ δ) := ⟨fun K H v y h => tup_none h⟩
instance : NoNone Rat := ⟨fun K H v y h => tup_none h⟩
instance {α : Type} [Dat α] : NoNone (List α) := ⟨fun K H v y h e => by obtain ⟨a, vs, h0, _⟩ := h; rw [h0] at e; cases e⟩
instance {α : Type} [Dat α] : NoNone (Dc α) := ⟨fun K H v y h e => by obtain ⟨a, vs, h0, _⟩ := h; rw [h0] at e; cases e⟩
section
variable {X : Cx} {env : Env'} {α : Type} [Dat α] [NoNone α] {a : Expr} {pos pos' : Pos} {m : Option α} {j : Nat}
theorem xx_isN (h : EX X a env m) : EX X (.Compare a [.Is] [.Constant .none j pos'] pos) env m.isNone := ex_isN NoNone.no h
theorem xx_isNotN (h : EX X a env m) : EX X (.Compare a [.IsNot] [.Constant .none j pos'] pos) env (!m.isNone) := ex_isNotN NoNone.no h
theorem xt_isN (h : EX X a env m) : ET X (.Compare a [.Is] [.Constant .none j pos'] pos) env m.isNone := et_of (pt_cmp (pc_isN (mE X a)) (nobehind _ (by decide) (by decide))) fun O fp σ H S Q q => h O fp σ H S _ fun v H' e1 r => by
  refine ⟨m.isNone, ?_, q _ e1⟩
  show V.bl _ = V.bl _
  cases m with
  | none => rw [show v = .non from r]; rfl
  | some y => rw [decide_eq_false (NoNone.no (α := α) _ _ _ y r)]; rfl
theorem xt_isNotN (h : EX X a env m) : ET X (.Compare a [.IsNot] [.Constant .none j pos'] pos) env (!m.isNone) := et_of (pt_cmp (pc_notN (mE X a)) (nobehind _ (by decide) (by decide))) fun O fp σ H S Q q => h O fp σ H S _ fun v H' e1 r => by
  refine ⟨!m.isNone, ?_, q _ e1⟩
  show V.bl _ = V.bl _
  cases m with
  | none => rw [show v = .non from r]; rfl
  | some y => rw [decide_eq_false (NoNone.no (α := α) _ _ _ y r)]; rfl
end
end R
set_option maxHeartbeats 1000000
set_option autoImplicit false
/-! instances of the text's own classes, as data that never change -/
namespace R
open PySem PySem.Spec PyProof.Rows L2
abbrev IsCls (K : PySem.W.Frag) (c : Str) (C : Addr) : Prop := PySem.W.nsIn K mainGlobals c = some (some (.ref C))
theorem IsCls.same {K : PySem.W.Frag} {c : Str} {C D : Addr} (h : IsCls K c C) (h' : IsCls K c D) : C = D := by
  have e := (show PySem.W.nsIn K mainGlobals c = some (some (.ref C)) from h).symm.trans (show PySem.W.nsIn K mainGlobals c = some (some (.ref D)) from h')
  cases e
  rfl
def recD (K : PySem.W.Frag) (H : Hp) (v : V) (c : Str) (fs : List (Str × Sl)) : Prop := ∃ a C dx vs, v = .ref a ∧ IsCls K c C ∧ Rd H a (.ins C dx ((fs.map Prod.fst).zip vs)) ∧ ARep K H vs (fs.map Prod.snd)
theorem recD.mono {K : PySem.W.Frag} {H H' : Hp} {v : V} {c : Str} {fs : List (Str × Sl)} (e : Le H H') (h : recD K H v c fs) : recD K H' v c fs :=
  let ⟨a, C, dx, vs, h1, h2, h3, h4⟩ := h; ⟨a, C, dx, vs, h1, h2, e a _ trivial h3, h4.mono e⟩
/-- what is an instance, with this class and these fields -/
class Rec (τ : Type) [Dat τ] where
  cls : τ → Str
  flds : τ → List (Str × Sl)
  is : ∀ (K : PySem.W.Frag) (H : Hp) (v : V) (x : τ), Dat.rep K H v x ↔ recD K H v (cls x) (flds x)
theorem insRd {P : Program} {w : World} {H : Hp} {h : Heap} {a C dx : Addr} {fs : List (Str × V)} (hok : HOk P w H h) (e : Rd H a (.ins C dx fs)) : ∃ mA, ObjM h a dx C mA ∧ (∀ f, RelO (fs.lookup f) (mA f)) := by
  have key : ObjOk P w H h a (.ins C dx fs) := by
    rcases e with e | ⟨o, e⟩
    · exact hok a _ e
    · exact (show ObjOk P w H h a (.frz o (.ins C dx fs)) from hok a _ e).2
  obtain ⟨d, z, ne, ob, mA, n, r, q⟩ := key
  exact ⟨mA, ⟨ob, n, ne⟩, r⟩
section
variable {X : Cx} {pins : List (Addr × Obj)} {σ : L2.St} {H : Hp} {s : Shared} {a C dx : Addr} {fs : List (Str × V)} {f : Str} {v : V} {A : Around} {E : Value → Shared → Prop}
theorem attrRd {b : Bool} {Q : Value → Shared → Prop} (I : Inv X pins σ H s) (e : Rd H a (.ins C dx fs)) (c : Cls X.K C) (n : NoAttr X.K C f) (l : fs.lookup f = some v) (h : ∀ u s', Inv X pins σ H s' → RelV v u → Q u s') : wpAny (model X.prog X.w) A (getAttr (.ref a) f b) Q E s := by
  obtain ⟨mA, O, r⟩ := insRd I.hok e
  obtain ⟨u, hu, ru⟩ := RelO.some_of (v := v) (o := mA f) (by rw [← l]; exact r f)
  exact get_map I.kIn O (c.get f) c.hd n hu (handed_of ru) (h u _ (I.tok _) ru)
theorem methRd {m : Str} {g : Addr} {pl : Sem Bool} {Q : Value × List Value → Shared → Prop} (I : Inv X pins σ H s) (e : Rd H a (.ins C dx fs)) (c : Cls X.K C) (k : Meth X.K C m g) (l : fs.lookup m = none) (h : Q (.ref g, [.ref a]) s) : wpAny (model X.prog X.w) A (getMethod (.ref a) m pl) Q E s := by
  obtain ⟨mA, O, r⟩ := insRd I.hok e
  have hn : mA m = none := RelO.none_of (by rw [← l]; exact r m)
  exact get_meth I.kIn O (c.get m) k.at_ k.fn hn h
end
def tFldR (K : PySem.W.Frag) (ta : TE) (f : Str) : TE := fun σ H Q => ta σ H fun x H1 => ∃ a C dx fs v, x = .ref a ∧ Rd H1 a (.ins C dx fs) ∧ Cls K C ∧ NoAttr K C f ∧ fs.lookup f = some v ∧ Q v H1
def tMthR (C : Addr) (m : Str) (sp : Sp) (E : L2.St → XK) (ta : TE) (t : TA) : TE := fun σ H Q => ta σ H fun x H1 => ∃ a dx fs, x = .ref a ∧ Rd H1 a (.ins C dx fs) ∧ fs.lookup m = none ∧ t σ H1 fun vs H2 => sp (x :: vs) H2 Q (E σ)
section
variable {X : Cx} {o e : Expr} {es : List Expr} {f m : Str} {pos apos : Pos} {ta : TE} {t : TA} {k : Nat} {C g : Addr} {fd : FuncData} {ps : List Str} {sp : Sp} {E : L2.St → XK}
theorem pe_fldR (he : PE X o ta) (hb : attributeBase o f X.env (eval o X.env) = eval o X.env) : PE X (.Attribute o f pos) (tFldR X.K ta f) := by
  constructor
  intro pins s σ H Q I h
  refine attr_of hb (thn (he.run pins s σ H _ I h) fun u s1 ⟨x, H1, I1, rx, a, C, dx, fs, v, ex, ea, c, n, l, q⟩ => ?_)
  subst ex
  obtain rfl : u = Value.ref a := rx
  exact attrRd I1 ea c n l fun u' s2 I2 ru => ⟨v, H1, I2, ru, q⟩
/-- o.m(e, ..) of an instance that is read -/
theorem pe_mthR {pl : Sem Bool} (he : PE X o ta) (c : Cls X.K C) (hm : Meth X.K C m g) (F : FnOk X.prog X.w X.K X.mg X.base (L2.CX X.prog X.w) k g fd ps sp) (hr : Room k X.A) (hb : Binds X.K fd ps []) (hx : ∀ σ, PassesAt (L2.CX X.prog X.w) X σ (E σ)) (ha : PA X (e :: es) t)
    (hst : starEach (e :: es) X.env = (false, eval e X.env) :: starEach es X.env := by exact star_plain rfl _ _) (hpl : (backTo pos (starEach es X.env)).any (·.1) = false := by exact star_pl rfl)
    (ht : eval (.Call (.Attribute o m apos) (e :: es) [] pos) X.env = (do
      let ov ← eval o X.env
      standAt apos.atName
      let (f, first) ← holding [ov] (getMethod ov m pl)
      callWith pos f first (backTo pos (starEach (e :: es) X.env)) (backToKw pos (keywordEach [] X.env))) := by rfl) :
    PE X (.Call (.Attribute o m apos) (e :: es) [] pos) (tMthR C m sp E ta t) := by
  constructor
  intro pins s σ H Q I h
  refine PySem.W.methodCall_KW (pl := pl) (thn (he.run pins s σ H _ I h) fun u s1 ⟨x, H1, I1, rx, a, dx, fs, ex, ea, l, q⟩ => ?_) ht
  subst ex
  obtain rfl : u = Value.ref a := rx
  refine methRd I1 ea c hm l (PySem.W.callWith_K (first := [.ref a]) (h₀ := X.base) I.ok.mod.kin hm.kp (thn (ha.run pos pins s1 σ H1 _ I1 q) fun us s2 ⟨vs, H2, I2, r, q2⟩ => ⟨I2.kIn, ?_⟩) hst hpl)
  exact run_fnSD (us := .ref a :: us) (vs := .ref a :: vs) (dvs := []) (ds := []) F hr hb .nil (hx σ) I2 (.cons rfl r) (by rw [List.append_nil]; exact q2)
theorem pe_mthR0 {pl : Sem Bool} (he : PE X o ta) (c : Cls X.K C) (hm : Meth X.K C m g) (F : FnOk X.prog X.w X.K X.mg X.base (L2.CX X.prog X.w) k g fd ps sp) (hr : Room k X.A) (hb : Binds X.K fd ps []) (hx : ∀ σ, PassesAt (L2.CX X.prog X.w) X σ (E σ))
    (ht : eval (.Call (.Attribute o m apos) [] [] pos) X.env = (do
      let ov ← eval o X.env
      standAt apos.atName
      let (f, first) ← holding [ov] (getMethod ov m pl)
      callWith pos f first (backTo pos (starEach [] X.env)) (backToKw pos (keywordEach [] X.env))) := by rfl) :
    PE X (.Call (.Attribute o m apos) [] [] pos) (tMthR C m sp E ta tNil) := by
  constructor
  intro pins s σ H Q I h
  refine PySem.W.methodCall_KW (pl := pl) (thn (he.run pins s σ H _ I h) fun u s1 ⟨x, H1, I1, rx, a, dx, fs, ex, ea, l, q⟩ => ?_) ht
  subst ex
  obtain rfl : u = Value.ref a := rx
  exact methRd I1 ea c hm l (PySem.W.callWith_K0 (first := [.ref a]) I1.kIn hm.kp (run_fnSD (us := [.ref a]) (vs := [.ref a]) (dvs := []) (ds := []) F hr hb .nil (hx σ) I1 (.cons rfl .nil) q))
end
/-! ### fields -/
theorem zip_look {K : PySem.W.Frag} {H : Hp} {α : Type} [Dat α] {y : α} {f : Str} : ∀ {fs : List (Str × Sl)} {vs : List V}, ARep K H vs (fs.map Prod.snd) → fs.lookup f = some (.dat y) → ∃ u, ((fs.map Prod.fst).zip vs).lookup f = some u ∧ Dat.rep K H u y
  | [], _, _, h => by cases h
  | (n, .dat (i := i) x) :: fs, v :: vs, r, h => by
    rw [List.lookup_cons] at h
    show ∃ u, List.lookup f ((n, v) :: (fs.map Prod.fst).zip vs) = some u ∧ _
    rw [List.lookup_cons]
    cases e : (f == n) with
    | true =>
      rw [e] at h
      have h : Sl.dat (i := i) x = Sl.dat y := by simpa using h
      cases h
      exact ⟨v, rfl, r.1⟩
    | false =>
      rw [e] at h
      exact zip_look r.2 h
  | (n, .dat (i := i) x) :: fs, [], r, _ => by simp [ARep] at r
  | (n, .any) :: fs, [], r, _ => by simp [ARep] at r
  | (n, .any) :: fs, _ :: _, r, _ => by simp [ARep] at r
  | (n, .own (i := _) _) :: fs, [], r, _ => by simp [ARep] at r
  | (n, .own (i := _) _) :: fs, _ :: _, r, _ => by simp [ARep] at r
theorem zip_none {f : Str} : ∀ {fs : List (Str × Sl)} {vs : List V}, fs.lookup f = none → ((fs.map Prod.fst).zip vs).lookup f = none
  | [], _, _ => rfl
  | (n, s) :: fs, [], _ => rfl
  | (n, s) :: fs, v :: vs, h => by
    rw [List.lookup_cons] at h
    show List.lookup f ((n, v) :: (fs.map Prod.fst).zip vs) = none
    rw [List.lookup_cons]
    cases e : (f == n) with
    | true => rw [e] at h; cases h
    | false => rw [e] at h; exact zip_none h
/-- what the class c says of its field f -/
structure FldOk (K : PySem.W.Frag) (c f : Str) : Prop where
  ex : ∃ C, IsCls K c C ∧ Cls K C ∧ NoAttr K C f
/-- what the class c's method m promises -/
structure MthOk (P : Program) (w : World) (K : PySem.W.Frag) (mg : Str → Option Value) (base : Heap) (c m : Str) (k : Nat) (ps : List Str) (sp : Sp) : Prop where
  ex : ∃ C f fd, IsCls K c C ∧ Cls K C ∧ Meth K C m f ∧ FnOk P w K mg base (L2.CX P w) k f fd ps sp ∧ Binds K fd ps []
theorem MthOk.imp {P : Program} {w : World} {K : PySem.W.Frag} {mg : Str → Option Value} {base : Heap} {c m : Str} {k n : Nat} {ps : List Str} {ρ : Type} [Res ρ] {Φ Ψ : Phi ρ} (d : MthOk P w K mg base c m k ps (spP K mg n Φ)) (h : ∀ args R Xp, Ψ args R Xp → Φ args R Xp) : MthOk P w K mg base c m k ps (spP K mg n Ψ) := by
  obtain ⟨C, f, fd, h1, h2, h3, F, h5⟩ := d.ex
  exact ⟨C, f, fd, h1, h2, h3, F.imp fun vs H Q E ⟨hl, O, args, R, Xp, ph, rest⟩ => ⟨hl, O, args, R, Xp, h _ _ _ ph, rest⟩, h5⟩
section
variable {X : Cx} {W : WX} {env : Env'} {α τ : Type} [Dat α] [Dat τ] [Rec τ] {x : τ} {y : α} {o e : Expr} {es : List Expr} {pos apos : Pos} {f m : Str}
theorem ex_fld (h : EX X o env x) (c : FldOk X.K (Rec.cls x) f) (hf : (Rec.flds x).lookup f = some (.dat y)) (hb : attributeBase o f X.env (eval o X.env) = eval o X.env := by rfl) : EX X (.Attribute o f pos) env y := by
  obtain ⟨C, c1, c2, c3⟩ := c.ex
  refine ex_of (pe_fldR (mE X o) hb) fun O fp σ H S Q q => h O fp σ H S _ fun v H1 e1 r1 => ?_
  obtain ⟨a, C', dx, vs, rfl, g1, g2, g3⟩ := (Rec.is _ _ _ _).mp r1
  cases c1.same g1
  obtain ⟨u, u1, u2⟩ := zip_look g3 hf
  exact ⟨a, C, dx, _, u, rfl, wo_le a _ trivial g2, c2, c3, u1, q u H1 e1 u2⟩
/-- o.m() -/
theorem ex_mth0 {ρ : Type} [Dat ρ] {k : Nat} {ps : List Str} {Φ : Phi ρ} {r : ρ} (h : EX X o env x) (d : MthOk X.prog X.w X.K X.mg X.base (Rec.cls x) m k ps (spP X.K X.mg 1 Φ)) (hr : Room k X.A) (hn : (Rec.flds x).lookup m = none) (hΦ : Φ [.dat x] (fun r' => r' = r) (fun _ => False)) {pl : Sem Bool}
    (ht : eval (.Call (.Attribute o m apos) [] [] pos) X.env = (do
      let ov ← eval o X.env
      standAt apos.atName
      let (f, first) ← holding [ov] (getMethod ov m pl)
      callWith pos f first (backTo pos (starEach [] X.env)) (backToKw pos (keywordEach [] X.env))) := by rfl) : EX X (.Call (.Attribute o m apos) [] [] pos) env r := by
  obtain ⟨C, g, fd, c1, c2, c3, F, hb⟩ := d.ex
  refine ex_of (pe_mthR0 (E := fun _ => E0) (mE X o) c2 c3 F hr hb (fun σ _ _ _ _ _ _ z => by obtain ⟨_, _, _, _, _, _, _, _, _, _, _, _, z⟩ := z; exact z.elim) ht) fun O fp σ H S Q q => h O fp σ H S _ fun v H1 e1 r1 => ?_
  obtain ⟨a, C', dx, vs, rfl, g1, g2, g3⟩ := (Rec.is _ _ _ _).mp r1
  cases c1.same g1
  have S2 := ARep.sok (vs := [.ref a]) (xs := [.dat x]) (S.ex e1).bndU ⟨r1, trivial⟩
  exact ⟨a, dx, _, rfl, wo_le a _ trivial g2, zip_none hn, rfl, UU O fp, [.dat x], _, _, hΦ, S2, fun r' v H' hr' e2 rp => by subst hr'; exact q v H' (e1.trans e2) rp, fun _ _ _ _ h => h.elim⟩
end
end R
set_option maxHeartbeats 1000000
set_option autoImplicit false
/-! sets of texts: made of a list, put together, sorted, counted -/
namespace RS8
open PySem PySem.Spec PyProof.Rows L2
/-- the text of an entry -/
def txt (e : Int × Value) : Str := match e.2 with | .str x _ => x | _ => Str.empty
def IsTxt (w : World) (e : Int × Value) : Prop := ∃ x c, e.2 = Value.str x c ∧ e.1 = hashStr w x
def Led (w : World) (t : SetTable) : Prop := w.params.followText "set-order" = true ∨ t.led = true
/-- what is asked of a set's entries and table -/
structure TxtTab (w : World) (es : Array (Int × Value)) (t : SetTable) (L : List Str) : Prop where
  all : ∀ e ∈ es.toList, IsTxt w e
  perm : (es.toList.map txt).Perm L
  nd : L.Nodup
  few : es.size < scanBound
  fit : t.fits es.size = true
  ris : Ris t.place.toList
  led : Led w t
/-- at a lies a set of just the texts L, each once -/
def SetS (w : World) (h : Heap) (a : Addr) (L : List Str) : Prop := ∃ o es ep t, h.get? a = some o ∧ o.ExactSet ∧ o.data = .set es ep t ∧ TxtTab w es t L
section
variable {P : Program} {w : World} {h h' : Heap} {a : Addr} {L : List Str}
theorem SetS.at (R : SetS w h a L) (k : ∀ o, h.get? a = some o → h'.get? a = some o) : SetS w h' a L :=
  let ⟨o, es, ep, t, h1, r⟩ := R; ⟨o, es, ep, t, k o h1, r⟩
theorem TxtTab.len {es : Array (Int × Value)} {t : SetTable} (T : TxtTab w es t L) : es.size = L.length := by
  rw [← T.perm.length_eq, List.length_map, Array.length_toList]
theorem IsTxt.key {e : Int × Value} (g : IsTxt w e) (x : Str) : (PySem.strKind P w).is x e.2 = true ↔ txt e = x := by
  obtain ⟨y, c, h1, _⟩ := g
  unfold txt
  rw [h1]
  show Value.isStrOf x (.str y c) = true ↔ y = x
  simp [Value.isStrOf]
theorem TxtTab.elems {es : Array (Int × Value)} {t : SetTable} (T : TxtTab w es t L) : ElemsOf (PySem.strKind P w) es.toList := fun e he => by
  obtain ⟨y, c, h1, h2⟩ := T.all e he
  refine ⟨⟨y, ?_, h2⟩, ?_⟩
  · rw [h1]; exact strKind_is P w y c
  · rw [h1] <;> rfl
theorem TxtTab.mem {es : Array (Int × Value)} {t : SetTable} (T : TxtTab w es t L) (x : Str) : x ∈ L ↔ ∃ e ∈ es.toList, (PySem.strKind P w).is x e.2 = true := by
  rw [← T.perm.mem_iff, List.mem_map]
  exact ⟨fun ⟨e, he, q⟩ => ⟨e, he, ((T.all e he).key x).mpr q⟩, fun ⟨e, he, q⟩ => ⟨e, he, ((T.all e he).key x).mp q⟩⟩
end
section
variable {P : Program} {w : World} {Z : Around} {EE : Value → Shared → Prop} {st : Shared} {a : Addr} {L : List Str}
/-- the end of adding: the new entries are stored, and laid anew where they are too many -/
theorem put_tail {g : Bool → Sem Unit} (hg : ∀ (b : Bool) (s1 : Shared) (QQ : Unit → Shared → Prop), QQ () s1 → wpAny (model P w) Z (g b) QQ EE s1)
    {o : Obj} {es : Array (Int × Value)} {ep : Nat} {t : SetTable} (at0 : st.heap.get? a = some o) (ex : o.ExactSet) (od : o.data = .set es ep t)
    {es1 : Array (Int × Value)} {t2 : SetTable} (T : TxtTab w es1 t2 L) {wasDummy : Bool} {R : Option Bool → Shared → Prop}
    (fin : ∀ hp, Heap.SameBut a st.heap hp → SetS w hp a L → R (some true) { st with heap := hp }) :
    wpAny (model P w) Z (do
        storeSet a es1 t2
        if (!wasDummy && t2.tooFull) = true then do
            g (relayAll t2 es1 (SetTable.grown es1.size)).2.2
            storeSet a (relayAll t2 es1 (SetTable.grown es1.size)).1 (relayAll t2 es1 (SetTable.grown es1.size)).2.1
            pure (some true)
          else pure (some true)) R EE st := by
  have big := fits_of_scanBound T.few
  refine wpAny_bind (wpAny_storeSet_of at0 od ?_ big)
  have at1 := store_at (es' := es1) (t' := t2) at0 od
  have keep1 := Heap.SameBut.update st.heap a (Obj.putSet es1 t2)
  by_cases full : (!wasDummy && t2.tooFull) = true
  · rw [if_pos full]
    have pm := relayAll_perm t2 es1 (SetTable.grown es1.size)
    have ft := relayAll_fits t2 es1 (SetTable.grown es1.size)
    have rs := relayAll_ris t2 es1 (SetTable.grown es1.size)
    have ld := relayAll_led t2 es1 (SetTable.grown es1.size)
    generalize relayAll t2 es1 (SetTable.grown es1.size) = RA at pm ft rs ld ⊢
    obtain ⟨es2, t3, gv⟩ := RA
    have pm : es2.toList.Perm es1.toList := pm
    have sz : es2.size = es1.size := by
      have := pm.length_eq
      simpa using this
    have T3 : TxtTab w es2 t3 L := ⟨fun e he => T.all e (pm.mem_iff.mp he), (pm.map txt).trans T.perm, T.nd, by rw [sz]; exact T.few, ft, rs, T.led.imp id fun z => by rw [show t3.led = t2.led from ld]; exact z⟩
    refine wpAny_bind (hg _ _ _ (wpAny_bind (wpAny_storeSet_of at1 rfl (wpAny_pure (fin _ (keep1.trans (Heap.SameBut.update _ a _)) ?_)) (fits_of_scanBound T3.few))))
    exact ⟨_, es2, _, t3, store_at (es' := es2) (t' := t3) at1 rfl, ex, rfl, T3⟩
  · rw [if_neg full]
    exact wpAny_pure (fin _ keep1 ⟨_, es1, _, t2, at1, ex, rfl, T⟩)
/-- L with x in it -/
def insL (x : Str) (L : List Str) : List Str := if x ∈ L then L else x :: L
theorem insL_nd {x : Str} {L : List Str} (h : L.Nodup) : (insL x L).Nodup := by
  unfold insL
  split
  · exact h
  · rename_i hx; exact List.nodup_cons.mpr ⟨hx, h⟩
theorem mem_insL {x y : Str} {L : List Str} : y ∈ insL x L ↔ y = x ∨ y ∈ L := by
  unfold insL
  split
  · rename_i hx
    exact ⟨.inr, fun h => h.elim (fun e => e ▸ hx) id⟩
  · exact List.mem_cons
theorem len_insL {x : Str} {L : List Str} : (insL x L).length ≤ L.length + 1 := by
  unfold insL
  split
  · omega
  · simp
/-- a text is added -/
theorem put_txt {x : Str} {c : Tok} {QQ : Bool → Shared → Prop} (R : SetS w st.heap a L) (room : L.length + 1 < scanBound)
    (fin : ∀ hp b, Heap.SameBut a st.heap hp → SetS w hp a (insL x L) → QQ b { st with heap := hp }) :
    wpAny (model P w) Z (setAddHashed a (.str x c) (hashStr w x)) QQ EE st := by
  obtain ⟨o, es, ep, t, at0, ex, od, T⟩ := R
  have isx : (PySem.strKind P w).is x (.str x c) = true := strKind_is P w x c
  have scn : (Value.str x c).scannable = true := rfl
  have els : ElemsOf (PySem.strKind P w) es.toList := T.elems
  unfold setAddHashed setAddHashedIn
  refine wpAny_holding (wpAny_bind (wpAny_setState_of at0 od T.fit ?_))
  dsimp only
  rw [byScan_of scn T.few els, if_pos rfl]
  unfold setAddByScan
  refine wpAny_bind (wpAny_bind (wpAny_rule (wpAny_bind (wpAny_setScan_of (knd := PySem.strKind P w) isx at0 od T.fit els ?_))))
  cases hfi : List.findIdx? (fun e => (PySem.strKind P w).is x e.2) es.toList with
  | some j =>
    dsimp only
    obtain ⟨hj, pj, _⟩ := List.findIdx?_eq_some_iff_getElem.mp hfi
    have xin : x ∈ L := (T.mem (P := P) x).mpr ⟨es.toList[j], List.getElem_mem hj, pj⟩
    refine wpAny_pure (wpAny_pure (fin st.heap false (Heap.SameBut.refl a st.heap) ⟨o, es, ep, t, at0, ex, od, ?_⟩))
    unfold insL
    rw [if_pos xin]
    exact T
  | none =>
    dsimp only
    have xout : x ∉ L := fun z => by
      obtain ⟨e, he, q⟩ := (T.mem (P := P) x).mp z
      have := List.findIdx?_eq_none_iff.mp hfi e he
      rw [q] at this
      cases this
    have gvw : ∀ (b : Bool) (s1 : Shared) (Q1 : Unit → Shared → Prop), Q1 () s1 → wpAny (model P w) Z (match b with | true => rule "set.scan.the-table-gave-way" | false => pure ()) Q1 EE s1 := fun b s1 Q1 q => by
      cases b
      · exact wpAny_pure q
      · exact wpAny_rule q
    have pm := layNew_perm t es (hashStr w x) (.str x c)
    have ft := layNew_fits t es (hashStr w x) (.str x c)
    have rs := layNew_ris t es (hashStr w x) (.str x c) T.ris
    have ld := layNew_led t es (hashStr w x) (.str x c)
    generalize layNew t es (hashStr w x) (.str x c) = LN at pm ft rs ld ⊢
    obtain ⟨es1, t1, wasDummy, gave⟩ := LN
    have pm : es1.toList.Perm (es.push (hashStr w x, .str x c)).toList := pm
    rw [Array.toList_push] at pm
    have pc : es1.toList.Perm ((hashStr w x, Value.str x c) :: es.toList) := pm.trans (List.perm_append_singleton _ _)
    have sz : es1.size = L.length + 1 := by
      have := pc.length_eq
      rw [Array.length_toList, List.length_cons, Array.length_toList, T.len] at this
      exact this
    have e1 : insL x L = x :: L := if_neg xout
    have mk : ∀ t2 : SetTable, t2.fits es1.size = true → Ris t2.place.toList → t2.led = t.led → TxtTab w es1 t2 (insL x L) := fun t2 f1 f2 f3 => by
      refine ⟨fun e he => ?_, ?_, insL_nd T.nd, by rw [sz]; exact room, f1, f2, T.led.imp id fun z => by rw [f3]; exact z⟩
      · rcases List.mem_cons.mp (pc.mem_iff.mp he) with z | z
        · rw [z]; exact ⟨x, c, rfl, rfl⟩
        · exact T.all e z
      · rw [e1]
        exact (pc.map txt).trans (List.Perm.cons x T.perm)
    refine wpAny_bind (gvw _ _ _ ?_)
    split
    · refine wpAny_bind ?_
      rw [hashByValue_scannable 8 scn]
      refine wpAny_pure (put_tail gvw at0 ex od (mk _ (SetTable.fits_plain_off ft) rs ld) fun hp sb r => ?_)
      exact wpAny_pure (fin hp true sb r)
    · refine wpAny_bind (wpAny_pure ?_)
      rw [if_pos rfl]
      exact put_tail gvw at0 ex od (mk _ ft rs ld) fun hp sb r => wpAny_pure (fin hp true sb r)
end
end RS8
set_option maxHeartbeats 1000000
set_option autoImplicit false
/-! set(xs), xs a list of texts (printed by mk48b.py) -/
namespace RS8
open PySem PySem.Spec PyProof.Rows L2
/-- the texts of a list, each once -/
def setL (xs : List Str) : List Str := xs.foldl (fun l x => insL x l) []
theorem setL_snoc (xs : List Str) (x : Str) : setL (xs ++ [x]) = insL x (setL xs) := by
  unfold setL
  rw [List.foldl_append]
  rfl
theorem fold_nd : ∀ (xs l : List Str), l.Nodup → (xs.foldl (fun l x => insL x l) l).Nodup
  | [], _, h => h
  | x :: xs, l, h => fold_nd xs _ (insL_nd h)
theorem fold_mem {y : Str} : ∀ (xs l : List Str), y ∈ xs.foldl (fun l x => insL x l) l ↔ y ∈ l ∨ y ∈ xs
  | [], l => by simp
  | x :: xs, l => by
    show y ∈ xs.foldl (fun l x => insL x l) (insL x l) ↔ _
    rw [fold_mem xs, mem_insL, List.mem_cons]
    constructor
    · rintro ((h | h) | h)
      · exact .inr (.inl h)
      · exact .inl h
      · exact .inr (.inr h)
    · rintro (h | h | h)
      · exact .inl (.inr h)
      · exact .inl (.inl h)
      · exact .inr h
theorem fold_len : ∀ (xs l : List Str), (xs.foldl (fun l x => insL x l) l).length ≤ l.length + xs.length
  | [], l => by simp
  | x :: xs, l => by
    show (xs.foldl (fun l x => insL x l) (insL x l)).length ≤ _
    have h1 := fold_len xs (insL x l)
    have h2 := len_insL (x := x) (L := l)
    simp only [List.length_cons]
    omega
theorem setL_nd {xs : List Str} : (setL xs).Nodup := fold_nd xs [] List.nodup_nil
theorem mem_setL {xs : List Str} {y : Str} : y ∈ setL xs ↔ y ∈ xs := by
  unfold setL
  rw [fold_mem]
  simp
theorem setL_len {xs : List Str} : (setL xs).length ≤ xs.length := by
  have := fold_len xs []
  rw [List.length_nil, Nat.zero_add] at this
  exact this
theorem strs_len {vs : List Value} {xs : List Str} (h : StrsAre vs xs) : vs.length = xs.length := by
  induction h with
  | nil => rfl
  | cons _ _ _ ih => simp [ih]
theorem strs_val {vs : List Value} {xs : List Str} (h : StrsAre vs xs) : ∀ {i : Nat} {v : Value}, vs[i]? = some v → ∃ k t, xs[i]? = some k ∧ v = .str k t := by
  induction h with
  | nil => intro i v q; simp at q
  | cons x t _ ih =>
    intro i v q
    cases i with
    | zero =>
      simp at q
      exact ⟨x, t, rfl, q.symm⟩
    | succ i => exact ih q
theorem setS_new {w : World} {hp : Heap} {a : Addr} (g : hp.get? a = some { cls := .type "set", dict := none, data := .set #[] 0 (.fresh 0 0 (!w.params.followText "set-order")) }) : SetS w hp a [] := by
  refine ⟨_, #[], 0, _, g, ⟨rfl, rfl, rfl⟩, rfl, ⟨fun e he => by simp at he, by simp, List.nodup_nil, by decide, by rfl, List.Pairwise.nil, ?_⟩⟩
  cases q : w.params.followText "set-order" with
  | true => exact .inl q
  | false => exact .inr rfl
section
variable {P : Program} {w : World} {Z : Around}
theorem put_all {I : Addr} {fp wr : List Addr} {G : Array GenState → Array GenState → Prop} {n : Nat} {PV : Nat → Value → Prop} {ST : Nat → Shared → Prop} {R : Result → Shared → Prop}
    (W : WalksS P w Z.in1 I fp wr G n PV ST) (b0 : Addr) (out0 : b0 ∉ fp) (ns : List Str) (sz : n = ns.length) (room : ns.length + 1 < scanBound) (vals : ∀ i v, PV i v → ∃ k t, ns[i]? = some k ∧ v = .str k t) :
    ∀ (k i : Nat) (st : Shared), n - i = k → i ≤ n → ST i st → SetS w st.heap b0 (setL (ns.take i)) →
      (∀ s', Moved (b0 :: wr) G st s' → SetS w s'.heap b0 (setL ns) → R (.ok (.ret .none)) s') →
      codeAny (model P w) Z (.builtin "set.update.loop" ⟨[.ref b0, .ref I], []⟩) R st := by
  have outw : b0 ∉ wr := fun z => out0 (W.sub _ z)
  have more : ∀ b ∈ wr, b ∈ b0 :: wr := fun b z => List.mem_cons_of_mem _ z
  intro k
  induction k with
  | zero =>
    intro i st hk hi here set0 fin
    obtain rfl : i = n := by omega
    rw [List.take_of_length_le (by omega)] at set0
    refine codeAny_builtin F.entry_set_update_loop ?_
    rw [Around.under_plainId F.plain_set_update_loop _]
    exact wpAny_bind (W.done st _ _ here fun s' mv => wpAny_pure (fin s' (mv.mono more) (set0.at fun o e => mv.heap b0 o outw e)))
  | succ k more2 =>
    intro i st hk hi here set0 fin
    have lt0 : i < n := by omega
    refine codeAny_builtin F.entry_set_update_loop ?_
    rw [Around.under_plainId F.plain_set_update_loop _]
    refine wpAny_bind (W.item i st _ _ lt0 here fun v s' pv here2 mv => ?_)
    obtain ⟨z, c, hz, rfl⟩ := vals i v pv
    have set1 : SetS w s'.heap b0 (setL (ns.take i)) := set0.at fun o e => mv.heap b0 o outw e
    refine wpAny_bind (wpAny_holding ?_)
    unfold setAdd
    refine wpAny_holding (wpAny_bind ((PySem.strKind P w).pyHash (k := z) (strKind_is _ _ _ _) ?_))
    have few : (setL (ns.take i)).length + 1 < scanBound := by
      have h1 := setL_len (xs := ns.take i)
      have h2 := List.length_take_le i ns
      omega
    refine put_txt (st := { s' with toks := s'.toks + 1 }) set1 few fun hp b sb set2 => ?_
    have e2 : ns.take (i + 1) = ns.take i ++ [z] := by rw [List.take_add_one, hz]; rfl
    rw [← setL_snoc, ← e2] at set2
    refine wpAny_pure ⟨plainId_quiet F.plain_set_update_loop _, more2 (i + 1) _ (by omega) lt0 (W.frame _ s' _ _ here2 (Nat.le_succ _) fun d hd o e => ?_) set2 fun s'' mv2 set3 => ?_⟩
    · exact (sb.2 d fun q => out0 (by rw [← q]; exact hd)).trans e
    · refine fin s'' (Moved.trans W.gtrans ((mv.mono more).then_heap (Nat.le_succ _) fun d o hd e => ?_) mv2) set3
      exact (sb.2 d fun q => hd (by rw [q]; exact List.mem_cons_self)).trans e
end
section
variable {pg : Program} {wd : World} {Z : Around} {st : Shared} {EE : Value → Shared → Prop}
theorem set_txts {j : Addr} {vs : Array Value} (ns : List Str) {QQ : Value → Shared → Prop} (noh : Z.handled = none) (ij : st.heap.IsList j vs) (iv : StrsAre vs.toList ns) (room : ns.length + 1 < scanBound)
    (fin : ∀ (hp : Heap) (tk : Nat), SetS wd hp st.heap.objs.size (setL ns) → (∀ b o, st.heap.get? b = some o → hp.get? b = some o) → QQ (.ref st.heap.objs.size) { st with heap := hp, toks := tk }) :
    wpAny (model pg wd) Z (call (.type "set") [.ref j]) QQ EE st := by
  have sz : vs.size = ns.length := (Array.length_toList (xs := vs)).symm.trans (strs_len iv)
  obtain ⟨c0, tl, om⟩ := F.called_set.mro
  have made0 := F.called_set.made
  have sub0 := F.called_set.sub
  refine wpAny_call (codeAny_of_tree ?_)
  show wpAny _ _ (callAny (.type "set") _) _ _ _
  refine wpAny_pure ⟨Code.quiet_builtin _ (by decide +kernel), codeAny_builtin F.entry_type_call ?_⟩; rw [Around.under_plain (weight_type_call_type "set" [.ref j] []) rfl]
  have h1 := F.called_set.notType
  have h2 := F.called_set.canCreate
  have ck0 := F.typeCall_set_1 (.ref j)
  repeat (any_goals (first | assumption | wp_step))
  refine codeAny_mono (code_set_led1 (.ref j) (E := EE) (Q₁ := fun obj s₁ => obj = .ref st.heap.objs.size ∧ s₁ = { st with heap := st.heap.push { cls := .type "set", dict := none, data := .set #[] 0 (.fresh 0 0 (!wd.params.followText "set-order")) } }) ⟨rfl, rfl⟩) fun r s₁ hr => ?_
  cases r with
  | error e => exact hr
  | ok fl =>
    cases fl with
    | ret obj =>
      obtain ⟨rfl, rfl⟩ := hr
      have at0 : (st.heap.push { cls := .type "set", dict := none, data := .set #[] 0 (.fresh 0 0 (!wd.params.followText "set-order")) }).get? st.heap.objs.size = some { cls := .type "set", dict := none, data := .set #[] 0 (.fresh 0 0 (!wd.params.followText "set-order")) } := Heap.get?_push_size _ rfl
      have ty0 : Shared.TypeIs { st with heap := st.heap.push { cls := .type "set", dict := none, data := .set #[] 0 (.fresh 0 0 (!wd.params.followText "set-order")) } } (.ref st.heap.objs.size) "set" := ⟨_, at0, rfl⟩
      have lk0 := F.called_set.init.lookup
      have bd0 := F.called_set.init.bind (.ref st.heap.objs.size)
      repeat (any_goals (first | assumption | wp_step))
      refine codeAny_mono (codeAny_call_builtin (R := wants (fun r s₂ => r = .none ∧ ∃ h' tk, s₂ = { st with heap := h', toks := tk } ∧ SetS wd h' st.heap.objs.size (setL ns) ∧ (∀ b o, st.heap.get? b = some o → h'.get? b = some o)) EE) F.called_set.init.plain F.entry_set_init (check_set_init_1 ty0 ?_)) fun r₂ s₂ hr₂ => ?_
      · obtain ⟨ol, om1, hcl, nl, hdl⟩ := ij
        obtain ⟨ocls, odict, odata, oslots⟩ := ol
        simp only at hcl hdl
        subst hcl; subst hdl
        have ol1 : (st.heap.push { cls := .type "set", dict := none, data := .set #[] 0 (.fresh 0 0 (!wd.params.followText "set-order")) }).get? j = some { cls := .type "list", dict := odict, data := .seq vs nl, slots := oslots } := Heap.get?_push_of_some _ om1
        have ss0 := F.sub_list_set
        have sf0 := F.sub_list_frozenset
        have hne : (Value.type "list" == Value.type "dict") = false := by decide
        have ij1 : (st.heap.push { cls := .type "set", dict := none, data := .set #[] 0 (.fresh 0 0 (!wd.params.followText "set-order")) }).IsList j vs := ⟨_, ol1, rfl, nl, rfl⟩
        unfold Builtin.«set.__init__» noKeywords Builtin.Frozenset.updateFrom
        generalize hPI : pyIter = PI
        wp_walk
        subst hPI
        refine wpAny_pyIter_list ij1 ?_
        refine wpAny_bind (wpAny_runValue ?_)
        have lt0 : j < st.heap.objs.size := Heap.lt_size om1
        have noh3 : Z.in1.in1.in1.handled = none := by simp [noh]
        have szh : (st.heap.push { cls := .type "set", dict := none, data := .set #[] 0 (.fresh 0 0 (!wd.params.followText "set-order")) }).objs.size = st.heap.objs.size + 1 := Heap.size_push ..
        have neI : j ≠ (st.heap.push { cls := .type "set", dict := none, data := .set #[] 0 (.fresh 0 0 (!wd.params.followText "set-order")) }).objs.size := by
          rw [Heap.size_push]; exact Nat.ne_of_lt (Nat.lt_succ_of_lt lt0)
        have out0 : st.heap.objs.size ∉ [(st.heap.push { cls := .type "set", dict := none, data := .set #[] 0 (.fresh 0 0 (!wd.params.followText "set-order")) }).objs.size, j] := by
          rw [Heap.size_push]; simp only [List.mem_cons, List.mem_singleton, List.not_mem_nil, or_false, not_or]
          exact ⟨Nat.ne_of_lt (Nat.lt_succ_self _), Nat.ne_of_gt lt0⟩
        have val0 : ∀ (i : Nat) (v : Value), vs[i]? = some v → ∃ k t, ns[i]? = some k ∧ v = .str k t := fun i v hv => by
          have hi : i < ns.length := by rw [← sz]; exact (Array.getElem?_eq_some_iff.mp hv).1
          exact strs_val iv (by rw [Array.getElem?_toList]; exact hv)
        refine put_all ((Walks.list noh3 _ j neI vs).toS) st.heap.objs.size
          out0 ns sz room val0 (vs.size - 0) 0 _ (by omega) (Nat.zero_le _)
          ⟨⟨_, Heap.get?_push_size _ rfl, rfl, rfl⟩, (ij1.push _)⟩ ?hS0 ?hR
        case hS0 =>
          have gt0 : ((st.heap.push { cls := .type "set", dict := none, data := .set #[] 0 (.fresh 0 0 (!wd.params.followText "set-order")) }).push { cls := .type "list_iterator", data := .fields #[.ref j, .int 0 0] }).get? st.heap.objs.size
              = some { cls := .type "set", dict := none, data := .set #[] 0 (.fresh 0 0 (!wd.params.followText "set-order")) } := Heap.get?_push_of_some _ at0
          exact setS_new gt0
        case hR =>
          intro s' mv zS
          obtain ⟨h', g2, d', tk', os'⟩ := s'
          have eg : g2 = st.gens := mv.gens
          have ed : d' = st.drawn := mv.drawn
          have eo : os' = st.os := mv.os
          subst eg; subst ed; subst eo
          show wpAny _ _ _ _ _ _
          refine wpAny_pure ?_
          show wpAny _ _ (ret Value.none) _ _ _
          refine wpAny_pure ⟨rfl, h', tk', rfl, zS, fun b o e => ?_⟩
          have hb0 : b < st.heap.objs.size := Heap.lt_size e
          have hb1 : b ≠ st.heap.objs.size := Nat.ne_of_lt hb0
          have hb2 : b ≠ (st.heap.push { cls := .type "set", dict := none, data := .set #[] 0 (.fresh 0 0 (!wd.params.followText "set-order")) }).objs.size := by
            rw [Heap.size_push]; exact Nat.ne_of_lt (Nat.lt_succ_of_lt hb0)
          exact mv.heap b o (by simp only [List.mem_cons, List.mem_singleton, List.not_mem_nil, or_false, not_or]; exact ⟨hb1, hb2⟩) (Heap.get?_push_of_some _ (Heap.get?_push_of_some _ e))
      · cases r₂ with
        | error e => exact hr₂
        | ok fl₂ =>
          cases fl₂ with
          | ret r =>
            obtain ⟨rfl, h', tk, rfl, zS, zk⟩ := hr₂
            repeat (any_goals (first | assumption | wp_step))
            exact fin _ _ zS zk
          | _ => exact hr₂.elim
    | _ => exact hr.elim
end
end RS8
set_option maxHeartbeats 1000000
set_option autoImplicit false
/-! a | b, both sets of texts -/
namespace RS8
open PySem PySem.Spec PyProof.Rows L2
/-- a set at a, with all that is known of it; its table is a small one without gaps -/
def SmS (w : World) (h : Heap) (a : Addr) (L : List Str) : Prop := ∃ o es ep t, h.get? a = some o ∧ o.ExactSet ∧ o.data = .set es ep t ∧ TxtTab w es t L ∧ t.mask = 7 ∧ t.dummies = #[]
theorem SmS.setS {w : World} {h : Heap} {a : Addr} {L : List Str} (R : SmS w h a L) : SetS w h a L :=
  let ⟨o, es, ep, t, h1, h2, h3, h4, _⟩ := R; ⟨o, es, ep, t, h1, h2, h3, h4⟩
theorem SmS.at {w : World} {h h' : Heap} {a : Addr} {L : List Str} (R : SmS w h a L) (k : ∀ o, h.get? a = some o → h'.get? a = some o) : SmS w h' a L :=
  let ⟨o, es, ep, t, h1, r⟩ := R; ⟨o, es, ep, t, k o h1, r⟩
def txt0 (v : Value) : Str := match v with | .str x _ => x | _ => Str.empty
theorem strs_all : ∀ (vs : List Value), (∀ v ∈ vs, ∃ x c, v = Value.str x c) → StrsAre vs (vs.map txt0)
  | [], _ => .nil
  | v :: vs, h => by
    obtain ⟨x, c, rfl⟩ := h v List.mem_cons_self
    exact .cons x c (strs_all vs fun u hu => h u (List.mem_cons_of_mem _ hu))
theorem SetS.same {w : World} {h : Heap} {a : Addr} {L L' : List Str} (R : SetS w h a L) (nd : L'.Nodup) (m : ∀ x, x ∈ L ↔ x ∈ L') : SetS w h a L' := by
  obtain ⟨o, es, ep, t, h1, h2, h3, T⟩ := R
  exact ⟨o, es, ep, t, h1, h2, h3, T.all, T.perm.trans ((List.perm_ext_iff_of_nodup T.nd nd).mpr m), nd, T.few, T.fit, T.ris, T.led⟩
theorem fit_of {t : SetTable} {n : Nat} (h : t.fits n = true) : t.place.size = n ∧ t.fill ≤ t.mask := by
  simpa [SetTable.fits] using h
section
variable {P : Program} {w : World} {Z : Around} {EE : Value → Shared → Prop} {st : Shared} {a b : Addr} {L M : List Str}
theorem new_set {QQ : Value → Shared → Prop} (fin : ∀ hp, hp = st.heap.push { cls := .type "set", dict := none, data := .set #[] 0 (.fresh 0 0 (!w.params.followText "set-order")) } → SmS w hp st.heap.objs.size [] → QQ (.ref st.heap.objs.size) { st with heap := hp }) :
    wpAny (model P w) Z (newSet (.type "set")) QQ EE st := by
  unfold newSet setsByText
  refine wpAny_bind (wpAny_bind (wpAny_askSetting (wpAny_pure ?_)))
  show wpAny _ _ (newObj (.type "set") _) _ _ _
  simp only [newObj]
  refine wpAny_bind (wpAny_alloc (wpAny_pure (fin _ rfl ?_)))
  refine ⟨_, #[], 0, _, Heap.get?_push_size _ rfl, ⟨rfl, rfl, rfl⟩, rfl, ⟨fun e he => by simp at he, by simp, List.nodup_nil, by decide, by rfl, List.Pairwise.nil, ?_⟩, rfl, rfl⟩
  cases q : w.params.followText "set-order" with
  | true => exact .inl q
  | false => exact .inr (by show (!w.params.followText "set-order") = true; rw [q]; rfl)
theorem no_room {t : SetTable} {n k : Nat} (h : t.fits n = true) (m : t.mask = 7) (d : t.dummies = #[]) (few : n + k ≤ 4) : t.roomFor k = none := by
  have := (fit_of h).1
  unfold SetTable.roomFor SetTable.fill
  rw [m, d, this]
  refine if_neg ?_
  show ¬ ((n + 0 + k) * 5 ≥ 7 * 3)
  omega
theorem room_none {o : Obj} {es : Array (Int × Value)} {ep : Nat} {t : SetTable} {k : Nat} {QQ : Unit → Shared → Prop} (at0 : st.heap.get? a = some o) (od : o.data = .set es ep t) (ft : t.fits es.size = true) (m : t.mask = 7) (d : t.dummies = #[]) (few : es.size + k ≤ 4) (fin : QQ () st) :
    wpAny (model P w) Z (setRoomFor a k) QQ EE st := by
  unfold setRoomFor
  refine wpAny_bind (wpAny_setState_of at0 od ft ?_)
  dsimp only
  rw [no_room ft m d few]
  exact wpAny_pure fin
theorem led_both {t u : SetTable} (h1 : Led w t) (h2 : Led w u) : w.params.followText "set-order" = true ∨ (t.led && u.led) = true := by
  rcases h1 with h | h
  · exact .inl h
  · rcases h2 with g | g
    · exact .inl g
    · exact .inr (by rw [h, g]; rfl)
/-- entries laid in another order -/
theorem laid_anew (t : SetTable) (m : t.mask = 7) {es : Array (Int × Value)} (few : es.size ≤ 4) (led pl : Bool) : ∃ t' order, SetTable.laid t.mask t.finger t.moves led pl (es.map (·.1)) = some (t', order) ∧ order.toList.Perm (List.range es.size) ∧ Ris t'.place.toList ∧ t'.place.size = es.size ∧ t'.led = led ∧ t'.mask = 7 ∧ t'.dummies = #[] := by
  obtain ⟨t', order, e, hp, T, e1, e2, e3, e4⟩ := relaid_ok { t with led := led, plain := pl } (hs := es.map (·.1)) (wanted := 0) (M := 7) (by decide) (.inl rfl) (by simp; omega)
  refine ⟨t', order, ?_, by simpa using hp, T.ris, ?_, e2, e1, e4⟩
  · rw [← e]
    unfold SetTable.relaid SetTable.movedTo
    show _ = SetTable.laid 7 t.finger (if (t.mask == 7 && 7 == 7) = true then t.moves else t.moves + 1) led pl (es.map (·.1))
    rw [m]
    rfl
  · have := hp.length_eq
    rw [T.sz, List.length_map, this]
    simp
theorem order_perm (es : Array (Int × Value)) (order : Array Nat) (h : order.toList.Perm (List.range es.size)) : (order.filterMap (es[·]?)).toList.Perm es.toList := by
  have e1 : (order.filterMap (es[·]?)).toList = order.toList.filterMap (es[·]?) := by simp
  rw [e1]
  refine (h.filterMap _).trans ?_
  have e2 : (List.range es.size).filterMap (es[·]?) = es.toList := by
    apply List.ext_getElem?
    intro i
    have e3 : ∀ (n : Nat), n ≤ es.size → (List.range n).filterMap (es[·]?) = es.toList.take n := by
      intro n
      induction n with
      | zero => intro _; simp
      | succ n ih =>
        intro hn
        have hn' : n < es.size := hn
        rw [List.range_succ, List.filterMap_append, ih (by omega), List.take_add_one]
        simp [hn']
    rw [e3 es.size (Nat.le_refl _), List.take_of_length_le (by simp)]
  rw [e2]
/-- b is put into an empty set -/
theorem merge0 {each : Sem Unit} {QQ : Unit → Shared → Prop} (ne : a ≠ b) (Ra : SmS w st.heap a []) (Rb : SetS w st.heap b M) (few : M.length ≤ 4)
    (fin : ∀ hp, Heap.SameBut a st.heap hp → SmS w hp a M → QQ () { st with heap := hp }) : wpAny (model P w) Z (setMerge a b each) QQ EE st := by
  obtain ⟨o, es, ep, t, at0, ex, od, T, m7, dm⟩ := Ra
  obtain ⟨o2, es2, ep2, t2, at2, ex2, od2, T2⟩ := Rb
  have z0 : es.size = 0 := T.len
  have sz2 : es2.size = M.length := T2.len
  have p0 := (fit_of T.fit).1
  have p2 := (fit_of T2.fit).1
  unfold setMerge
  refine wp_if_neg (by simpa using ne) ?_
  try refine wpAny_bind (wpAny_pure ?_)
  refine wpAny_bind (wpAny_setState_of at2 od2 T2.fit ?_)
  dsimp only
  by_cases emp : es2.isEmpty = true
  · refine wp_if_pos emp (wpAny_pure (fin st.heap (Heap.SameBut.refl a st.heap) ?_))
    have : M = [] := by
      have h : es2 = #[] := by simpa using emp
      rw [h] at sz2
      exact List.length_eq_zero_iff.mp sz2.symm
    subst this
    exact ⟨o, es, ep, t, at0, ex, od, T, m7, dm⟩
  · refine wp_if_neg emp ?_
    try refine wpAny_bind (wpAny_pure ?_)
    refine wpAny_bind (room_none at0 od T.fit m7 dm (by omega) ?_)
    refine wpAny_bind (wpAny_setState_of at0 od T.fit ?_)
    dsimp only
    have f0 : t.fill = 0 := by
      unfold SetTable.fill
      rw [dm, p0, z0]
      rfl
    have rd : t.road t2 = if (t.mask == t2.mask && t2.dummies.isEmpty) = true then .slotForSlot else .clean := by
      unfold SetTable.road
      rw [f0]
      rfl
    have fits2 := fits_of_scanBound T2.few
    by_cases same : (t.mask == t2.mask && t2.dummies.isEmpty) = true
    · rw [rd, if_pos same]
      dsimp only
      have hh : t.mask = t2.mask ∧ t2.dummies = #[] := by simpa using same
      refine wpAny_storeSet_of at0 od (fin _ (Heap.SameBut.update st.heap a _) ⟨_, _, _, _, store_at at0 od, ex, rfl, ⟨T2.all, T2.perm, T2.nd, T2.few, ?_, T2.ris, led_both T.led T2.led⟩, by rw [← hh.1]; exact m7, hh.2⟩) fits2
      exact T2.fit
    · rw [rd, if_neg same]
      obtain ⟨t', order, e, hp, rs, ps, ld, mm, dd⟩ := laid_anew t m7 (es := es2) (by omega) (t.led && t2.led) (t.plain && t2.plain)
      have pm := order_perm es2 order hp
      have sz3 : (order.filterMap (es2[·]?)).size = es2.size := by
        rw [← Array.length_toList]
        exact pm.length_eq.trans Array.length_toList
      show wpAny _ _ ((do
        let some (t, order) := SetTable.laid t.mask t.finger t.moves (t.led && t2.led) (t.plain && t2.plain) (es2.map (·.1)) | unsupported "internal:set-table-without-room"
        let es' := order.filterMap (es2[·]?)
        if es'.size != es2.size then unsupported "internal:set-table-lost-an-element"
        pure (es', t)) >>= fun r => storeSet a r.1 r.2) _ _ _
      rw [e]
      dsimp only
      refine wpAny_bind ?_
      refine wp_if_neg (by rw [sz3]; simp) ?_
      try refine wpAny_bind (wpAny_pure ?_)
      refine wpAny_pure ?_
      refine wpAny_storeSet_of at0 od (fin _ (Heap.SameBut.update st.heap a _) ⟨_, _, _, _, store_at at0 od, ex, rfl, ⟨fun e he => T2.all e (pm.mem_iff.mp he), (pm.map txt).trans T2.perm, T2.nd, by rw [sz3]; exact T2.few, ?_, rs, by rw [Led, ld]; exact led_both T.led T2.led⟩, mm, dd⟩) (by rw [sz3]; exact fits2)
      unfold SetTable.fits SetTable.fill
      rw [sz3, mm, dd, ps]
      simp
      omega
/-- the entries of b, in some order -/
theorem walk_set {o : Obj} {es : Array (Int × Value)} {ep : Nat} {t : SetTable} {QQ : Array (Int × Value) → Shared → Prop} (at0 : st.heap.get? b = some o) (od : o.data = .set es ep t) (ft : t.fits es.size = true) (ld : Led w t)
    (fin : ∀ arr d, arr.toList.Perm es.toList → QQ arr { st with drawn := d }) : wpAny (model P w) Z (setWalk b) QQ EE st := by
  unfold setWalk
  refine wpAny_bind (wpAny_setState_of at0 od ft ?_)
  dsimp only
  refine wpAny_bind (wpAny_byText ?_)
  cases bt : w.params.followText "set-order" with
  | true =>
    refine wp_if_pos rfl ?_
    exact wpAny_bind (wpAny_askSetting (wpAny_pure (fin _ st.drawn (pick_perm _ es))))
  | false =>
    refine wp_if_neg Bool.false_ne_true ?_
    try refine wpAny_bind (wpAny_pure ?_)
    have l1 : t.led = true := ld.resolve_left (by rw [bt]; exact Bool.false_ne_true)
    cases dr : (!t.plain && decide (es.size > 1)) with
    | true =>
      refine wp_if_pos (show (!t.plain && decide (es.size > 1)) = true from dr) ?_
      refine wpAny_bind (drawOrder_at _ _ _ _ (by simp) fun ys d hp => wpAny_pure (fin _ d (by simpa using hp)))
    | false =>
      refine wp_if_neg (show ¬ (!t.plain && decide (es.size > 1)) = true by rw [dr]; exact Bool.false_ne_true) ?_
      try refine wpAny_bind (wpAny_pure ?_)
      refine wpAny_bind (wpAny_of_eq (a := ()) ?_ (wpAny_pure (fin es st.drawn (List.Perm.refl _))))
      show (if (!t.led && decide (es.size > 1)) = true then unsupported "set:maker-not-led" else pure ()) = pure ()
      rw [l1]
      rfl
theorem quiet_txt {QQ : Bool → Shared → Prop} : ∀ (as : List Addr), (∀ a ∈ as, ∃ o es ep t, st.heap.get? a = some o ∧ o.data = .set es ep t ∧ t.fits es.size = true ∧ ∀ e ∈ es.toList, IsTxt w e) → QQ true st → wpAny (model P w) Z (setsQuiet as) QQ EE st := by
  intro as h fin
  unfold setsQuiet
  refine wpAny_bind ?_
  refine wpAny_forIn_list _ (fun rest r s1 => r.1 = none ∧ s1 = st ∧ ∀ a ∈ rest, ∃ o es ep t, st.heap.get? a = some o ∧ o.data = .set es ep t ∧ t.fits es.size = true ∧ ∀ e ∈ es.toList, IsTxt w e) _ ?_ ?_ _ _ ⟨rfl, rfl, h⟩
  · rintro x rest r s1 ⟨z0, rfl, all⟩
    obtain ⟨o, es, ep, t, q1, q2, q3, q4⟩ := all x List.mem_cons_self
    have more := fun u hu => all u (List.mem_cons_of_mem x hu)
    refine wpAny_bind (wpAny_setEntries_of q1 q2 q3 ?_)
    refine wpAny_bind ?_
    show wpAny _ _ (forIn es _ _) _ _ s1
    rw [← Array.forIn_toList]
    refine wpAny_forIn_list _ (fun rest r s2 => r.1 = none ∧ s2 = s1 ∧ ∀ e ∈ rest, IsTxt w e) _ ?_ ?_ _ _ ⟨rfl, rfl, q4⟩
    · rintro e rest2 r2 s2 ⟨_, rfl, txts⟩
      obtain ⟨k, y⟩ := e
      obtain ⟨v, c, hv, _⟩ := txts (k, y) List.mem_cons_self
      cases hv
      exact wpAny_pure ⟨rfl, rfl, fun u hu => txts u (List.mem_cons_of_mem _ hu)⟩
    · rintro ⟨r1, r2⟩ s2 ⟨hr, rfl, _⟩
      simp only at hr
      subst hr
      exact wpAny_pure ⟨rfl, rfl, more⟩
  · rintro ⟨r1, r2⟩ s1 ⟨hr, rfl, _⟩
    simp only at hr
    subst hr
    exact wpAny_pure fin
/-- the entries of b; of a, that takes them in, a mark may change -/
theorem walk_unseen {QQ : Array (Int × Value) → Shared → Prop} {o : Obj} {es : Array (Int × Value)} {ep : Nat} {t : SetTable} (ne : a ≠ b) (Ra : SetS w st.heap a L) (at0 : st.heap.get? b = some o) (od : o.data = .set es ep t) (T : TxtTab w es t M)
    (fin : ∀ arr hp d, arr.toList.Perm es.toList → Heap.SameBut a st.heap hp → SetS w hp a L → QQ arr { st with heap := hp, drawn := d }) : wpAny (model P w) Z (setWalkUnseen b [a] (some a)) QQ EE st := by
  obtain ⟨o2, es2, ep2, t2, at2, ex2, od2, T2⟩ := id Ra
  unfold setWalkUnseen
  refine wpAny_bind (wpAny_setState_of at0 od T.fit ?_)
  dsimp only
  refine wpAny_bind (wpAny_byText ?_)
  have easy : wpAny (model P w) Z (setWalk b) QQ EE st := walk_set at0 od T.fit T.led fun arr d hp => fin arr st.heap d hp (Heap.SameBut.refl a st.heap) Ra
  by_cases c : (w.params.followText "set-order" || t.led && t.plain || decide (es.size ≤ 1)) = true
  · refine wp_if_pos c ?_
    first | exact easy | exact wpAny_bind (wpAny_mono easy (fun _ _ q => wpAny_pure q) fun _ _ q => q)
  · refine wp_if_neg c ?_
    try refine wpAny_bind (wpAny_pure ?_)
    refine wpAny_bind (quiet_txt _ (fun x hx => ?_) ?_)
    · rcases List.mem_cons.mp hx with z | z
      · rw [z]; exact ⟨o, es, ep, t, at0, od, T.fit, T.all⟩
      · rw [List.mem_singleton.mp z]; exact ⟨o2, es2, ep2, t2, at2, od2, T2.fit, T2.all⟩
    refine wp_if_neg (by simp) ?_
    try refine wpAny_bind (wpAny_pure ?_)
    refine wpAny_bind (wpAny_rule ?_)
    refine wpAny_bind (wpAny_setState_of at2 od2 T2.fit ?_)
    dsimp only
    by_cases k : (t2.led && !t.led || t2.plain && !t.plain) = true
    · refine wp_if_pos k ?_
      refine wpAny_bind (wpAny_storeSet_of at2 od2 (wpAny_pure (fin es _ st.drawn (List.Perm.refl _) (Heap.SameBut.update st.heap a _) ⟨_, _, _, _, store_at at2 od2, ex2, rfl, ⟨T2.all, T2.perm, T2.nd, T2.few, T2.fit, T2.ris, led_both T2.led T.led⟩⟩)) (fits_of_scanBound T2.few))
    · refine wp_if_neg k ?_
      exact (wpAny_pure (fin es st.heap st.drawn (List.Perm.refl _) (Heap.SameBut.refl a st.heap) Ra))
/-- b is put into a set that has some -/
theorem merge1 {each : Sem Unit} {QQ : Unit → Shared → Prop} (ne : a ≠ b) (Ra : SmS w st.heap a L) (l0 : L ≠ []) (Rb : SetS w st.heap b M) (few : L.length + M.length ≤ 4)
    (still : ∀ (s1 : Shared) (Q1 : Unit → Shared → Prop), (∀ u, st.heap.get? b = some u → s1.heap.get? b = some u) → Q1 () s1 → wpAny (model P w) Z each Q1 EE s1)
    (fin : ∀ hp d L', Heap.SameBut a st.heap hp → SetS w hp a L' → L'.Nodup → (∀ x, x ∈ L' ↔ x ∈ L ∨ x ∈ M) → QQ () { st with heap := hp, drawn := d }) : wpAny (model P w) Z (setMerge a b each) QQ EE st := by
  obtain ⟨o, es, ep, t, at0, ex, od, T, m7, dm⟩ := id Ra
  obtain ⟨o2, es2, ep2, t2, at2, ex2, od2, T2⟩ := Rb
  have sz : es.size = L.length := T.len
  have sz2 : es2.size = M.length := T2.len
  have p0 := (fit_of T.fit).1
  have lpos : 0 < L.length := List.length_pos_iff.mpr l0
  unfold setMerge
  refine wp_if_neg (by simpa using ne) ?_
  try refine wpAny_bind (wpAny_pure ?_)
  refine wpAny_bind (wpAny_setState_of at2 od2 T2.fit ?_)
  dsimp only
  by_cases emp : es2.isEmpty = true
  · refine wp_if_pos emp (wpAny_pure (fin st.heap st.drawn L (Heap.SameBut.refl a st.heap) Ra.setS T.nd fun x => ?_))
    have : M = [] := by
      have h : es2 = #[] := by simpa using emp
      rw [h] at sz2
      exact List.length_eq_zero_iff.mp sz2.symm
    subst this
    simp
  · refine wp_if_neg emp ?_
    try refine wpAny_bind (wpAny_pure ?_)
    refine wpAny_bind (room_none at0 od T.fit m7 dm (by omega) ?_)
    refine wpAny_bind (wpAny_setState_of at0 od T.fit ?_)
    dsimp only
    have rd : t.road t2 = .oneByOne := by
      unfold SetTable.road SetTable.fill
      rw [dm, p0, sz]
      refine if_pos ?_
      show ((L.length + 0) != 0) = true
      simp
      intro z
      exact l0 z
    rw [rd]
    dsimp only
    refine wpAny_bind (walk_unseen ne Ra.setS at2 od2 T2 fun arr hp d pm sb R1 => ?_)
    have am : (arr.toList.map txt).Perm M := (pm.map txt).trans T2.perm
    have al : arr.toList.length = M.length := by rw [← am.length_eq, List.length_map]
    rw [← Array.forIn_toList]
    refine wpAny_bind ?_
    refine wpAny_forIn_list _ (fun rest _ s1 => ∃ hp d Lc, s1 = { st with heap := hp, drawn := d } ∧ Heap.SameBut a st.heap hp ∧ SetS w hp a Lc ∧ Lc.Nodup ∧ Lc.length + rest.length ≤ L.length + M.length ∧ (∀ x, (x ∈ Lc ∨ x ∈ rest.map txt) ↔ (x ∈ L ∨ x ∈ M)) ∧ ∀ e ∈ rest, IsTxt w e) _ ?_ ?_ _ _ ⟨hp, d, L, rfl, sb, R1, T.nd, by omega, fun x => by rw [am.mem_iff], fun e he => T2.all e (pm.mem_iff.mp he)⟩
    · rintro ⟨k, y⟩ rest r s1 ⟨hp1, d1, Lc, rfl, sb1, S1, nd1, le1, m1, all⟩
      obtain ⟨v, c, hv, hk⟩ := all (k, y) List.mem_cons_self
      cases hv
      have hk : k = hashStr w v := hk
      subst hk
      refine wpAny_bind (wpAny_holding ?_)
      refine put_txt (st := { st with heap := hp1, drawn := d1 }) S1 (by simp only [List.length_cons] at le1; unfold scanBound; omega) fun hp2 b2 sb2 S2 => ?_
      have sb3 : Heap.SameBut a st.heap hp2 := sb1.trans sb2
      refine wpAny_bind (still _ _ (fun u hu => (sb3.2 b (fun q => ne q.symm)).trans hu) ?_)
      refine wpAny_bind (wpAny_setState_of (o := o2) ((sb3.2 b (fun q => ne q.symm)).trans at2) od2 T2.fit ?_)
      dsimp only
      refine wp_if_neg (by simp) ?_
      refine wpAny_pure ⟨hp2, d1, _, rfl, sb3, S2, insL_nd nd1, ?_, fun x => ?_, fun u hu => all u (List.mem_cons_of_mem _ hu)⟩
      · have := len_insL (x := v) (L := Lc)
        simp only [List.length_cons] at le1
        omega
      · rw [← m1 x, mem_insL, List.map_cons, List.mem_cons]
        show (x = v ∨ x ∈ Lc) ∨ _ ↔ x ∈ Lc ∨ x = v ∨ _
        constructor
        · rintro ((h | h) | h)
          · exact .inr (.inl h)
          · exact .inl h
          · exact .inr (.inr h)
        · rintro (h | h | h)
          · exact .inl (.inr h)
          · exact .inl (.inl h)
          · exact .inr h
    · rintro r s1 ⟨hp1, d1, Lc, rfl, sb1, S1, nd1, le1, m1, all⟩
      exact wpAny_pure (fin hp1 d1 Lc sb1 S1 nd1 fun x => by rw [← m1 x]; simp)
theorem entry_s_or : entryFor table "set.__or__" = some Builtin.«frozenset.__or__» :=
  entryFor_alias (id' := "frozenset.__or__") (by kernel_rfl) rfl (by decide +kernel) (by kernel_rfl)
theorem any_set {QQ : Bool → Shared → Prop} (h : st.TypeIs (.ref a) "set") (fin : QQ true st) : wpAny (model P w) Z (Builtin.Frozenset.isAnySet (.ref a)) QQ EE st := by
  unfold Builtin.Frozenset.isAnySet orM
  refine wpAny_bind (wpAny_isInstance h sub_set_self ?_)
  exact wpAny_pure fin
/-- a | b -/
theorem or_sets {QQ : Value → Shared → Prop} (ne : a ≠ b) (Ra : SetS w st.heap a L) (Rb : SetS w st.heap b M) (few : L.length + M.length ≤ 4)
    (fin : ∀ hp d L', (∀ x u, st.heap.get? x = some u → hp.get? x = some u) → SetS w hp st.heap.objs.size L' → L'.Nodup → (∀ x, x ∈ L' ↔ x ∈ L ∨ x ∈ M) → QQ (.ref st.heap.objs.size) { st with heap := hp, drawn := d }) :
    wpAny (model P w) Z (binaryOp .BitOr (.ref a) (.ref b)) QQ EE st := by
  have ta : st.TypeIs (.ref a) "set" := let ⟨o, es, ep, t, h1, h2, _⟩ := Ra; ⟨o, h1, h2.1⟩
  have tb : st.TypeIs (.ref b) "set" := let ⟨o, es, ep, t, h1, h2, _⟩ := Rb; ⟨o, h1, h2.1⟩
  have lta : a < st.heap.objs.size := let ⟨o, es, ep, t, h1, _⟩ := Ra; Heap.lt_size h1
  have ltb : b < st.heap.objs.size := let ⟨o, es, ep, t, h1, _⟩ := Rb; Heap.lt_size h1
  refine wpAny_binaryOp_same ta tb F.fills_set_or F.slot_set_or (wpAny_call_entry F.slot_set_or ta entry_s_or ?_ (F.args_set_or_2 _ _))
  show wpAny _ _ (do
    let (self, other) ← Builtin.Frozenset.slot1 "__or__" ⟨[.ref a, .ref b], []⟩
    let (l, r) := (self, other)
    if !(← Builtin.Frozenset.isAnySet l <&&> Builtin.Frozenset.isAnySet r) then rule s!"frozenset.{"__or__"}.declined"; return ← ret .notImplemented
    ret (← (do
      let result ← Builtin.Frozenset.copyOf (← Builtin.Frozenset.addrOf l)
      if r != .ref (← Builtin.Frozenset.addrOf l) then holding [result] (Builtin.Frozenset.updateFrom s!"frozenset.{"__or__"}" (← Builtin.Frozenset.addrOf result) r)
      return result))) _ _ _
  refine wpAny_bind (m := Builtin.Frozenset.slot1 "__or__" _) (wpAny_of_eq (a := (.ref a, .ref b)) (by rfl) ?_)
  dsimp only
  refine wpAny_bind ?_
  unfold andM
  refine wpAny_bind (any_set ta ?_)
  refine any_set tb ?_
  refine wp_if_neg (by simp) ?_
  try refine wpAny_bind (wpAny_pure ?_)
  refine wpAny_bind ?_
  refine wpAny_bind (m := Builtin.Frozenset.addrOf _) (wpAny_pure ?_)
  refine wpAny_bind ?_
  unfold Builtin.Frozenset.copyOf Builtin.Frozenset.baseOf
  refine wpAny_bind (wpAny_bind (wpAny_isInstance ta sub_set_self (wpAny_pure ?_)))
  refine wpAny_bind (new_set fun hp1 ehp S0 => ?_)
  have k1 : ∀ x u, st.heap.get? x = some u → hp1.get? x = some u := fun x u e => by rw [ehp]; exact Heap.get?_push_of_some _ e
  have na : st.heap.objs.size ≠ a := Nat.ne_of_gt lta
  have nb : st.heap.objs.size ≠ b := Nat.ne_of_gt ltb
  refine wpAny_bind (m := Builtin.Frozenset.addrOf _) (wpAny_pure ?_)
  refine wpAny_bind (merge0 (st := { st with heap := hp1 }) na S0 (Ra.at fun o e => k1 a o e) (by omega) fun hp2 sb2 S2 => ?_)
  refine wpAny_pure ?_
  refine wpAny_bind (m := Builtin.Frozenset.addrOf _) (wpAny_pure ?_)
  have k2 : ∀ x u, st.heap.get? x = some u → hp2.get? x = some u := fun x u e => (sb2.2 x (Nat.ne_of_lt (Heap.lt_size e))).trans (k1 x u e)
  have Rb2 : SetS w hp2 b M := Rb.at fun o e => k2 b o e
  refine wp_if_pos (by simpa using fun z => ne z.symm) ?_
  refine wpAny_bind (m := Builtin.Frozenset.addrOf _) (wpAny_pure ?_)
  refine wpAny_bind (wpAny_holding ?_)
  unfold Builtin.Frozenset.updateFrom
  refine wpAny_bind (any_set (let ⟨o, es, ep, t, h1, h2, _⟩ := Rb2; ⟨o, h1, h2.1⟩) ?_)
  refine wp_if_pos rfl ?_
  refine wpAny_bind (m := Builtin.Frozenset.addrOf _) (wpAny_pure ?_)
  unfold Builtin.Frozenset.merge
  obtain ⟨o2, es2, ep2, t2, at2, ex2, od2, T2⟩ := id Rb2
  refine wpAny_bind (wpAny_setEpoch_of at2 od2 T2.fit ?_)
  have still : ∀ (s1 : Shared) (Q1 : Unit → Shared → Prop), (∀ u, hp2.get? b = some u → s1.heap.get? b = some u) → Q1 () s1 → wpAny (model P w) Z.in1 (Builtin.Frozenset.unchanged "frozenset.__or__" b ep2) Q1 EE s1 := fun s1 Q1 h1 h2 => by
    unfold Builtin.Frozenset.unchanged
    refine wpAny_bind (wpAny_setEpoch_of (h1 o2 at2) od2 T2.fit ?_)
    refine wp_if_neg (by simp) ?_
    exact wpAny_pure h2
  by_cases l0 : L = []
  · subst l0
    refine merge0 (st := { st with heap := hp2 }) nb S2 Rb2 (by simpa using few) fun hp3 sb3 S3 => ?_
    refine wpAny_pure (wpAny_pure ⟨_, rfl, ?_, fin hp3 st.drawn M (fun x u e => (sb3.2 x (Nat.ne_of_lt (Heap.lt_size e))).trans (k2 x u e)) S3.setS ?_ fun x => by simp⟩)
    · exact fun z => nomatch z
    · obtain ⟨_, _, _, _, _, _, _, T3, _⟩ := S3
      exact T3.nd
  · refine merge1 (st := { st with heap := hp2 }) nb S2 l0 Rb2 few still fun hp3 d L' sb3 S3 nd m => ?_
    exact wpAny_pure (wpAny_pure ⟨_, rfl, (fun z => nomatch z), fin hp3 d L' (fun x u e => (sb3.2 x (Nat.ne_of_lt (Heap.lt_size e))).trans (k2 x u e)) S3 nd m⟩)
/-- sorted(x), x a set of texts -/
theorem sorted_txts {QQ : Value → Shared → Prop} (R : SetS w st.heap a L) (noh : Z.handled = none) (few : L.length < 64)
    (fin : ∀ (s1 : Shared) (q : Addr) (out : Array Value) (c : Nat) (ss : List Str), (∀ x u, st.heap.get? x = some u → s1.heap.get? x = some u) → s1.gens = st.gens → s1.os = st.os → st.heap.objs.size ≤ q →
      s1.heap.get? q = some (seqObj "list" out c) → StrsAre out.toList ss → sortedS ss = true → ss.Perm L → QQ (.ref q) s1) :
    wpAny (model P w) Z (call (.builtin "sorted") [.ref a]) QQ EE st := by
  obtain ⟨o, es, ep, t, at0, ex, od, T⟩ := R
  refine Calls.call_function_entry kind_sorted plain_sorted entry_sorted (args_sorted1 _) ?_
  unfold Builtin.«sorted»
  refine wpAny_bind (m := checkCount "sorted" 1 1 _) (wpAny_pure (wpAny_bind (collect_set (A := Z.in1) noh ⟨o, at0, ex.1, od⟩ T.fit T.few T.ris T.led fun s1 vs k1 hz g1 o1 pm => ?_)))
  have vl : vs.length = L.length := by rw [pm.length_eq, List.length_map, Array.length_toList, T.len]
  have vt : vs.map txt0 = vs.map txt0 := rfl
  have st1 : StrsAre vs (vs.map txt0) := strs_all vs fun v hv => by
    obtain ⟨e, he, q⟩ := List.mem_map.mp (pm.mem_iff.mp hv)
    obtain ⟨x, c, h1, _⟩ := T.all e he
    exact ⟨x, c, by rw [← q]; exact h1⟩
  have pL : (vs.map txt0).Perm L := by
    have q := pm.map txt0
    rw [List.map_map] at q
    exact q.trans T.perm
  refine wpAny_bind (wpAny_newList ?_ (by rw [vl, sizeLine_eq]; omega))
  have atL : (s1.heap.push (seqObj "list" vs.toArray 0)).get? s1.heap.objs.size = some (seqObj "list" vs.toArray 0) := Heap.get?_push_size _ rfl
  refine wpAny_bind (wpAny_holding (wpAny_call_entry slot_list_sort ⟨_, atL, rfl⟩ entry_list_sort (list_sort_treeK strKind_oneLt atL st1.keysOf (fun v₁ v₂ rest e => keyKind_strs (by rw [← e]; exact st1)) (by rw [vl]; exact few) fun st' a1 a2 => ⟨_, rfl, ?_⟩) (args_list_sort _)))
  obtain ⟨ss, b1, b2, b3⟩ := sorted_out_str st1 a1 a2
  obtain ⟨c, hc⟩ := sortedHeap_at (vs := vs) (out := ((arrOf st').map (·.2))) atL
  refine wpAny_pure ⟨_, rfl, fin _ s1.heap.objs.size _ c ss (fun x u e => ?_) g1 o1 hz hc b1 b3 (b2.trans pL)⟩
  have q := k1 x u e
  have lt := Heap.lt_size q
  refine (sortedHeap_old (Nat.ne_of_lt lt) (by rw [size_push']; exact Nat.lt_succ_of_lt lt)).trans ?_
  exact Heap.get?_push_of_some _ q
end
end RS8
set_option maxHeartbeats 1000000
set_option autoImplicit false
/-! sorted(set(xs) | set(ys)), len(set(xs) | set(ys)): lists of at most two texts -/
namespace R
open PySem PySem.Spec PyProof.Rows L2 RS8
/-- the texts of two lists, each once, sorted -/
def sortU2 (xs ys : List Str) : List Str := sortS (setL (xs ++ ys))
def tOrSets (K : PySem.W.Frag) (ta tb : TE) (k : List Str → List Str → Hp → Prop) : L2.St → Hp → Prop := fun σ H => ta σ H fun v H1 => ∃ (a : Addr) (xs : List Str), v = .ref a ∧ SqL K H1 a (xs.map V.str) ∧ xs.length ≤ 2 ∧
  tb σ H1 fun u H2 => ∃ (b : Addr) (ys : List Str), u = .ref b ∧ SqL K H2 b (ys.map V.str) ∧ ys.length ≤ 2 ∧ k xs ys H2
section
variable {X : Cx} {a b : Expr} {ta tb : TE} {p2 p3 pos2 pos3 opos : Pos}
/-- set(xs) of a list of texts -/
theorem set_run {e : Expr} {pins : List (Addr × Obj)} {σ : L2.St} {H : Hp} {s : Shared} {Q : Value → Shared → Prop} (hc : X.calm = true) (hg : Gl X "set") (hm : X.mg "set" = none) (he : PE X e ta) (hs : starEach [e] X.env = (false, eval e X.env) :: starEach [] X.env) (I : Inv X pins σ H s) {k : List Str → Hp → Prop}
    (h : ta σ H fun v H1 => ∃ (a : Addr) (xs : List Str), v = .ref a ∧ SqL X.K H1 a (xs.map V.str) ∧ xs.length ≤ 2 ∧ k xs H1)
    (fin : ∀ s1 S xs H1, Inv X pins σ H1 s1 → SetS X.w s1.heap S (setL xs) → xs.length ≤ 2 → FpOk X pins H1 S → k xs H1 → Q (.ref S) s1) : wpAny (model X.prog X.w) X.A (eval (.Call (.Name "set" p2) [e] [] pos2) X.env) Q X.xe s := by
  refine Call_ (ld_blt I hg hm PyProof.Rows.boot_set (PyProof.Rows.callWith_type1 (args_cons (thn (he.run pins s σ H _ I h) fun u s1 ⟨v, H1, I1, r1, q1⟩ => args_nil ?_) hs) hs rfl))
  obtain ⟨l, xs, rfl, hq, h2, q⟩ := q1
  obtain rfl : u = Value.ref l := r1
  obtain ⟨us, rv, pl, hz⟩ := I1.list hq
  have iv : StrsAre us.toArray.toList xs := by simpa using rv.strs
  refine set_txts xs (I1.ok.hd hc) pl.isList iv (by unfold scanBound; omega) fun hp tk hS hk => ?_
  have hn : H1 s1.heap.objs.size = none := I1.hok.fresh (Nat.le_refl _)
  exact fin _ _ xs H1 (I1.kept (t' := tk) fun b o z => hk b o z) hS h2 (I1.fpOk (Nat.le_refl _) hn) q
theorem or_run {pins : List (Addr × Obj)} {σ : L2.St} {H : Hp} {s : Shared} {Q : Value → Shared → Prop} (hc : X.calm = true) (hg : Gl X "set") (hm : X.mg "set" = none) (ha : PE X a ta) (hb : PE X b tb)
    (hs : starEach [a] X.env = (false, eval a X.env) :: starEach [] X.env) (hs2 : starEach [b] X.env = (false, eval b X.env) :: starEach [] X.env) (I : Inv X pins σ H s) {k : List Str → List Str → Hp → Prop}
    (h : tOrSets X.K ta tb k σ H)
    (fin : ∀ s1 S L xs ys H1, Inv X pins σ H1 s1 → SetS X.w s1.heap S L → L.Perm (setL (xs ++ ys)) → xs.length ≤ 2 → ys.length ≤ 2 → k xs ys H1 → Q (.ref S) s1) :
    wpAny (model X.prog X.w) X.A (eval (.BinOp (.Call (.Name "set" p2) [a] [] pos2) .BitOr (.Call (.Name "set" p3) [b] [] pos3) opos) X.env) Q X.xe s := by
  refine wpAny_BinOp ?_
  refine set_run hc hg hm ha hs I h fun s1 S xs H1 I1 S1 l1 fp q1 => ?_
  have hob : ∀ c ∈ [S], ∃ o, s1.heap.get? c = some o ∧ ∀ v, o.data ≠ .cell v := fun c hcm => by
    rw [List.mem_singleton.mp hcm]
    obtain ⟨o, es, ep, t, z1, _, z3, _⟩ := S1
    exact ⟨o, z1, fun v z => by rw [z3] at z; cases z⟩
  have J := I1.pinned (fp := [S]) (fun c hcm => by rw [List.mem_singleton.mp hcm]; exact fp) hob
  refine set_run hc hg hm hb hs2 J q1 fun s2 T ys H2 J2 S2 l2 fp2 q2 => ?_
  have I2 : Inv X pins σ H2 s2 := J2.unpinned
  have kS : ∀ o, s1.heap.get? S = some o → s2.heap.get? S = some o := fun o z => by
    refine (J2.pin (S, o) (List.mem_append_right _ (List.mem_append_right _ ?_))).1
    unfold pinsAt
    exact List.mem_filterMap.mpr ⟨S, List.mem_singleton.mpr rfl, by rw [z]; rfl⟩
  have ne : S ≠ T := by
    obtain ⟨o, es, ep, t, z1, _⟩ := S1
    exact fp2.2.2.2.2.2 (S, o) (List.mem_append_right _ (List.mem_append_right _ (by
      unfold pinsAt
      exact List.mem_filterMap.mpr ⟨S, List.mem_singleton.mpr rfl, by rw [z1]; rfl⟩)))
  have b1 := setL_len (xs := xs)
  have b2 := setL_len (xs := ys)
  refine or_sets ne (S1.at kS) S2 (by omega) fun hp d L' k' S3 nd m => ?_
  refine fin _ _ L' xs ys H2 (I2.call (ch := []) (Un.kept k') (I2.hok.kept k') I2.bare (fun _ z => nomatch z)) S3 ((List.perm_ext_iff_of_nodup nd setL_nd).mpr fun x => ?_) l1 l2 q2
  rw [m, mem_setL, mem_setL, mem_setL, List.mem_append]
def tSortOr (K : PySem.W.Frag) (ta tb : TE) : TE := fun σ H Q => tOrSets K ta tb (fun xs ys H1 => ∀ q, H1 q = none → Q (.ref q) (upd H1 q (.lst ((sortU2 xs ys).map V.str)))) σ H
theorem pe_sortOr {p pos : Pos} (hc : X.calm = true) (hg0 : Gl X "sorted") (hm0 : X.mg "sorted" = none) (hg : Gl X "set") (hm : X.mg "set" = none) (ha : PE X a ta) (hb : PE X b tb)
    (hs : starEach [a] X.env = (false, eval a X.env) :: starEach [] X.env) (hs2 : starEach [b] X.env = (false, eval b X.env) :: starEach [] X.env)
    (hs3 : starEach [.BinOp (.Call (.Name "set" p2) [a] [] pos2) .BitOr (.Call (.Name "set" p3) [b] [] pos3) opos] X.env = (false, eval (.BinOp (.Call (.Name "set" p2) [a] [] pos2) .BitOr (.Call (.Name "set" p3) [b] [] pos3) opos) X.env) :: starEach [] X.env) :
    PE X (.Call (.Name "sorted" p) [.BinOp (.Call (.Name "set" p2) [a] [] pos2) .BitOr (.Call (.Name "set" p3) [b] [] pos3) opos] [] pos) (tSortOr X.K ta tb) := by
  refine ⟨fun pins s0 σ H Q I h => ?_⟩
  refine Call_ (ld_blt I hg0 hm0 PyProof.Rows.boot_sorted (PyProof.Rows.callWith_builtin1 (args_cons (or_run hc hg hm ha hb hs hs2 I h fun s1 S L xs ys H1 J S1 pm l1 l2 q => args_nil ?_) hs3) hs3 rfl))
  have len1 : L.length ≤ 4 := by
    rw [pm.length_eq]
    have := setL_len (xs := xs ++ ys)
    rw [List.length_append] at this
    omega
  refine sorted_txts S1 (J.ok.hd hc) (by omega) fun s' p0 out c2 ss k g o hp0 hp1 hi hs0 pm2 => ?_
  have em : ss = sortU2 xs ys := sortS_is (pm2.trans pm) hs0
  subst em
  have hlen : ((sortU2 xs ys).map V.str).length ≤ sizeLine := by rw [List.length_map, pm2.length_eq, sizeLine_eq]; omega
  have hn : H1 p0 = none := J.hok.fresh hp0
  have J2 : Inv X pins σ (upd H1 p0 (.lst ((sortU2 xs ys).map V.str))) { s1 with heap := s'.heap, gens := s'.gens, drawn := s'.drawn, toks := s'.toks } :=
    Inv.call J (ch := []) (Un.laid k hp0 hn) (J.hok.laid k hp0 ⟨hlen, out.toList, c2, vals_of_strs hi, hp1⟩) (by rw [g]; exact J.bare) (fun _ z => nomatch z)
  have e : s' = { s1 with heap := s'.heap, gens := s'.gens, drawn := s'.drawn, toks := s'.toks } := by
    cases s'; cases s1; cases o; rfl
  rw [e]
  exact ⟨.ref p0, _, J2, rfl, q p0 hn⟩
def tLenOr (K : PySem.W.Frag) (ta tb : TE) : TE := fun σ H Q => tOrSets K ta tb (fun xs ys H1 => Q (.int (setL (xs ++ ys)).length) H1) σ H
theorem pe_lenOr {p pos : Pos} (hc : X.calm = true) (hg0 : Gl X "len") (hm0 : X.mg "len" = none) (hg : Gl X "set") (hm : X.mg "set" = none) (ha : PE X a ta) (hb : PE X b tb)
    (hs : starEach [a] X.env = (false, eval a X.env) :: starEach [] X.env) (hs2 : starEach [b] X.env = (false, eval b X.env) :: starEach [] X.env)
    (hs3 : starEach [.BinOp (.Call (.Name "set" p2) [a] [] pos2) .BitOr (.Call (.Name "set" p3) [b] [] pos3) opos] X.env = (false, eval (.BinOp (.Call (.Name "set" p2) [a] [] pos2) .BitOr (.Call (.Name "set" p3) [b] [] pos3) opos) X.env) :: starEach [] X.env) :
    PE X (.Call (.Name "len" p) [.BinOp (.Call (.Name "set" p2) [a] [] pos2) .BitOr (.Call (.Name "set" p3) [b] [] pos3) opos] [] pos) (tLenOr X.K ta tb) := by
  refine ⟨fun pins s0 σ H Q I h => ?_⟩
  refine Call_ (ld_blt I hg0 hm0 (show bootBuiltins "len" = some (.builtin "len") by decide +kernel) (PyProof.Rows.callWith_builtin1 (args_cons (or_run hc hg hm ha hb hs hs2 I h fun s1 S L xs ys H1 J S1 pm l1 l2 q => args_nil ?_) hs3) hs3 rfl))
  obtain ⟨o, es, ep, t, z1, z2, z3, T⟩ := S1
  have sz := T.len
  rw [pm.length_eq] at sz
  have small : (setL (xs ++ ys)).length ≤ 4 := by
    have := setL_len (xs := xs ++ ys)
    rw [List.length_append] at this
    omega
  refine call_len_set z1 z2 z3 T.fit (by rw [sz]; omega) ?_
  exact ⟨.int (setL (xs ++ ys)).length, H1, J.tok _, ⟨_, by rw [sz]⟩, q⟩
end
section
variable {X : Cx} {env : Env'} {a b : Expr} {p p2 p3 pos pos2 pos3 opos : Pos} {xs ys : List Str}
/-- what lies in the heap as a list of texts -/
theorem or_data {K : PySem.W.Frag} {H : Hp} {v : V} {xs : List Str} (h : Dat.rep K H v xs) : ∃ l, v = .ref l ∧ SqL K H l (xs.map V.str) := by
  obtain ⟨l, vs, h1, h2, h3⟩ := h
  have := h3.strs
  subst this
  exact ⟨l, h1, h2⟩
/-- sorted(set(xs) | set(ys)) -/
theorem en_sortOr (hc : X.calm = true) (hm : X.mg "sorted" = none) (hm2 : X.mg "set" = none) (h1 : EX X a env xs) (h2 : EX X b env ys) (l1 : xs.length ≤ 2) (l2 : ys.length ≤ 2) (hs : starEach [a] X.env = (false, eval a X.env) :: starEach [] X.env := by exact star_plain rfl _ _) (hs2 : starEach [b] X.env = (false, eval b X.env) :: starEach [] X.env := by exact star_plain rfl _ _)
    (hs3 : starEach [.BinOp (.Call (.Name "set" p2) [a] [] pos2) .BitOr (.Call (.Name "set" p3) [b] [] pos3) opos] X.env = (false, eval (.BinOp (.Call (.Name "set" p2) [a] [] pos2) .BitOr (.Call (.Name "set" p3) [b] [] pos3) opos) X.env) :: starEach [] X.env := by exact star_plain rfl _ _) (hg : Gl X "sorted" := by rfl) (hg2 : Gl X "set" := by rfl) :
    EN X (.Call (.Name "sorted" p) [.BinOp (.Call (.Name "set" p2) [a] [] pos2) .BitOr (.Call (.Name "set" p3) [b] [] pos3) opos] [] pos) env (OL.mk (sortU2 xs ys)) := by
  intro O fp σ H S Q q
  refine tE_of fun pins s I => ?_
  refine (pe_sortOr hc hg hm hg2 hm2 (mE X a) (mE X b) hs hs2 hs3).run pins s σ H Q I ?_
  refine h1 O fp σ H S _ fun v H1 e1 r1 => ?_
  obtain ⟨la, rfl, q1⟩ := or_data r1
  refine ⟨la, xs, rfl, wo_le.lst q1, l1, ?_⟩
  refine h2 O fp σ H1 (S.ex e1) _ fun v2 H2 e2 r2 => ?_
  obtain ⟨lb, rfl, q2⟩ := or_data r2
  refine ⟨lb, ys, rfl, wo_le.lst q2, l2, fun u hu => ?_⟩
  have e12 := e1.trans e2
  exact q (.ref u) [u] _ (e12.trans (Ex.new hu)) (fun b hb => by rw [List.mem_singleton.mp hb]; exact e12.free hu) (fun b hb => by rw [List.mem_singleton.mp hb]; exact ⟨_, upd_same⟩) fun Hf le => ⟨u, _, rfl, rfl, upd_same, strs_rep _⟩
/-- len(set(xs) | set(ys)) -/
theorem ex_lenOr (hc : X.calm = true) (hm : X.mg "len" = none) (hm2 : X.mg "set" = none) (h1 : EX X a env xs) (h2 : EX X b env ys) (l1 : xs.length ≤ 2) (l2 : ys.length ≤ 2) (hs : starEach [a] X.env = (false, eval a X.env) :: starEach [] X.env := by exact star_plain rfl _ _) (hs2 : starEach [b] X.env = (false, eval b X.env) :: starEach [] X.env := by exact star_plain rfl _ _)
    (hs3 : starEach [.BinOp (.Call (.Name "set" p2) [a] [] pos2) .BitOr (.Call (.Name "set" p3) [b] [] pos3) opos] X.env = (false, eval (.BinOp (.Call (.Name "set" p2) [a] [] pos2) .BitOr (.Call (.Name "set" p3) [b] [] pos3) opos) X.env) :: starEach [] X.env := by exact star_plain rfl _ _) (hg : Gl X "len" := by rfl) (hg2 : Gl X "set" := by rfl) :
    EX X (.Call (.Name "len" p) [.BinOp (.Call (.Name "set" p2) [a] [] pos2) .BitOr (.Call (.Name "set" p3) [b] [] pos3) opos] [] pos) env ((setL (xs ++ ys)).length : Int) := by
  refine ex_of (pe_lenOr hc hg hm hg2 hm2 (mE X a) (mE X b) hs hs2 hs3) fun O fp σ H S Q q => ?_
  refine h1 O fp σ H S _ fun v H1 e1 r1 => ?_
  obtain ⟨la, rfl, q1⟩ := or_data r1
  refine ⟨la, xs, rfl, wo_le.lst q1, l1, ?_⟩
  refine h2 O fp σ H1 (S.ex e1) _ fun v2 H2 e2 r2 => ?_
  obtain ⟨lb, rfl, q2⟩ := or_data r2
  exact ⟨lb, ys, rfl, wo_le.lst q2, l2, q _ H2 (e1.trans e2) rfl⟩
end
end R
set_option maxHeartbeats 1000000
set_option autoImplicit false
/-! instances made: `self.f = e`, C(..) -/
namespace R
open PySem PySem.Spec PyProof.Rows L2
/-- an instance in the making: n of its fields are set, x is what it becomes -/
structure OI (τ : Type) where
  n : Nat
  x : τ
def ownI {τ : Type} [Dat τ] [Rec τ] (K : PySem.W.Frag) (Hf H : Hp) (v : V) (L : List Addr) (o : OI τ) : Prop :=
  ∃ a C dx vs, v = .ref a ∧ L = [a, dx] ∧ dx ≠ a ∧ IsCls K (Rec.cls o.x) C ∧ H a = some (.ins C dx ((((Rec.flds o.x).take o.n).map Prod.fst).zip vs)) ∧ H dx = some (.own a) ∧ ARep K Hf vs (((Rec.flds o.x).take o.n).map Prod.snd)
instance {τ : Type} [Dat τ] [Rec τ] : Own (OI τ) := ⟨ownI, fun le hc ⟨a, C, dx, vs, h1, h2, h3, h4, h5, h6, h7⟩ =>
  ⟨a, C, dx, vs, h1, h2, h3, h4, by rw [hc a (by rw [h2]; simp)]; exact h5, by rw [hc dx (by rw [h2]; simp)]; exact h6, h7.mono le⟩⟩
theorem putF_end (f : Str) (v : V) : ∀ (fs : List (Str × V)), fs.lookup f = none → putF f v fs = fs ++ [(f, v)]
  | [], _ => rfl
  | (g, x) :: r, h => by
    rw [List.lookup_cons] at h
    cases e : (f == g) with
    | true => rw [e] at h; cases h
    | false =>
      rw [e] at h
      have ne : g ≠ f := fun z => by subst z; simp at e
      show (if g = f then (g, v) :: r else (g, x) :: putF f v r) = _
      rw [if_neg ne, putF_end f v r h]
      rfl
theorem ARep.snoc {α : Type} [Dat α] {K : PySem.W.Frag} {H : Hp} {v : V} {x : α} : ∀ {vs : List V} {xs : List Sl}, ARep K H vs xs → Dat.rep K H v x → ARep K H (vs ++ [v]) (xs ++ [.dat x])
  | [], [], _, h => ⟨h, trivial⟩
  | _ :: _, .dat (i := i) x :: _, h, q => ⟨h.1, ARep.snoc h.2 q⟩
  | [], _ :: _, h, _ => by simp [ARep] at h
  | _ :: _, [], h, _ => by simp [ARep] at h
  | _ :: _, .any :: _, h, _ => by simp [ARep] at h
  | _ :: _, .own (i := _) _ :: _, h, _ => by simp [ARep] at h
section
variable {X : Cx} {W : WX} {env : Env'} {τ β ρ : Type} [Dat τ] [Rec τ] [Dat β] [Res ρ] {po : Po ρ} {x : τ} {y : β} {e : Expr} {rest : List Stmt} {p p1 p2 : Pos} {f nm : Str}
/-- self.f = e, the next field -/
theorem sx_fset {i n : Nat} {v : V} (hi : env[i]? = some (.own (At.mk v (OI.mk n x)))) (he : EX X e env y) (hc : FldOk X.K (Rec.cls x) f) (hf : (Rec.flds x)[n]? = some (f, .dat y)) (hn : ((Rec.flds x).take n).lookup f = none) (hl : n < 100)
    (h : SX X W rest (env.set i (.own (At.mk v (OI.mk (n + 1) x)))) po)
    (hN : X.N[i]? = some nm := by rfl) (hv : Vis X.env.scope nm := by first | exact Or.inl rfl | exact Or.inr (Or.inl rfl) | exact Or.inr (Or.inr rfl)) (hd : (nm == ("__debug__" : Str)) = false := by decide) (hcd : (nm == ("__classdict__" : Str)) = false := by decide)
    (hs : swapsWith e (some (.Attribute (.Name nm p) f p1)) p2.line X.env = pure false := by rfl) : SX X W (.Assign [.Attribute (.Name nm p) f p1] e p2 :: rest) env po := by
  obtain ⟨C, c1, c2, c3⟩ := hc.ex
  refine sx_cons (fun e' => e' = env.set i (.own (At.mk v (OI.mk (n + 1) x)))) (s1_of (ps_fld (pe_var hN hv hd hcd) (mE X e) hs) fun O fp σ H S D G => ?_) fun e' he' => by rw [he']; exact h
  refine he O fp σ H S _ fun u H1 e1 r1 => ?_
  have S1 := S.ex e1
  obtain ⟨w0, w1, ew, a, C', dx, vs, h1, h2, h3, h4, h5, h6, h7⟩ := S1.sl i _ hi
  have ew : w0 = v := ew
  subst ew
  cases c1.same h4
  refine ⟨w0, w1, a, C, dx, _, h1, h5, c2, c3, ?_, ?_⟩
  · have := h7.length
    simp only [List.length_zip, List.length_map, List.length_take]
    omega
  have hk : ∀ b o, H1 b = some o → b ∉ fp i → (upd H1 a (.ins C dx (putF f u ((((Rec.flds x).take n).map Prod.fst).zip vs)))) b = some o := fun b o hb nb => by
    rw [upd_ne (fun z => nb (by rw [h2, z]; simp))]
    exact hb
  have hLL : ∀ b ∈ fp i, b ∈ fp i ∨ H1 b = none := fun b hb => .inl hb
  refine G.nx _ (setF fp i (fp i)) σ _ rfl ((Keep.ex e1).trans (Keep.chg hk hLL)) (S1.chg hi hk hLL (fun b hb => ?_) fun v' hv' => ?_)
  · rw [h2] at hb
    rcases List.mem_cons.mp hb with z | z
    · rw [z, upd_same]; exact ⟨_, rfl⟩
    · rw [List.mem_singleton.mp z, upd_ne h3]; exact ⟨_, h6⟩
  · rw [w1] at hv'
    cases hv'
    have len : ((Rec.flds x).take n).length = vs.length := by
      have := h7.length
      simpa using this.symm
    have tk : (Rec.flds x).take (n + 1) = (Rec.flds x).take n ++ [(f, .dat y)] := by rw [List.take_add_one, hf]; rfl
    have look : ((((Rec.flds x).take n).map Prod.fst).zip vs).lookup f = none := zip_none hn
    have le : Le (wo H1 (UU O fp)) (wo (upd H1 a (.ins C dx (putF f u ((((Rec.flds x).take n).map Prod.fst).zip vs)))) (UU O (setF fp i (fp i)))) := chg_le S1 hk hLL
    have r2 : Dat.rep X.K (wo H1 (UU O fp)) u y := r1
    refine ⟨rfl, a, C, dx, vs ++ [u], h1, h2, h3, h4, ?_, ?_, ?_⟩
    · rw [upd_same, putF_end f u _ look]
      show some (HO.ins C dx _) = some (HO.ins C dx ((((Rec.flds x).take (n + 1)).map Prod.fst).zip (vs ++ [u])))
      rw [tk, List.map_append, List.zip_append (by simpa using len)]
      rfl
    · rw [upd_ne h3]; exact h6
    · show ARep _ _ _ (((Rec.flds x).take (n + 1)).map Prod.snd)
      rw [tk, List.map_append]
      exact (h7.mono le).snoc (Dat.mono le r2)
end
/-- the promise of an __init__: args with the instance ahead, what holds of its slots at its end, what is raised -/
abbrev PhiI := List Sl → (Env' → Prop) → (Exn → Prop) → Prop
def spI (K : PySem.W.Frag) (mg : Str → Option Value) (n : Nat) (Φ : PhiI) : Sp := fun vs H Q E =>
  vs.length = n ∧ ∃ O fp args R Xp, Φ args R Xp ∧ (∀ i a, a ∈ fp i → i < n) ∧ SOk K O fp args (vs.map some) H ∧
    (∀ env' fp' σ' H', R env' → Keep fp H fp' H' → SOk K O fp' env' σ' H' → Q .non H') ∧
    (∀ e fp' cls d H', Xp e → Keep fp H fp' H' → ExAt mg K (wo H' (UU O fp')) e cls d → E cls d H')
section
variable {P : Program} {w : World} {K : PySem.W.Frag} {mg : Str → Option Value} {base : Heap}
theorem fn_okI {x qual : Str} {st : Stmt} {f : Addr} {fd : FuncData} {N ps : List Str} {k n : Nat} {Φ : PhiI} (F : Fun K x qual st f fd) (S : FnScope N ps (defScope st)) (hn : ps.length = n)
    (hb : ∀ (args : Env') (R : Env' → Prop) (Xp : Exn → Prop), Φ args R Xp → args.length = n → ∀ (cdv : Value) (A : Around) (outer : List PySem.Env) (s : Shared) (H : Hp) (E : XK) (W : WX), Room k (A.deeper (envOfC qual (defScope st) s.heap.objs.size f cdv)) → Takes (cxX P w K mg base N qual (defScope st) f cdv A outer s H E) W →
      SX (ρ := Unit) (cxX P w K mg base N qual (defScope st) f cdv A outer s H E) W (defBody st) (args ++ List.replicate (N.length - n) .any) { N := R, R := fun _ _ => False, X := fun e _ => Xp e }) :
    FnOk P w K mg base (L2.CX P w) (k + 1) f fd ps (spI K mg n Φ) := by
  refine F.okX S (fun vs H Q E h => h.1.trans hn.symm) fun cdv A outer s H vs Q E hr h => ?_
  obtain ⟨hl, O, fp, args, R, Xp, ph, hfp, SS, hq, hx⟩ := h
  have hlen : args.length = n := by
    have := SS.len
    rw [List.length_map] at this
    omega
  refine ⟨tSs _ _, mSs _ _, ?_⟩
  have tk : Takes (cxOf (L2.CX P w) P w K mg base N qual (defScope st) f cdv A outer s H E) (fun cls d _ H => E cls d H) := takes_of rfl rfl rfl rfl
  refine hb args R Xp ph hlen cdv A outer s H E (fun cls d _ H => E cls d H) hr tk O fp _ H ?_ _ ?_
  · have := SS.padM (N.length - n)
    rw [show L2.start N vs = vs.map some ++ List.replicate (N.length - n) none from by unfold L2.start; rw [hl]]
    exact this
  · exact ⟨fun e fp' σ' H' h1 kp S' => hq e fp' σ' H' h1 kp S', fun r e fp' σ' v H' h1 kp S' _ => h1.elim, fun x e fp' σ' cls d H' h1 kp S' xa => hx x fp' cls d H' h1 kp xa, fun _ _ _ _ h => h.elim, fun _ _ _ _ h => h.elim⟩
end
/-- the class c can be made by its __init__ -/
structure MkOk (P : Program) (w : World) (K : PySem.W.Frag) (mg : Str → Option Value) (base : Heap) (c : Str) (k : Nat) (ps : List Str) (sp : Sp) : Prop where
  ex : ∃ C f fd, IsCls K c C ∧ mg c = some (.ref C) ∧ Mk K C f ∧ FnOk P w K mg base (L2.CX P w) k f fd ps sp ∧ Binds K fd ps []
/-- the usual promise of an __init__ that raises nothing: of what it is handed xs it makes x -/
def phI {τ : Type} [Dat τ] [Rec τ] (mk : List Sl → τ → Prop) : PhiI := fun args R Xp => ∃ (v : V) (x : τ) (xs : List Sl), args = .own (At.mk v (OI.mk 0 x)) :: xs ∧ mk xs x ∧ ∀ env', env'[0]? = some (.own (At.mk v (OI.mk (Rec.flds x).length x))) → R env'
theorem arep_own {K : PySem.W.Frag} {H : Hp} {β : Type} [Own β] {y : β} : ∀ {vs : List V} {xs : List Sl} {i : Nat}, ARep K H vs xs → xs[i]? = some (.own y) → False
  | [], [], i, _, q => by simp at q
  | _ :: vs, .dat (i := j) z :: xs, 0, h, q => by simp at q
  | _ :: vs, .dat (i := j) z :: xs, i + 1, h, q => arep_own (vs := vs) (xs := xs) (i := i) h.2 (by simpa using q)
  | [], _ :: _, _, h, _ => by simp [ARep] at h
  | _ :: _, [], _, h, _ => by simp [ARep] at h
  | _ :: _, .any :: _, _, h, _ => by simp [ARep] at h
  | _ :: _, .own (i := _) _ :: _, _, h, _ => by simp [ARep] at h
theorem SOk.made {K : PySem.W.Frag} {U : Addr → Prop} {H : Hp} {vs : List V} {xs : List Sl} {τ : Type} [Dat τ] [Rec τ] {x : τ} {a dx C : Addr} (bnd : ∀ b, U b → ∃ o, H b = some o) (h : ARep K (wo H U) vs xs) (ha : H a = none) (hdx : H dx = none) (ne : dx ≠ a) (c : IsCls K (Rec.cls x) C) :
    SOk K U (fun i => if i = 0 then [a, dx] else []) (.own (At.mk (.ref a) (OI.mk 0 x)) :: xs) ((V.ref a :: vs).map some) (upd (upd H dx (.own a)) a (.ins C dx [])) := by
  have na : ¬ U a := fun z => by obtain ⟨o, q⟩ := bnd a z; rw [ha] at q; cases q
  have nd : ¬ U dx := fun z => by obtain ⟨o, q⟩ := bnd dx z; rw [hdx] at q; cases q
  have e1 : Ex H (upd (upd H dx (.own a)) a (.ins C dx [])) := (Ex.new hdx).trans (Ex.new (by rw [upd_ne (fun z => ne z.symm)]; exact ha))
  have inn : ∀ i b, b ∈ (fun i => if i = 0 then [a, dx] else ([] : List Addr)) i → i = 0 ∧ (b = a ∨ b = dx) := fun i b z => by
    by_cases q : i = 0
    · simp only [if_pos q] at z
      exact ⟨q, by simpa using z⟩
    · simp only [if_neg q] at z
      cases z
  exact {
    len := by simp [h.length]
    bnd := fun b z => by obtain ⟨o, q⟩ := bnd b z; exact ⟨o, e1 b o q⟩
    fpO := fun i b z y => by
      rcases (inn i b z).2 with q | q
      · rw [q] at y; exact na y
      · rw [q] at y; exact nd y
    sep := fun i j b z y => (inn i b z).1.trans (inn j b y).1.symm
    dom := fun i b z => by
      rcases (inn i b z).2 with q | q
      · rw [q, upd_same]; exact ⟨_, rfl⟩
      · rw [q, upd_ne ne, upd_same]; exact ⟨_, rfl⟩
    sl := fun i s q => by
      have le : Le (wo H U) (wo (upd (upd H dx (.own a)) a (.ins C dx [])) (UU U (fun i => if i = 0 then [a, dx] else []))) := by
        refine Ex.le fun b o z => ?_
        obtain ⟨z1, z2⟩ := wo_some z
        rw [wo_out]
        · exact e1 b o z2
        · rintro (y | ⟨i, y⟩)
          · exact z1 y
          · rcases (inn i b y).2 with y | y
            · rw [y, ha] at z2; cases z2
            · rw [y, hdx] at z2; cases z2
      cases i with
      | zero =>
        have q : Sl.own (At.mk (V.ref a) (OI.mk 0 x)) = s := by simpa using q
        subst q
        refine ⟨.ref a, rfl, rfl, a, C, dx, [], rfl, rfl, ne, c, ?_, ?_, ?_⟩
        · rw [upd_same]
          show _ = some (HO.ins C dx ((((Rec.flds x).take 0).map Prod.fst).zip []))
          rw [List.take_zero]
          rfl
        · rw [upd_ne ne, upd_same]
        · show ARep _ _ _ (((Rec.flds x).take 0).map Prod.snd)
          rw [List.take_zero]
          exact trivial
      | succ i =>
        have q : xs[i]? = some s := by simpa using q
        have S0 := ARep.sok bnd h
        have := S0.sl i s q
        rw [uu_no] at this
        cases s with
        | any => exact trivial
        | dat y =>
          obtain ⟨v, h1, h2⟩ := this
          exact ⟨v, by simpa using h1, Dat.mono le h2⟩
        | own y => exact (arep_own h q).elim }
/-- what __init__ made of it -/
theorem made_rep {K : PySem.W.Frag} {U : Addr → Prop} {H H' : Hp} {τ : Type} [Dat τ] [Rec τ] {x : τ} {v : V} {fp' : Nat → List Addr} {env' : Env'} {σ' : L2.St} (S : SOk K U fp' env' σ' H') {v0 : V} (h : env'[0]? = some (.own (At.mk v0 (OI.mk (Rec.flds x).length x)))) : ∃ v, v = v0 ∧ Dat.rep K (wo H' U) v x := by
  obtain ⟨w0, w1, ew, a, C, dx, vs, h1, h2, h3, h4, h5, h6, h7⟩ := S.sl 0 _ h
  have ew : w0 = v0 := ew
  refine ⟨v0, rfl, (Rec.is _ _ _ _).mpr ⟨a, C, dx, vs, ew ▸ h1, h4, ?_, ?_⟩⟩
  · have na : ¬ U a := S.fpO 0 a (by rw [h2]; simp)
    have e : (Rec.flds x).take (Rec.flds x).length = Rec.flds x := List.take_length
    have h5 : H' a = some (.ins C dx ((((Rec.flds x).take (Rec.flds x).length).map Prod.fst).zip vs)) := h5
    rw [e] at h5
    exact .inl (by rw [wo_out na]; exact h5)
  · have e : (Rec.flds x).take (Rec.flds x).length = Rec.flds x := List.take_length
    have h7 : ARep K _ vs (((Rec.flds x).take (Rec.flds x).length).map Prod.snd) := h7
    rw [e] at h7
    exact h7.mono (Ex.le (wo_mono fun b z => .inl z))
section
variable {X : Cx} {W : WX} {env : Env'} {τ : Type} [Dat τ] [Rec τ] {x : τ} {e : Expr} {es : List Expr} {pos p : Pos} {c : Str} {k n : Nat} {ps : List Str} {Φ : PhiI} {xs : List Sl}
theorem make_run {G : Prop} {E : XK} {O : Addr → Prop} {fp : Nat → List Addr} {σ : L2.St} {H : Hp} {Q : VK} {vs : List V} {H1 : Hp} {C : Addr} {Xp : Exn → Prop} (S : SOk X.K O fp env σ H) (e1 : Ex H H1) (r1 : ARep X.K (wo H1 (UU O fp)) vs xs) (c1 : IsCls X.K (Rec.cls x) C) (hn : xs.length + 1 = n)
    (hΦ : ∀ v, ∃ R, Φ (.own (At.mk v (OI.mk 0 x)) :: xs) R Xp ∧ ∀ env', R env' → env'[0]? = some (.own (At.mk v (OI.mk (Rec.flds x).length x))) ∧ G)
    (q : G → ∀ v H', Ex H H' → Dat.rep X.K (wo H' (UU O fp)) v x → Q v H') (qx : ∀ y cls d H', Xp y → Ex H H' → ExAt X.mg X.K (wo H' (UU O fp)) y cls d → E cls d H')
    (a dx : Addr) (ha : H1 a = none) (hdx : H1 dx = none) (ne : dx ≠ a) : spI X.K X.mg n Φ (.ref a :: (vs ++ [])) (upd (upd H1 dx (.own a)) a (.ins C dx [])) (fun v H2 => v = .non ∧ Q (.ref a) H2) E := by
  obtain ⟨R, f1, f2⟩ := hΦ (.ref a)
  have S1 := SOk.made (x := x) (S.ex e1).bndU r1 ha hdx ne c1
  rw [List.append_nil]
  have inn : ∀ b, (∃ i, b ∈ (fun i => if i = 0 then [a, dx] else ([] : List Addr)) i) → b = a ∨ b = dx := fun b ⟨i, z⟩ => by
    by_cases w : i = 0
    · simp only [if_pos w] at z
      simpa using z
    · simp only [if_neg w] at z
      cases z
  have keep : ∀ fp' H', Keep (fun i => if i = 0 then [a, dx] else ([] : List Addr)) (upd (upd H1 dx (.own a)) a (.ins C dx [])) fp' H' → Ex H H' := fun fp' H' kp b o z => by
    have z1 := e1 b o z
    have na : b ≠ a := fun w => by rw [w, ha] at z1; cases z1
    have nd : b ≠ dx := fun w => by rw [w, hdx] at z1; cases z1
    refine kp.1 b o (fun w => ?_) (by rw [upd_ne na, upd_ne nd]; exact z1)
    rcases inn b w with w | w
    · exact na w
    · exact nd w
  refine ⟨?_, UU O fp, _, _, R, Xp, f1, fun i b z => ?_, S1, fun env' fp' σ' H' hR kp S' => ⟨rfl, ?_⟩, fun y fp' cls d H' hy kp xa => ?_⟩
  · rw [List.length_cons, r1.length, hn]
  · by_cases w : i = 0
    · omega
    · simp only [if_neg w] at z
      cases z
  · obtain ⟨v, ev, rp⟩ := made_rep (H := H) (v := .ref a) S' (f2 env' hR).1
    rw [ev] at rp
    exact q (f2 env' hR).2 _ H' (keep fp' H' kp) rp
  · refine qx y cls d H' hy (keep fp' H' kp) ?_
    have le : Ex (wo H' (UU (UU O fp) fp')) (wo H' (UU O fp)) := wo_mono fun a z => .inl z
    cases y with
    | one c => exact xa
    | clash ns ws =>
      obtain ⟨m, dx, v1, v2, a, b, c, d⟩ := xa
      exact ⟨m, dx, v1, v2, a, le _ _ b, Dat.mono le.le c, Dat.mono le.le d⟩
    | stuck y ns ws =>
      obtain ⟨m, dx, v0, v1, v2, a, b, b', c, d⟩ := xa
      exact ⟨m, dx, v0, v1, v2, a, le _ _ b, Dat.mono le.le b', Dat.mono le.le c, Dat.mono le.le d⟩
/-- C(e, ..), where nothing is raised -/
theorem ex_make (d : MkOk X.prog X.w X.K X.mg X.base c k ps (spI X.K X.mg n Φ)) (hr : Room (k + 1) X.A) (ha : EA X (e :: es) env xs) (hn : xs.length + 1 = n) (hx : Rec.cls x = c)
    (hΦ : ∀ v, Φ (.own (At.mk v (OI.mk 0 x)) :: xs) (fun env' => env'[0]? = some (.own (At.mk v (OI.mk (Rec.flds x).length x)))) (fun _ => False))
    (hg : Gl X c := by rfl) (hdb : (c == ("__debug__" : Str)) = false := by decide) (he : starEach (e :: es) X.env = (false, eval e X.env) :: starEach es X.env := by exact star_plain rfl _ _) (hpl : (backTo pos (starEach es X.env)).any (·.1) = false := by exact star_pl rfl) : EX X (.Call (.Name c p) (e :: es) [] pos) env x := by
  obtain ⟨C, f, fd, c1, c2, M, F, hb⟩ := d.ex
  refine ex_of (pe_make (E := E0) M F hr hg c2 hb .nil (fun _ _ _ _ _ _ _ z => by obtain ⟨_, _, _, _, _, _, _, _, _, _, _, _, z⟩ := z; exact z.elim) (mA X (e :: es)) hdb he hpl) fun O fp σ H S Q q => ha O fp σ H S _ fun vs H1 e1 r1 a dx h1 h2 h3 => ?_
  exact make_run (G := True) (Xp := fun _ => False) S e1 r1 (hx ▸ c1) hn (fun v => ⟨_, hΦ v, fun _ h => ⟨h, trivial⟩⟩) (fun _ => q) (fun _ _ _ _ h => h.elim) a dx h1 h2 h3
end
end R
set_option maxHeartbeats 1000000
set_option autoImplicit false
/-! methods of instances that are read; makings that may be refused -/
namespace R
open PySem PySem.Spec PyProof.Rows L2
section
variable {X : Cx} {W : WX} {env : Env'} {τ : Type} [Dat τ] [Rec τ] {x : τ} {o e : Expr} {es : List Expr} {pos apos p : Pos} {m c : Str} {k n : Nat} {ps : List Str} {xs : List Sl}
theorem no_exc {sp : Sp} {σ : L2.St} : PassesAt (L2.CX X.prog X.w) X σ E0 := fun _ _ _ _ _ _ z => by obtain ⟨_, _, _, _, _, _, _, _, _, _, _, _, z⟩ := z; exact z.elim
theorem self_rd {K : PySem.W.Frag} {H : Hp} {U : Addr → Prop} {v : V} {C : Addr} (r1 : Dat.rep K (wo H U) v x) (c1 : IsCls K (Rec.cls x) C) (hn : (Rec.flds x).lookup m = none) : ∃ a dx fs, v = .ref a ∧ Rd H a (.ins C dx fs) ∧ fs.lookup m = none := by
  obtain ⟨a, C', dx, vs, rfl, g1, g2, g3⟩ := (Rec.is _ _ _ _).mp r1
  cases c1.same g1
  exact ⟨a, dx, _, rfl, wo_le a _ trivial g2, zip_none hn⟩
/-- o.m(e, ..), data -/
theorem ex_mth {ρ : Type} [Dat ρ] {Φ : Phi ρ} {r : ρ} {pl : Sem Bool} (h : EX X o env x) (ha : EA X (e :: es) env xs) (d : MthOk X.prog X.w X.K X.mg X.base (Rec.cls x) m k ps (spP X.K X.mg n Φ)) (hr : Room k X.A) (hn : (Rec.flds x).lookup m = none) (hl : xs.length + 1 = n) (hΦ : Φ (.dat x :: xs) (fun r' => r' = r) (fun _ => False))
    (hst : starEach (e :: es) X.env = (false, eval e X.env) :: starEach es X.env := by exact star_plain rfl _ _) (hpl : (backTo pos (starEach es X.env)).any (·.1) = false := by exact star_pl rfl)
    (ht : eval (.Call (.Attribute o m apos) (e :: es) [] pos) X.env = (do
      let ov ← eval o X.env
      standAt apos.atName
      let (f, first) ← holding [ov] (getMethod ov m pl)
      callWith pos f first (backTo pos (starEach (e :: es) X.env)) (backToKw pos (keywordEach [] X.env))) := by rfl) : EX X (.Call (.Attribute o m apos) (e :: es) [] pos) env r := by
  obtain ⟨C, g, fd, c1, c2, c3, F, hb⟩ := d.ex
  refine ex_of (pe_mthR (E := fun _ => E0) (mE X o) c2 c3 F hr hb (fun σ => no_exc (sp := spP X.K X.mg n Φ)) (mA X (e :: es)) hst hpl ht) fun O fp σ H S Q q => h O fp σ H S _ fun v H1 e1 r1 => ?_
  obtain ⟨a, dx, fs, rfl, z1, z2⟩ := self_rd r1 c1 hn
  refine ⟨a, dx, fs, rfl, z1, z2, ha O fp σ H1 (S.ex e1) _ fun vs H2 e2 r2 => ?_⟩
  have ar : ARep X.K (wo H2 (UU O fp)) (.ref a :: vs) (.dat x :: xs) := ⟨Dat.mono (wo_ex e2).le r1, r2⟩
  exact ⟨by rw [ar.length]; exact hl, UU O fp, _, _, _, hΦ, ARep.sok ((S.ex e1).ex e2).bndU ar, fun r' v H' hr' e3 rp => by subst hr'; exact q v H' ((e1.trans e2).trans e3) rp, fun _ _ _ _ h => h.elim⟩
/-- o.m(), something new -/
theorem en_mth0 {ω : Type} [Own ω] {Φ : Phi ω} {r : ω} {pl : Sem Bool} (h : EX X o env x) (d : MthOk X.prog X.w X.K X.mg X.base (Rec.cls x) m k ps (spP X.K X.mg 1 Φ)) (hr : Room k X.A) (hn : (Rec.flds x).lookup m = none) (hΦ : Φ [.dat x] (fun r' => r' = r) (fun _ => False))
    (ht : eval (.Call (.Attribute o m apos) [] [] pos) X.env = (do
      let ov ← eval o X.env
      standAt apos.atName
      let (f, first) ← holding [ov] (getMethod ov m pl)
      callWith pos f first (backTo pos (starEach [] X.env)) (backToKw pos (keywordEach [] X.env))) := by rfl) : EN X (.Call (.Attribute o m apos) [] [] pos) env r := by
  obtain ⟨C, g, fd, c1, c2, c3, F, hb⟩ := d.ex
  intro O fp σ H S Q q
  refine tE_of fun pins s I => (pe_mthR0 (E := fun _ => E0) (mE X o) c2 c3 F hr hb (fun σ => no_exc (sp := spP X.K X.mg 1 Φ)) ht).run pins s σ H Q I (h O fp σ H S _ fun v H1 e1 r1 => ?_)
  obtain ⟨a, dx, fs, rfl, z1, z2⟩ := self_rd r1 c1 hn
  have ar : ARep X.K (wo H1 (UU O fp)) [.ref a] [.dat x] := ⟨r1, trivial⟩
  refine ⟨a, dx, fs, rfl, z1, z2, rfl, UU O fp, _, _, _, hΦ, ARep.sok (S.ex e1).bndU ar, fun r' v H' hr' e2 ro => ?_, fun _ _ _ _ h => h.elim⟩
  subst hr'
  obtain ⟨L, g1, g2, g3⟩ := ro
  exact q v L H' (e1.trans e2) (fun a ha => e1.free (g1 a ha)) g2 fun Hf le => Own.frame le (fun _ _ => rfl) g3
/-- o.m(e, ..), something new -/
theorem en_mth {ω : Type} [Own ω] {Φ : Phi ω} {r : ω} {pl : Sem Bool} (h : EX X o env x) (ha : EA X (e :: es) env xs) (d : MthOk X.prog X.w X.K X.mg X.base (Rec.cls x) m k ps (spP X.K X.mg n Φ)) (hr : Room k X.A) (hn : (Rec.flds x).lookup m = none) (hl : xs.length + 1 = n) (hΦ : Φ (.dat x :: xs) (fun r' => r' = r) (fun _ => False))
    (hst : starEach (e :: es) X.env = (false, eval e X.env) :: starEach es X.env := by exact star_plain rfl _ _) (hpl : (backTo pos (starEach es X.env)).any (·.1) = false := by exact star_pl rfl)
    (ht : eval (.Call (.Attribute o m apos) (e :: es) [] pos) X.env = (do
      let ov ← eval o X.env
      standAt apos.atName
      let (f, first) ← holding [ov] (getMethod ov m pl)
      callWith pos f first (backTo pos (starEach (e :: es) X.env)) (backToKw pos (keywordEach [] X.env))) := by rfl) : EN X (.Call (.Attribute o m apos) (e :: es) [] pos) env r := by
  obtain ⟨C, g, fd, c1, c2, c3, F, hb⟩ := d.ex
  intro O fp σ H S Q q
  refine tE_of fun pins s I => (pe_mthR (E := fun _ => E0) (mE X o) c2 c3 F hr hb (fun σ => no_exc (sp := spP X.K X.mg n Φ)) (mA X (e :: es)) hst hpl ht).run pins s σ H Q I (h O fp σ H S _ fun v H1 e1 r1 => ?_)
  obtain ⟨a, dx, fs, rfl, z1, z2⟩ := self_rd r1 c1 hn
  refine ⟨a, dx, fs, rfl, z1, z2, ha O fp σ H1 (S.ex e1) _ fun vs H2 e2 r2 => ?_⟩
  have ar : ARep X.K (wo H2 (UU O fp)) (.ref a :: vs) (.dat x :: xs) := ⟨Dat.mono (wo_ex e2).le r1, r2⟩
  refine ⟨by rw [ar.length]; exact hl, UU O fp, _, _, _, hΦ, ARep.sok ((S.ex e1).ex e2).bndU ar, fun r' v H' hr' e3 ro => ?_, fun _ _ _ _ h => h.elim⟩
  subst hr'
  obtain ⟨L, g1, g2, g3⟩ := ro
  exact q v L H' ((e1.trans e2).trans e3) (fun a ha => (e1.trans e2).free (g1 a ha)) g2 fun Hf le => Own.frame le (fun _ _ => rfl) g3
/-- o.m(e, ..), that may be refused -/
theorem exx_mth {ρ : Type} [Dat ρ] {Φ : Phi ρ} {Rp : ρ → Prop} {Xp : Exn → Prop} {pl : Sem Bool} (tk : Takes X W) (h : EX X o env x) (ha : EA X (e :: es) env xs) (d : MthOk X.prog X.w X.K X.mg X.base (Rec.cls x) m k ps (spP X.K X.mg n Φ)) (hr : Room k X.A) (hn : (Rec.flds x).lookup m = none) (hl : xs.length + 1 = n) (hΦ : Φ (.dat x :: xs) Rp Xp)
    (hst : starEach (e :: es) X.env = (false, eval e X.env) :: starEach es X.env := by exact star_plain rfl _ _) (hpl : (backTo pos (starEach es X.env)).any (·.1) = false := by exact star_pl rfl)
    (ht : eval (.Call (.Attribute o m apos) (e :: es) [] pos) X.env = (do
      let ov ← eval o X.env
      standAt apos.atName
      let (f, first) ← holding [ov] (getMethod ov m pl)
      callWith pos f first (backTo pos (starEach (e :: es) X.env)) (backToKw pos (keywordEach [] X.env))) := by rfl) : EXX X W (.Call (.Attribute o m apos) (e :: es) [] pos) env Rp Xp := by
  obtain ⟨C, g, fd, c1, c2, c3, F, hb⟩ := d.ex
  intro O fp σ H S Q q qx
  refine tE_of fun pins s I => (pe_mthR (E := fun σ => WE W σ) (mE X o) c2 c3 F hr hb (fun σ => passAt tk σ) (mA X (e :: es)) hst hpl ht).run pins s σ H Q I (h O fp σ H S _ fun v H1 e1 r1 => ?_)
  obtain ⟨a, dx, fs, rfl, z1, z2⟩ := self_rd r1 c1 hn
  refine ⟨a, dx, fs, rfl, z1, z2, ha O fp σ H1 (S.ex e1) _ fun vs H2 e2 r2 => ?_⟩
  have ar : ARep X.K (wo H2 (UU O fp)) (.ref a :: vs) (.dat x :: xs) := ⟨Dat.mono (wo_ex e2).le r1, r2⟩
  exact ⟨by rw [ar.length]; exact hl, UU O fp, _, _, _, hΦ, ARep.sok ((S.ex e1).ex e2).bndU ar, fun r' v H' hr' e3 rp => q r' v H' hr' ((e1.trans e2).trans e3) rp, fun y cls d H' hy e3 xa => qx y cls d H' hy ((e1.trans e2).trans e3) xa⟩
theorem run_new {CX : CXT} {f C : Addr} {fd : FuncData} {sp : Sp} {E : L2.St → XK} {pins : List (Addr × Obj)} {σ : L2.St} {H : Hp} {s : Shared} {Q : VK} {us : List Value} {vs : List V} (M : Mk X.K C f) (F : FnOk X.prog X.w X.K X.mg X.base CX k f fd ps sp) (hr : Room (k + 1) X.A) (hb : Binds X.K fd ps [])
    (hx : ∀ σ, PassesAt CX X σ (E σ)) (I : Inv X pins σ H s) (r : Vals vs us)
    (h : ∀ a dx, H a = none → H dx = none → dx ≠ a → sp (.ref a :: (vs ++ [])) (upd (upd H dx (.own a)) a (.ins C dx [])) (fun v H2 => v = .non ∧ Q (.ref a) H2) (E σ)) :
    wpAny (model X.prog X.w) X.A (call (.ref C) us) (EP X pins σ Q) X.xe s := by
  have q0 := h (s.heap.objs.size + 1) s.heap.objs.size (I.hok.fresh (Nat.le_succ _)) (I.hok.fresh (Nat.le_refl _)) (Nat.ne_of_lt (Nat.lt_succ_self _))
  rw [List.append_nil] at q0
  have J := Inv.made (C := C) I
  have rs : Vals (V.ref (s.heap.objs.size + 1) :: vs) (Value.ref (s.heap.objs.size + 1) :: us) := .cons rfl r
  have ln : (Value.ref (s.heap.objs.size + 1) :: us ++ []).length = ps.length := by
    rw [List.append_nil, ← rs.length]
    exact F.len _ _ _ _ q0
  have bt := hb _ (Value.ref (s.heap.objs.size + 1) :: us) J.kIn ln
  rw [List.append_nil] at bt
  refine wpAny_call (make_map (f := f) I.kIn M.makes M.init (beq_iff_eq.mp M.fn) (codeAny_mono (F.run _ X.stack _ _ ⟨_, []⟩ _ _ _ (E σ) (hr.make C us []) (J.env0.make C us []) bt rs q0) fun t s' z => ?_))
  cases t with
  | error y => exact hx σ pins _ _ y s' J z
  | ok fl =>
    cases fl with
    | ret u =>
      obtain ⟨v, H', I3, rv, ev, q3⟩ := J.after z
      subst ev
      exact ⟨rv, ⟨V.ref (s.heap.objs.size + 1), H', I3, rfl, q3⟩⟩
    | next => exact z.elim
    | brk => exact z.elim
    | cont => exact z.elim
def tNewS (C : Addr) (sp : Sp) (E : L2.St → XK) (t : TA) : TE := fun σ H Q => t σ H fun vs H1 => ∀ a dx, H1 a = none → H1 dx = none → dx ≠ a → sp (.ref a :: (vs ++ [])) (upd (upd H1 dx (.own a)) a (.ins C dx [])) (fun v H2 => v = .non ∧ Q (.ref a) H2) (E σ)
theorem pe_newS {CX : CXT} {f C : Addr} {fd : FuncData} {sp : Sp} {E : L2.St → XK} {t : TA} (M : Mk X.K C f) (F : FnOk X.prog X.w X.K X.mg X.base CX k f fd ps sp) (hr : Room (k + 1) X.A) (hg : Gl X c) (hm : X.mg c = some (.ref C)) (hb : Binds X.K fd ps []) (hx : ∀ σ, PassesAt CX X σ (E σ))
    (ha : PA X (e :: es) t) (hdb : (c == ("__debug__" : Str)) = false) (he : starEach (e :: es) X.env = (false, eval e X.env) :: starEach es X.env) (hpl : (backTo pos (starEach es X.env)).any (·.1) = false) : PE X (.Call (.Name c p) (e :: es) [] pos) (tNewS C sp E t) := by
  constructor
  intro pins s σ H Q I h
  refine wpAny_Call_Name_kw (ld_glob I hg hm (PySem.W.callWith_K (h₀ := X.base) I.ok.mod.kin M.kp (thn (ha.run pos pins s σ H _ I h) fun us s1 ⟨vs, H1, I1, r, q⟩ => ⟨I1.kIn, ?_⟩) he hpl) hdb)
  exact run_new M F hr hb hx I1 r q
/-- C(e, ..), that may be refused -/
theorem exx_make {Φ : PhiI} {Rp : τ → Prop} {Xp : Exn → Prop} (tk : Takes X W) (d : MkOk X.prog X.w X.K X.mg X.base c k ps (spI X.K X.mg n Φ)) (hr : Room (k + 1) X.A) (ha : EA X (e :: es) env xs) (hn : xs.length + 1 = n) (hx : Rec.cls x = c)
    (hΦ : ∀ v, ∃ R, Φ (.own (At.mk v (OI.mk 0 x)) :: xs) R Xp ∧ ∀ env', R env' → env'[0]? = some (.own (At.mk v (OI.mk (Rec.flds x).length x))) ∧ Rp x)
    (hg : Gl X c := by rfl) (hdb : (c == ("__debug__" : Str)) = false := by decide) (he : starEach (e :: es) X.env = (false, eval e X.env) :: starEach es X.env := by exact star_plain rfl _ _) (hpl : (backTo pos (starEach es X.env)).any (·.1) = false := by exact star_pl rfl) : EXX X W (.Call (.Name c p) (e :: es) [] pos) env Rp Xp := by
  obtain ⟨C, f, fd, c1, c2, M, F, hb⟩ := d.ex
  intro O fp σ H S Q q qx
  refine tE_of fun pins s I => (pe_newS (E := fun σ => WE W σ) M F hr hg c2 hb (fun σ => passAt tk σ) (mA X (e :: es)) hdb he hpl).run pins s σ H Q I (ha O fp σ H S _ fun vs H1 e1 r1 a dx h1 h2 h3 => ?_)
  exact make_run S e1 r1 (hx ▸ c1) hn hΦ (fun g v H' e2 rp => q x v H' g e2 rp) qx a dx h1 h2 h3
end
end R
set_option maxHeartbeats 1000000
set_option autoImplicit false
/-! terms and wishes as data; isinstance of an instance -/
namespace R
open PySem PySem.Spec PyProof.Rows L2
/-- what isinstance answers of an instance of class c, asked for class d -/
structure IsiOk (K : PySem.W.Frag) (mg : Str → Option Value) (c d : Str) (b : Bool) : Prop where
  ex : ∃ C D, IsCls K c C ∧ mg d = some (.ref D) ∧ Cls K C ∧ PySem.W.findIn K (.ref C) "__class__" = some (some (.builtin "object.__class__")) ∧ PySem.W.specialIn K (.builtin "object.__class__") "__get__" = some (some (.builtin "getset_descriptor.__get__")) ∧ PySem.W.takesIn K (.builtin "object.__class__") = some true ∧
    PySem.W.mroIn K C (.type "object") = some true ∧ PySem.W.kitOne K (.ref C) (.ref D) = some b
def rIsR (K : PySem.W.Frag) : List V → Hp → VK → Prop := fun xs H Q => ∃ (a C dx D : Addr) (fs : List (Str × V)) (b : Bool), xs = [.ref a, .ref D] ∧ Rd H a (.ins C dx fs) ∧ Cls K C ∧ PySem.W.findIn K (.ref C) "__class__" = some (some (.builtin "object.__class__")) ∧ PySem.W.specialIn K (.builtin "object.__class__") "__get__" = some (some (.builtin "getset_descriptor.__get__")) ∧ PySem.W.takesIn K (.builtin "object.__class__") = some true ∧
    PySem.W.mroIn K C (.type "object") = some true ∧ PySem.W.kitOne K (.ref C) (.ref D) = some b ∧ Q (.bl b) H
theorem call_isR {X : Cx} : CallR X (.builtin "isinstance") (rIsR X.K) := by
  intro pins s σ H xs us Q I r h
  obtain ⟨a, C, dx, D, fs, b, rfl, ea, cl, ha, hn, htk, hm, e, q⟩ := h
  obtain ⟨u1, u2, rfl, r1, r2⟩ := vals2 r
  cases (show u1 = Value.ref a from r1)
  cases (show u2 = Value.ref D from r2)
  obtain ⟨mA, O, _⟩ := insRd I.hok ea
  obtain ⟨od, J, _⟩ := O.look
  exact PySem.W.kia_one (PySem.W.kitx_own (cl.get _) cl.hd ha hn htk hm) I.kIn J e (fun z => nomatch z) fun tk => ⟨.bl b, H, I.tok tk, rfl, q⟩
section
variable {X : Cx} {env : Env'} {τ : Type} [Dat τ] [Rec τ] {x : τ} {a : Expr} {p pos pc : Pos} {d : Str} {b : Bool}
theorem ex_isR (hi : X.mg "isinstance" = none) (h : EX X a env x) (c : IsiOk X.K X.mg (Rec.cls x) d b) (hg : Gl X "isinstance" := by rfl) (hgT : Gl X d := by rfl) (hd : (d == ("__debug__" : Str)) = false := by decide)
    (he : starEach [a, .Name d pc] X.env = (false, eval a X.env) :: starEach [.Name d pc] X.env := by exact star_plain rfl _ _) (he2 : starEach [.Name d pc] X.env = (false, eval (.Name d pc) X.env) :: starEach [] X.env := by exact star_plain rfl _ _) (hpl : (backTo pos (starEach [.Name d pc] X.env)).any (·.1) = false := by exact star_pl rfl) : EX X (.Call (.Name "isinstance" p) [a, .Name d pc] [] pos) env b := by
  obtain ⟨C, D, c1, c2, c3, c4, c5, c6, c7, c8⟩ := c.ex
  refine ex_of (pe_callB call_isR hg hi (by decide +kernel) (pa_cons (mE X a) (pa_cons (pe_glob (v := .ref D) hgT c2 rfl hd) pa_nil he2) he) (by decide) (by decide) he hpl) fun O fp σ H S Q q => h O fp σ H S _ fun v H1 e1 r1 => ?_
  obtain ⟨ad, C', dx, vs, rfl, g1, g2, g3⟩ := (Rec.is _ _ _ _).mp r1
  cases c1.same g1
  exact ⟨ad, C, dx, D, _, b, rfl, wo_le ad _ trivial g2, c3, c4, c5, c6, c7, c8, q _ H1 e1 rfl⟩
end
/-- a term -/
inductive Trm
  | number (number : Rat)
  | edge (word name : Str)
  | times (number : Rat) (inner : Trm)
  | plus (one other : Trm)
  | minus (one other : Trm)
def Trm.depth : Trm → Nat
  | .number _ => 0
  | .edge _ _ => 0
  | .times _ t => t.depth + 1
  | .plus s t => max s.depth t.depth + 1
  | .minus s t => max s.depth t.depth + 1
def Trm.cls : Trm → Str
  | .number _ => "Number"
  | .edge _ _ => "Edge"
  | .times _ _ => "Times"
  | .plus _ _ => "Plus"
  | .minus _ _ => "Minus"
def rep2 (K : PySem.W.Frag) (H : Hp) (v : V) (c f g : Str) (p q : V → Prop) : Prop := ∃ a C dx v1 v2, v = .ref a ∧ IsCls K c C ∧ Rd H a (.ins C dx [(f, v1), (g, v2)]) ∧ p v1 ∧ q v2
theorem rep2.imp {K : PySem.W.Frag} {H H' : Hp} {v : V} {c f g : Str} {p q p' q' : V → Prop} (e : Le H H') (h1 : ∀ v, p v → p' v) (h2 : ∀ v, q v → q' v) (h : rep2 K H v c f g p q) : rep2 K H' v c f g p' q' :=
  let ⟨a, C, dx, v1, v2, z1, z2, z3, z4, z5⟩ := h; ⟨a, C, dx, v1, v2, z1, z2, e a _ trivial z3, h1 _ z4, h2 _ z5⟩
def Trm.rep (K : PySem.W.Frag) (H : Hp) : Trm → V → Prop
  | .number n, v => recD K H v "Number" [("number", .dat n)]
  | .edge w n, v => recD K H v "Edge" [("word", .dat w), ("name", .dat n)]
  | .times n t, v => rep2 K H v "Times" "number" "inner" (fun u => Dat.rep K H u n) (t.rep K H)
  | .plus s t, v => rep2 K H v "Plus" "one" "other" (s.rep K H) (t.rep K H)
  | .minus s t, v => rep2 K H v "Minus" "one" "other" (s.rep K H) (t.rep K H)
theorem Trm.mono {K : PySem.W.Frag} {H H' : Hp} (e : Le H H') : ∀ {t : Trm} {v : V}, t.rep K H v → t.rep K H' v
  | .number _, _, h => recD.mono e h
  | .edge _ _, _, h => recD.mono e h
  | .times _ _, _, h => rep2.imp e (fun _ => Dat.mono e) (fun _ => Trm.mono e) h
  | .plus _ _, _, h => rep2.imp e (fun _ => Trm.mono e) (fun _ => Trm.mono e) h
  | .minus _ _, _, h => rep2.imp e (fun _ => Trm.mono e) (fun _ => Trm.mono e) h
instance : Dat Trm := ⟨fun K H v t => t.rep K H v, fun e h => Trm.mono e h⟩
theorem rep2_rec {α β : Type} [Dat α] [Dat β] {x : α} {y : β} {K : PySem.W.Frag} {H : Hp} {v : V} {c f g : Str} : rep2 K H v c f g (fun u => Dat.rep K H u x) (fun u => Dat.rep K H u y) ↔ recD K H v c [(f, .dat x), (g, .dat y)] := by
  constructor
  · rintro ⟨a, C, dx, v1, v2, z1, z2, z3, z4, z5⟩
    exact ⟨a, C, dx, [v1, v2], z1, z2, z3, z4, z5, trivial⟩
  · rintro ⟨a, C, dx, vs, z1, z2, z3, z4⟩
    have l2 : vs.length = 2 := z4.length
    obtain ⟨v1, v2, rfl⟩ : ∃ v1 v2, vs = [v1, v2] := by
      cases vs with
      | nil => cases l2
      | cons v1 r =>
        cases r with
        | nil => cases l2
        | cons v2 r =>
          cases r with
          | nil => exact ⟨v1, v2, rfl⟩
          | cons _ _ => simp at l2
    exact ⟨a, C, dx, v1, v2, z1, z2, z3, z4.1, z4.2.1⟩
def Trm.flds : Trm → List (Str × Sl)
  | .number n => [("number", .dat n)]
  | .edge w n => [("word", .dat w), ("name", .dat n)]
  | .times n t => [("number", .dat n), ("inner", .dat t)]
  | .plus s t => [("one", .dat s), ("other", .dat t)]
  | .minus s t => [("one", .dat s), ("other", .dat t)]
instance : Rec Trm where
  cls := Trm.cls
  flds := Trm.flds
  is := fun K H v t => by
    cases t with
    | number n => exact Iff.rfl
    | edge w n => exact Iff.rfl
    | times n t => exact rep2_rec (x := n) (y := t)
    | plus s t => exact rep2_rec (x := s) (y := t)
    | minus s t => exact rep2_rec (x := s) (y := t)
/-- a wish -/
inductive Wsh
  | just (near far : Trm) (rank weight : Int)
  | least (near far : Trm) (rank weight : Int)
  | most (near far : Trm) (rank weight : Int)
def Wsh.cls : Wsh → Str
  | .just _ _ _ _ => "Just"
  | .least _ _ _ _ => "AtLeast"
  | .most _ _ _ _ => "AtMost"
def Wsh.near : Wsh → Trm
  | .just a _ _ _ => a
  | .least a _ _ _ => a
  | .most a _ _ _ => a
def Wsh.far : Wsh → Trm
  | .just _ a _ _ => a
  | .least _ a _ _ => a
  | .most _ a _ _ => a
def Wsh.rank : Wsh → Int
  | .just _ _ a _ => a
  | .least _ _ a _ => a
  | .most _ _ a _ => a
def Wsh.weight : Wsh → Int
  | .just _ _ _ a => a
  | .least _ _ _ a => a
  | .most _ _ _ a => a
def Wsh.flds (x : Wsh) : List (Str × Sl) := [("near", .dat x.near), ("far", .dat x.far), ("rank", .dat x.rank), ("weight", .dat x.weight)]
instance : Dat Wsh := ⟨fun K H v x => recD K H v x.cls x.flds, fun e h => recD.mono e h⟩
instance : Rec Wsh := ⟨Wsh.cls, Wsh.flds, fun _ _ _ _ => Iff.rfl⟩
end R
set_option maxHeartbeats 1000000
set_option autoImplicit false
/-! makings that may be refused, told by what __init__ ends with; isinstance of what may be None -/
namespace R
open PySem PySem.Spec PyProof.Rows L2
theorem call_or {X : Cx} {f : Value} {r1 r2 : List V → Hp → VK → Prop} (h1 : CallR X f r1) (h2 : CallR X f r2) : CallR X f (fun xs H Q => r1 xs H Q ∨ r2 xs H Q) := by
  intro pins s σ H xs us Q I r h
  rcases h with h | h
  · exact h1 pins s σ H xs us Q I r h
  · exact h2 pins s σ H xs us Q I r h
/-- isinstance(None, d) is False -/
structure NonOk (K : PySem.W.Frag) (mg : Str → Option Value) (d : Str) : Prop where
  ex : ∃ D, mg d = some (.ref D) ∧ PySem.W.kitOne K (.type "NoneType") (.ref D) = some false
section
variable {X : Cx} {W : WX} {env : Env'} {τ : Type} [Dat τ] [Rec τ] {x : τ} {m : Option τ} {a e : Expr} {es : List Expr} {p pos pc : Pos} {c d : Str} {k n : Nat} {ps : List Str} {Φ : PhiI} {xs : List Sl}
theorem ex_isRO (hi : X.mg "isinstance" = none) (h : EX X a env m) (c : ∀ y : τ, IsiOk X.K X.mg (Rec.cls y) d true) (cn : NonOk X.K X.mg d) (hg : Gl X "isinstance" := by rfl) (hgT : Gl X d := by rfl) (hd : (d == ("__debug__" : Str)) = false := by decide)
    (he : starEach [a, .Name d pc] X.env = (false, eval a X.env) :: starEach [.Name d pc] X.env := by exact star_plain rfl _ _) (he2 : starEach [.Name d pc] X.env = (false, eval (.Name d pc) X.env) :: starEach [] X.env := by exact star_plain rfl _ _) (hpl : (backTo pos (starEach [.Name d pc] X.env)).any (·.1) = false := by exact star_pl rfl) : EX X (.Call (.Name "isinstance" p) [a, .Name d pc] [] pos) env m.isSome := by
  obtain ⟨D, d1, d2⟩ := cn.ex
  refine ex_of (pe_callB (call_or call_isi call_isR) hg hi (by decide +kernel) (pa_cons (mE X a) (pa_cons (pe_glob (v := .ref D) hgT d1 rfl hd) pa_nil he2) he) (by decide) (by decide) he hpl) fun O fp σ H S Q q => h O fp σ H S _ fun v H1 e1 r1 => ?_
  cases m with
  | none =>
    have r1 : v = .non := r1
    subst r1
    exact .inl ⟨_, .ref D, .type "NoneType", .ref D, false, rfl, .own D, .base .non, d2, q _ H1 e1 rfl⟩
  | some y =>
    have r1 : Dat.rep X.K (wo H1 (UU O fp)) v y := r1
    obtain ⟨C, D', c1, c2, c3, c4, c5, c6, c7, c8⟩ := (c y).ex
    rw [d1] at c2
    cases c2
    obtain ⟨ad, C', dx, vs, rfl, g1, g2, g3⟩ := (Rec.is _ _ _ _).mp r1
    cases c1.same g1
    exact .inr ⟨ad, C, dx, D, _, true, rfl, wo_le ad _ trivial g2, c3, c4, c5, c6, c7, c8, q _ H1 e1 rfl⟩
/-- C(e, ..): what __init__ ends with is m -/
theorem exx_makeR {u : Except Exn Unit} (tk : Takes X W) (d : MkOk X.prog X.w X.K X.mg X.base c k ps (spI X.K X.mg n Φ)) (hr : Room (k + 1) X.A) (ha : EA X (e :: es) env xs) (hn : xs.length + 1 = n) (hx : Rec.cls x = c)
    (hΦ : ∀ v (R : Env' → Prop) (Xp : Exn → Prop), outP (fun _ => ∀ e : Env', e[0]? = some (.own (At.mk v (OI.mk (Rec.flds x).length x))) → R e) Xp u → Φ (.own (At.mk v (OI.mk 0 x)) :: xs) R Xp)
    (hg : Gl X c := by rfl) (hdb : (c == ("__debug__" : Str)) = false := by decide) (he : starEach (e :: es) X.env = (false, eval e X.env) :: starEach es X.env := by exact star_plain rfl _ _) (hpl : (backTo pos (starEach es X.env)).any (·.1) = false := by exact star_pl rfl) : EXX X W (.Call (.Name c p) (e :: es) [] pos) env (fun r => (u.bind fun _ => .ok x) = .ok r) (fun y => (u.bind fun _ => (.ok x : Except Exn τ)) = .error y) := by
  refine exx_make (x := x) tk d hr ha hn hx (fun v => ?_) hg hdb he hpl
  cases u with
  | error y => exact ⟨fun _ => False, hΦ v _ _ rfl, fun _ h => h.elim⟩
  | ok _ => exact ⟨_, hΦ v (fun e => e[0]? = some (.own (At.mk v (OI.mk (Rec.flds x).length x)))) _ (fun _ h => h), fun _ h => ⟨h, rfl⟩⟩
end
/-- no field of it is named so -/
theorem Trm.no {f : Str} (h : f ∉ [("number" : Str), "word", "name", "inner", "one", "other"]) : ∀ t : Trm, (Rec.flds t).lookup f = none := fun t => by
  have key : ∀ (l : List (Str × Sl)), (∀ q ∈ l, q.1 ∈ [("number" : Str), "word", "name", "inner", "one", "other"]) → l.lookup f = none := fun l => by
    induction l with
    | nil => intro _; rfl
    | cons q l ih =>
      intro hq
      rw [List.lookup_cons]
      have ne : (f == q.1) = false := beq_eq_false_iff_ne.mpr fun z => h (z ▸ hq q List.mem_cons_self)
      rw [ne]
      exact ih fun r hr => hq r (List.mem_cons_of_mem _ hr)
  refine key _ fun q hq => ?_
  cases t <;> simp [Rec.flds, Trm.flds] at hq
  · rw [hq]; simp
  · rcases hq with hq | hq <;> rw [hq] <;> simp
  · rcases hq with hq | hq <;> rw [hq] <;> simp
  · rcases hq with hq | hq <;> rw [hq] <;> simp
  · rcases hq with hq | hq <;> rw [hq] <;> simp
theorem Wsh.no {f : Str} (h : f ∉ [("near" : Str), "far", "rank", "weight"]) : ∀ t : Wsh, (Rec.flds t).lookup f = none := fun t => by
  simp only [List.mem_cons, List.not_mem_nil, or_false, not_or] at h
  obtain ⟨h1, h2, h3, h4⟩ := h
  show List.lookup f (Wsh.flds t) = none
  unfold Wsh.flds
  rw [List.lookup_cons, beq_eq_false_iff_ne.mpr h1, List.lookup_cons, beq_eq_false_iff_ne.mpr h2, List.lookup_cons, beq_eq_false_iff_ne.mpr h3, List.lookup_cons, beq_eq_false_iff_ne.mpr h4]
  rfl
end R
set_option pp.maxSteps 400
set_option maxHeartbeats 40000000
set_option autoImplicit false
namespace G
open PySem PySem.Spec PyProof.Rows L2 R
def m_l_cell_at (script_ : List Int) (k_ : Int) : Int :=
  (cond (decide (k_ < (script_.length : Int))) (List.getD script_ (Int.toNat k_) (0 : Int)) (0 : Int))
def ok_l_cell_at (script_ : List Int) (k_ : Int) : Prop :=
  (((decide (k_ < (script_.length : Int))) = true → (0 ≤ k_ ∧ k_ < (script_.length : Int)) ∧ True) ∧ ((decide (k_ < (script_.length : Int))) = false → True))
def m_l_alone (e_ : Exn) : Bool :=
  (cond ((!(exnIn [("FrameError" : Str), ("NoWish" : Str), ("Mixed" : Str), ("NoRank" : Str), ("NoName" : Str), ("NoPane" : Str)] e_)) || (!(exnIn [("FrameError" : Str), ("NoWish" : Str), ("Mixed" : Str), ("NoRank" : Str), ("NoName" : Str), ("NoPane" : Str)] e_))) false (!([[("NoName" : Str)], [("NoPane" : Str)], [("NoRank" : Str)], [("NoWish" : Str)]].any fun s => exnIn s e_)))
def ok_l_alone (e_ : Exn) : Prop :=
  exnIn [("FrameError" : Str), ("NoWish" : Str), ("Mixed" : Str), ("NoRank" : Str), ("NoName" : Str), ("NoPane" : Str)] e_ = true ∧ (∃ n, e_ = Exn.one n) ∧ ((!(exnIn [("FrameError" : Str), ("NoWish" : Str), ("Mixed" : Str), ("NoRank" : Str), ("NoName" : Str), ("NoPane" : Str)] e_)) = false → exnIn [("FrameError" : Str), ("NoWish" : Str), ("Mixed" : Str), ("NoRank" : Str), ("NoName" : Str), ("NoPane" : Str)] e_ = true) ∧ ((!(exnIn [("FrameError" : Str), ("NoWish" : Str), ("Mixed" : Str), ("NoRank" : Str), ("NoName" : Str), ("NoPane" : Str)] e_)) = false → (∃ n, e_ = Exn.one n)) ∧ ((((!(exnIn [("FrameError" : Str), ("NoWish" : Str), ("Mixed" : Str), ("NoRank" : Str), ("NoName" : Str), ("NoPane" : Str)] e_)) || (!(exnIn [("FrameError" : Str), ("NoWish" : Str), ("Mixed" : Str), ("NoRank" : Str), ("NoName" : Str), ("NoPane" : Str)] e_))) = true → True) ∧ (((!(exnIn [("FrameError" : Str), ("NoWish" : Str), ("Mixed" : Str), ("NoRank" : Str), ("NoName" : Str), ("NoPane" : Str)] e_)) || (!(exnIn [("FrameError" : Str), ("NoWish" : Str), ("Mixed" : Str), ("NoRank" : Str), ("NoName" : Str), ("NoPane" : Str)] e_))) = false → exnIn [("FrameError" : Str), ("NoWish" : Str), ("Mixed" : Str), ("NoRank" : Str), ("NoName" : Str), ("NoPane" : Str)] e_ = true ∧ (∃ n, e_ = Exn.one n) ∧ True))
def m_Trm_ways : Trm → List Str
  | .number number_ => ([] : List Str)
  | .edge word_ name_ => (cond ((TpS.mk [Str.ofString "top", Str.ofString "height", Str.ofString "bottom", Str.ofString "centre", Str.ofString "drop"]).l.any fun y => decide (y = word_)) [(Str.ofString "down")] [(Str.ofString "across")])
  | .times number_ inner_ => (m_Trm_ways inner_)
  | .plus one_ other_ => (sortU2 (m_Trm_ways one_) (m_Trm_ways other_))
  | .minus one_ other_ => (sortU2 (m_Trm_ways one_) (m_Trm_ways other_))
def ok_Trm_ways : Trm → Prop
  | .number number_ => True
  | .edge word_ name_ => ((((TpS.mk [Str.ofString "top", Str.ofString "height", Str.ofString "bottom", Str.ofString "centre", Str.ofString "drop"]).l.any fun y => decide (y = word_)) = true → True) ∧ (((TpS.mk [Str.ofString "top", Str.ofString "height", Str.ofString "bottom", Str.ofString "centre", Str.ofString "drop"]).l.any fun y => decide (y = word_)) = false → True))
  | .times number_ inner_ => ok_Trm_ways inner_ ∧ True
  | .plus one_ other_ => ok_Trm_ways one_ ∧ ok_Trm_ways other_ ∧ (m_Trm_ways one_).length ≤ 2 ∧ (m_Trm_ways other_).length ≤ 2 ∧ True
  | .minus one_ other_ => ok_Trm_ways one_ ∧ ok_Trm_ways other_ ∧ (m_Trm_ways one_).length ≤ 2 ∧ (m_Trm_ways other_).length ≤ 2 ∧ True
def m_Number___init__ (number_ : Rat) : Unit :=
  ()
def ok_Number___init__ (number_ : Rat) : Prop :=
  True
theorem okt_Number___init__ (number_ : Rat) : ok_Number___init__ number_ := by
  unfold ok_Number___init__
  simp
def m_Edge___init__ (word_ : Str) (name_ : Str) : Unit :=
  ()
def ok_Edge___init__ (word_ : Str) (name_ : Str) : Prop :=
  True
theorem okt_Edge___init__ (word_ : Str) (name_ : Str) : ok_Edge___init__ word_ name_ := by
  unfold ok_Edge___init__
  simp
def m_Times___init__ (number_ : Rat) (inner_ : Trm) : Unit :=
  ()
def ok_Times___init__ (number_ : Rat) (inner_ : Trm) : Prop :=
  True
theorem okt_Times___init__ (number_ : Rat) (inner_ : Trm) : ok_Times___init__ number_ inner_ := by
  unfold ok_Times___init__
  simp
def m_Pair___init__ (one_ : Trm) (other_ : Trm) : Unit :=
  ()
def ok_Pair___init__ (one_ : Trm) (other_ : Trm) : Prop :=
  True
theorem okt_Pair___init__ (one_ : Trm) (other_ : Trm) : ok_Pair___init__ one_ other_ := by
  unfold ok_Pair___init__
  simp
def m_l_leaf (cell_ : Int) (way_ : Int) : (Trm × Str) :=
  (let words_1 : List (List Str) := [[(Str.ofString "left"), (Str.ofString "width"), (Str.ofString "right"), (Str.ofString "middle"), (Str.ofString "gap")], [(Str.ofString "top"), (Str.ofString "height"), (Str.ofString "bottom"), (Str.ofString "centre"), (Str.ofString "drop")]]; (cond ((decide (way_ = (2 : Int))) || (decide ((cell_ % (4 : Int)) = (0 : Int)))) ((Trm.number (Rat.divInt (((cell_ / (4 : Int)) % (1000 : Int))) ((1 : Int)))), (Str.ofString "")) (let word_4 : Str := (List.getD (List.getD words_1 (Int.toNat way_) []) (Int.toNat ((cell_ / (4 : Int)) % (5 : Int))) (Str.ofString "")); ((Trm.edge word_4 (List.getD [(Str.ofString "a"), (Str.ofString "bb"), (Str.ofString "q")] (Int.toNat ((cell_ / (20 : Int)) % (3 : Int))) (Str.ofString ""))), word_4))))
def ok_l_leaf (cell_ : Int) (way_ : Int) : Prop :=
  (let words_1 : List (List Str) := [[(Str.ofString "left"), (Str.ofString "width"), (Str.ofString "right"), (Str.ofString "middle"), (Str.ofString "gap")], [(Str.ofString "top"), (Str.ofString "height"), (Str.ofString "bottom"), (Str.ofString "centre"), (Str.ofString "drop")]]; ((((decide (way_ = (2 : Int))) || (decide ((cell_ % (4 : Int)) = (0 : Int)))) = true → IsQ (((cell_ / (4 : Int)) % (1000 : Int))) ((1 : Int)) ∧ True) ∧ (((decide (way_ = (2 : Int))) || (decide ((cell_ % (4 : Int)) = (0 : Int)))) = false → (0 ≤ way_ ∧ way_ < (words_1.length : Int)) ∧ (0 ≤ ((cell_ / (4 : Int)) % (5 : Int)) ∧ ((cell_ / (4 : Int)) % (5 : Int)) < ((List.getD words_1 (Int.toNat way_) []).length : Int)) ∧ (let word_4 : Str := (List.getD (List.getD words_1 (Int.toNat way_) []) (Int.toNat ((cell_ / (4 : Int)) % (5 : Int))) (Str.ofString "")); (0 ≤ ((cell_ / (20 : Int)) % (3 : Int)) ∧ ((cell_ / (20 : Int)) % (3 : Int)) < ([(Str.ofString "a"), (Str.ofString "bb"), (Str.ofString "q")].length : Int)) ∧ True))))
def st_l_term_3 (way_ : Int) (odd_ : Int) (s4 : (List Str × Trm)) (x5 : (Int × Int)) : (List Str × Trm) :=
  (let words_6 : List Str := s4.1; let term_here_7 : Trm := s4.2; let k_8 : Int := x5.1; let cell_9 : Int := x5.2; (let turn_12 : Int := way_; (let j16 : Int := cond ((decide (k_8 = odd_)) && (decide (way_ < (2 : Int)))) (let turn_14 : Int := ((1 : Int) - way_); turn_14) turn_12; let turn_17 : Int := j16; (let p19 : (Trm × Str) := (m_l_leaf (cell_9 / (4 : Int)) turn_17); let leaf_here_20 : Trm := p19.1; let word_21 : Str := p19.2; (let j25 : List Str := cond (!decide (word_21 = (Str.ofString ""))) (let words_22 : List Str := words_6 ++ [word_21]; words_22) words_6; let words_26 : List Str := j25; (let term_here_27 : Trm := (List.getD [(Trm.plus term_here_7 leaf_here_20), (Trm.minus leaf_here_20 term_here_7), (Trm.times (Rat.divInt (2 : Int) (3 : Int)) (Trm.plus leaf_here_20 term_here_7)), (Trm.plus leaf_here_20 term_here_7)] (Int.toNat (cell_9 % (4 : Int))) (Trm.number 0)); (words_26, term_here_27)))))))
def okb_l_term_3 (way_ : Int) (odd_ : Int) (s4 : (List Str × Trm)) (x5 : (Int × Int)) : Prop :=
  (let words_6 : List Str := s4.1; let term_here_7 : Trm := s4.2; let k_8 : Int := x5.1; let cell_9 : Int := x5.2; (let turn_12 : Int := way_; (((decide (k_8 = odd_)) && (decide (way_ < (2 : Int)))) = true → (let turn_14 : Int := ((1 : Int) - way_); True)) ∧ (((decide (k_8 = odd_)) && (decide (way_ < (2 : Int)))) = false → True) ∧ (let j16 : Int := cond ((decide (k_8 = odd_)) && (decide (way_ < (2 : Int)))) (let turn_14 : Int := ((1 : Int) - way_); turn_14) turn_12; let turn_17 : Int := j16; ok_l_leaf (cell_9 / (4 : Int)) turn_17 ∧ (let p19 : (Trm × Str) := (m_l_leaf (cell_9 / (4 : Int)) turn_17); let leaf_here_20 : Trm := p19.1; let word_21 : Str := p19.2; ((!decide (word_21 = (Str.ofString ""))) = true → words_6.length < 100000 ∧ (let words_22 : List Str := words_6 ++ [word_21]; True)) ∧ ((!decide (word_21 = (Str.ofString ""))) = false → True) ∧ (let j25 : List Str := cond (!decide (word_21 = (Str.ofString ""))) (let words_22 : List Str := words_6 ++ [word_21]; words_22) words_6; let words_26 : List Str := j25; (0 ≤ (cell_9 % (4 : Int)) ∧ (cell_9 % (4 : Int)) < ([(Trm.plus term_here_7 leaf_here_20), (Trm.minus leaf_here_20 term_here_7), (Trm.times (Rat.divInt (2 : Int) (3 : Int)) (Trm.plus leaf_here_20 term_here_7)), (Trm.plus leaf_here_20 term_here_7)].length : Int)) ∧ (let term_here_27 : Trm := (List.getD [(Trm.plus term_here_7 leaf_here_20), (Trm.minus leaf_here_20 term_here_7), (Trm.times (Rat.divInt (2 : Int) (3 : Int)) (Trm.plus leaf_here_20 term_here_7)), (Trm.plus leaf_here_20 term_here_7)] (Int.toNat (cell_9 % (4 : Int))) (Trm.number 0)); True))))))
def m_l_term (cells_ : List Int) (way_ : Int) (odd_ : Int) : (Trm × List Str) :=
  (let term_here_1 : Trm := (Trm.number (3 : Rat)); (let words_2 : List Str := ([] : List Str); (let j29 : (List Str × Trm) := List.foldl (st_l_term_3 way_ odd_) (words_2, term_here_1) (enumI cells_); let words_30 : List Str := j29.1; let term_here_31 : Trm := j29.2; (term_here_31, words_30))))
def ok_l_term (cells_ : List Int) (way_ : Int) (odd_ : Int) : Prop :=
  (let term_here_1 : Trm := (Trm.number (3 : Rat)); (let words_2 : List Str := ([] : List Str); okFold (okb_l_term_3 way_ odd_) (st_l_term_3 way_ odd_) (words_2, term_here_1) (enumI cells_) ∧ (let j29 : (List Str × Trm) := List.foldl (st_l_term_3 way_ odd_) (words_2, term_here_1) (enumI cells_); let words_30 : List Str := j29.1; let term_here_31 : Trm := j29.2; True)))
def m_Wsh_way : Wsh → Str
  | .just near_ far_ rank_ weight_ => (cond (((m_Trm_ways near_) ++ (m_Trm_ways far_)).any fun y => decide (y = (Str.ofString "down"))) (Str.ofString "down") (Str.ofString "across"))
  | .least near_ far_ rank_ weight_ => (cond (((m_Trm_ways near_) ++ (m_Trm_ways far_)).any fun y => decide (y = (Str.ofString "down"))) (Str.ofString "down") (Str.ofString "across"))
  | .most near_ far_ rank_ weight_ => (cond (((m_Trm_ways near_) ++ (m_Trm_ways far_)).any fun y => decide (y = (Str.ofString "down"))) (Str.ofString "down") (Str.ofString "across"))
def ok_Wsh_way : Wsh → Prop
  | .just near_ far_ rank_ weight_ => near_.depth < 12 ∧ ok_Trm_ways near_ ∧ far_.depth < 12 ∧ ok_Trm_ways far_ ∧ (m_Trm_ways near_).length + (m_Trm_ways far_).length ≤ 100000 ∧ (((((m_Trm_ways near_) ++ (m_Trm_ways far_)).any fun y => decide (y = (Str.ofString "down"))) = true → True) ∧ ((((m_Trm_ways near_) ++ (m_Trm_ways far_)).any fun y => decide (y = (Str.ofString "down"))) = false → True))
  | .least near_ far_ rank_ weight_ => near_.depth < 12 ∧ ok_Trm_ways near_ ∧ far_.depth < 12 ∧ ok_Trm_ways far_ ∧ (m_Trm_ways near_).length + (m_Trm_ways far_).length ≤ 100000 ∧ (((((m_Trm_ways near_) ++ (m_Trm_ways far_)).any fun y => decide (y = (Str.ofString "down"))) = true → True) ∧ ((((m_Trm_ways near_) ++ (m_Trm_ways far_)).any fun y => decide (y = (Str.ofString "down"))) = false → True))
  | .most near_ far_ rank_ weight_ => near_.depth < 12 ∧ ok_Trm_ways near_ ∧ far_.depth < 12 ∧ ok_Trm_ways far_ ∧ (m_Trm_ways near_).length + (m_Trm_ways far_).length ≤ 100000 ∧ (((((m_Trm_ways near_) ++ (m_Trm_ways far_)).any fun y => decide (y = (Str.ofString "down"))) = true → True) ∧ ((((m_Trm_ways near_) ++ (m_Trm_ways far_)).any fun y => decide (y = (Str.ofString "down"))) = false → True))
def m_Wish___init__ (near_ : Trm) (far_ : Trm) (rank_ : Int) (weight_ : Int) : Except Exn Unit :=
  (cond (decide ((1 : Int) < ((RS8.setL ((m_Trm_ways near_) ++ (m_Trm_ways far_))).length : Int))) (.error (.one "Mixed")) (.ok ()))
def ok_Wish___init__ (near_ : Trm) (far_ : Trm) (rank_ : Int) (weight_ : Int) : Prop :=
  near_.depth < 12 ∧ ok_Trm_ways near_ ∧ far_.depth < 12 ∧ ok_Trm_ways far_ ∧ (m_Trm_ways near_).length ≤ 2 ∧ (m_Trm_ways far_).length ≤ 2 ∧ (((decide ((1 : Int) < ((RS8.setL ((m_Trm_ways near_) ++ (m_Trm_ways far_))).length : Int))) = true → True) ∧ ((decide ((1 : Int) < ((RS8.setL ((m_Trm_ways near_) ++ (m_Trm_ways far_))).length : Int))) = false → True))
def m_l_made (kind_ : Int) (near_ : Trm) (far_ : Trm) : Str :=
  (let wish_1 : Option (Wsh) := (none : Option (Wsh)); (let told_2 : Str := (Str.ofString "other"); (let j19 : (Option (Wsh) × Str) := tryV ((cond (decide (kind_ = (0 : Int))) (((m_Wish___init__ near_ far_ (2 : Int) (5 : Int)).bind fun _ => (.ok (Wsh.just near_ far_ (2 : Int) (5 : Int)) : Except Exn Wsh)).bind (fun wish_4 => (.ok ((some wish_4), told_2)))) (cond (decide (kind_ = (1 : Int))) (((m_Wish___init__ near_ far_ (0 : Int) (1 : Int)).bind fun _ => (.ok (Wsh.least near_ far_ (0 : Int) (1 : Int)) : Except Exn Wsh)).bind (fun wish_7 => (.ok ((some wish_7), told_2)))) (((m_Wish___init__ near_ far_ (4 : Int) (1000000 : Int)).bind fun _ => (.ok (Wsh.most near_ far_ (4 : Int) (1000000 : Int)) : Except Exn Wsh)).bind (fun wish_10 => (.ok ((some wish_10), told_2)))))) : Except Exn ((Option (Wsh) × Str))) (fun (e14 : Exn) => (let told_16 : Str := (List.getD [(Str.ofString "wrong"), (Str.ofString "mixed")] (Int.toNat (intB (m_l_alone e14))) (Str.ofString "")); (wish_1, told_16))); let wish_20 : Option (Wsh) := j19.1; let told_21 : Str := j19.2; (let j26 : Str := cond (wish_20.isSome) (let told_22 : Str := (m_Wsh_way (wish_20.getD (Wsh.just (.number 0) (.number 0) 0 0))); told_22) told_21; let told_27 : Str := j26; told_27))))
def ok_l_made (kind_ : Int) (near_ : Trm) (far_ : Trm) : Prop :=
  (let wish_1 : Option (Wsh) := (none : Option (Wsh)); (let told_2 : Str := (Str.ofString "other"); (∀ e14, ((cond (decide (kind_ = (0 : Int))) (((m_Wish___init__ near_ far_ (2 : Int) (5 : Int)).bind fun _ => (.ok (Wsh.just near_ far_ (2 : Int) (5 : Int)) : Except Exn Wsh)).bind (fun wish_4 => (.ok ((some wish_4), told_2)))) (cond (decide (kind_ = (1 : Int))) (((m_Wish___init__ near_ far_ (0 : Int) (1 : Int)).bind fun _ => (.ok (Wsh.least near_ far_ (0 : Int) (1 : Int)) : Except Exn Wsh)).bind (fun wish_7 => (.ok ((some wish_7), told_2)))) (((m_Wish___init__ near_ far_ (4 : Int) (1000000 : Int)).bind fun _ => (.ok (Wsh.most near_ far_ (4 : Int) (1000000 : Int)) : Except Exn Wsh)).bind (fun wish_10 => (.ok ((some wish_10), told_2)))))) : Except Exn ((Option (Wsh) × Str))) = .error e14 → exnIn [("FrameError" : Str), ("NoWish" : Str), ("Mixed" : Str), ("NoRank" : Str), ("NoName" : Str), ("NoPane" : Str)] e14 = true ∧ exnIn [("Mixed" : Str)] e14 = true) ∧ ((((decide (kind_ = (0 : Int))) = true → ok_Wish___init__ near_ far_ (2 : Int) (5 : Int) ∧ (∀ wish_4, ((m_Wish___init__ near_ far_ (2 : Int) (5 : Int)).bind fun _ => (.ok (Wsh.just near_ far_ (2 : Int) (5 : Int)) : Except Exn Wsh)) = .ok wish_4 → True)) ∧ ((decide (kind_ = (0 : Int))) = false → (((decide (kind_ = (1 : Int))) = true → ok_Wish___init__ near_ far_ (0 : Int) (1 : Int) ∧ (∀ wish_7, ((m_Wish___init__ near_ far_ (0 : Int) (1 : Int)).bind fun _ => (.ok (Wsh.least near_ far_ (0 : Int) (1 : Int)) : Except Exn Wsh)) = .ok wish_7 → True)) ∧ ((decide (kind_ = (1 : Int))) = false → ok_Wish___init__ near_ far_ (4 : Int) (1000000 : Int) ∧ (∀ wish_10, ((m_Wish___init__ near_ far_ (4 : Int) (1000000 : Int)).bind fun _ => (.ok (Wsh.most near_ far_ (4 : Int) (1000000 : Int)) : Except Exn Wsh)) = .ok wish_10 → True)))))) ∧ (∀ e14, ((cond (decide (kind_ = (0 : Int))) (((m_Wish___init__ near_ far_ (2 : Int) (5 : Int)).bind fun _ => (.ok (Wsh.just near_ far_ (2 : Int) (5 : Int)) : Except Exn Wsh)).bind (fun wish_4 => (.ok ((some wish_4), told_2)))) (cond (decide (kind_ = (1 : Int))) (((m_Wish___init__ near_ far_ (0 : Int) (1 : Int)).bind fun _ => (.ok (Wsh.least near_ far_ (0 : Int) (1 : Int)) : Except Exn Wsh)).bind (fun wish_7 => (.ok ((some wish_7), told_2)))) (((m_Wish___init__ near_ far_ (4 : Int) (1000000 : Int)).bind fun _ => (.ok (Wsh.most near_ far_ (4 : Int) (1000000 : Int)) : Except Exn Wsh)).bind (fun wish_10 => (.ok ((some wish_10), told_2)))))) : Except Exn ((Option (Wsh) × Str))) = .error e14 → ok_l_alone e14 ∧ (0 ≤ (intB (m_l_alone e14)) ∧ (intB (m_l_alone e14)) < ([(Str.ofString "wrong"), (Str.ofString "mixed")].length : Int)) ∧ (let told_16 : Str := (List.getD [(Str.ofString "wrong"), (Str.ofString "mixed")] (Int.toNat (intB (m_l_alone e14))) (Str.ofString "")); True)) ∧ (let j19 : (Option (Wsh) × Str) := tryV ((cond (decide (kind_ = (0 : Int))) (((m_Wish___init__ near_ far_ (2 : Int) (5 : Int)).bind fun _ => (.ok (Wsh.just near_ far_ (2 : Int) (5 : Int)) : Except Exn Wsh)).bind (fun wish_4 => (.ok ((some wish_4), told_2)))) (cond (decide (kind_ = (1 : Int))) (((m_Wish___init__ near_ far_ (0 : Int) (1 : Int)).bind fun _ => (.ok (Wsh.least near_ far_ (0 : Int) (1 : Int)) : Except Exn Wsh)).bind (fun wish_7 => (.ok ((some wish_7), told_2)))) (((m_Wish___init__ near_ far_ (4 : Int) (1000000 : Int)).bind fun _ => (.ok (Wsh.most near_ far_ (4 : Int) (1000000 : Int)) : Except Exn Wsh)).bind (fun wish_10 => (.ok ((some wish_10), told_2)))))) : Except Exn ((Option (Wsh) × Str))) (fun (e14 : Exn) => (let told_16 : Str := (List.getD [(Str.ofString "wrong"), (Str.ofString "mixed")] (Int.toNat (intB (m_l_alone e14))) (Str.ofString "")); (wish_1, told_16))); let wish_20 : Option (Wsh) := j19.1; let told_21 : Str := j19.2; ((wish_20.isSome) = true → wish_20.isSome = true ∧ ok_Wsh_way (wish_20.getD (Wsh.just (.number 0) (.number 0) 0 0)) ∧ (let told_22 : Str := (m_Wsh_way (wish_20.getD (Wsh.just (.number 0) (.number 0) 0 0))); True)) ∧ ((wish_20.isSome) = false → True) ∧ (let j26 : Str := cond (wish_20.isSome) (let told_22 : Str := (m_Wsh_way (wish_20.getD (Wsh.just (.number 0) (.number 0) 0 0))); told_22) told_21; let told_27 : Str := j26; True))))
def m_law (script_ : List Int) : Bool :=
  (let way_1 : Int := ((m_l_cell_at script_ (0 : Int)) % (3 : Int)); (let other_3 : Int := way_1; (let j8 : Int := cond (decide (((m_l_cell_at script_ (1 : Int)) % (4 : Int)) = (1 : Int))) (let other_5 : Int := (((m_l_cell_at script_ (1 : Int)) / (4 : Int)) % (3 : Int)); other_5) other_3; let other_9 : Int := j8; (let odd_10 : Int := (-1 : Int); (let j15 : Int := cond (decide (((m_l_cell_at script_ (1 : Int)) % (4 : Int)) = (2 : Int))) (let odd_12 : Int := (((m_l_cell_at script_ (1 : Int)) / (4 : Int)) % (5 : Int)); odd_12) odd_10; let odd_16 : Int := j15; (let p18 : (Trm × List Str) := (m_l_term (cutL script_ (some (2 : Int)) (some (7 : Int))) way_1 odd_16); let near_19 : Trm := p18.1; let words_20 : List Str := p18.2; (let p22 : (Trm × List Str) := (m_l_term (cutL script_ (some (7 : Int)) (some (12 : Int))) other_9 (-1 : Int)); let far_23 : Trm := p22.1; let more_24 : List Str := p22.2; (let words_25 : List Str := (words_20 ++ more_24); (let down_27 : List Str := ((List.filter (fun (x28 : Str) => ([(Str.ofString "top"), (Str.ofString "height"), (Str.ofString "bottom"), (Str.ofString "centre"), (Str.ofString "drop")].any fun y => decide (y = x28))) words_25).map (fun (x28 : Str) => x28)); (let due_32 : Str := (Str.ofString "across"); (let j35 : Str := cond (!deq down_27 ([] : List Str)) (let due_33 : Str := (Str.ofString "down"); due_33) due_32; let due_36 : Str := j35; (let j40 : Str := cond ((!deq down_27 ([] : List Str)) && (decide ((down_27.length : Int) < (words_25.length : Int)))) (let due_38 : Str := (Str.ofString "mixed"); due_38) due_36; let due_41 : Str := j40; (deq (List.map (fun (x42 : Int) => (m_l_made x42 near_19 far_23)) (rangeI (3 : Int))) [due_41, due_41, due_41])))))))))))))
def ok_law (script_ : List Int) : Prop :=
  ok_l_cell_at script_ (0 : Int) ∧ (let way_1 : Int := ((m_l_cell_at script_ (0 : Int)) % (3 : Int)); (let other_3 : Int := way_1; ok_l_cell_at script_ (1 : Int) ∧ ((decide (((m_l_cell_at script_ (1 : Int)) % (4 : Int)) = (1 : Int))) = true → ok_l_cell_at script_ (1 : Int) ∧ (let other_5 : Int := (((m_l_cell_at script_ (1 : Int)) / (4 : Int)) % (3 : Int)); True)) ∧ ((decide (((m_l_cell_at script_ (1 : Int)) % (4 : Int)) = (1 : Int))) = false → True) ∧ (let j8 : Int := cond (decide (((m_l_cell_at script_ (1 : Int)) % (4 : Int)) = (1 : Int))) (let other_5 : Int := (((m_l_cell_at script_ (1 : Int)) / (4 : Int)) % (3 : Int)); other_5) other_3; let other_9 : Int := j8; (let odd_10 : Int := (-1 : Int); ok_l_cell_at script_ (1 : Int) ∧ ((decide (((m_l_cell_at script_ (1 : Int)) % (4 : Int)) = (2 : Int))) = true → ok_l_cell_at script_ (1 : Int) ∧ (let odd_12 : Int := (((m_l_cell_at script_ (1 : Int)) / (4 : Int)) % (5 : Int)); True)) ∧ ((decide (((m_l_cell_at script_ (1 : Int)) % (4 : Int)) = (2 : Int))) = false → True) ∧ (let j15 : Int := cond (decide (((m_l_cell_at script_ (1 : Int)) % (4 : Int)) = (2 : Int))) (let odd_12 : Int := (((m_l_cell_at script_ (1 : Int)) / (4 : Int)) % (5 : Int)); odd_12) odd_10; let odd_16 : Int := j15; ok_l_term (cutL script_ (some (2 : Int)) (some (7 : Int))) way_1 odd_16 ∧ (let p18 : (Trm × List Str) := (m_l_term (cutL script_ (some (2 : Int)) (some (7 : Int))) way_1 odd_16); let near_19 : Trm := p18.1; let words_20 : List Str := p18.2; ok_l_term (cutL script_ (some (7 : Int)) (some (12 : Int))) other_9 (-1 : Int) ∧ (let p22 : (Trm × List Str) := (m_l_term (cutL script_ (some (7 : Int)) (some (12 : Int))) other_9 (-1 : Int)); let far_23 : Trm := p22.1; let more_24 : List Str := p22.2; words_20.length + more_24.length ≤ 100000 ∧ (let words_25 : List Str := (words_20 ++ more_24); words_25.length ≤ 100000 ∧ (let down_27 : List Str := ((List.filter (fun (x28 : Str) => ([(Str.ofString "top"), (Str.ofString "height"), (Str.ofString "bottom"), (Str.ofString "centre"), (Str.ofString "drop")].any fun y => decide (y = x28))) words_25).map (fun (x28 : Str) => x28)); (let due_32 : Str := (Str.ofString "across"); ((!deq down_27 ([] : List Str)) = true → (let due_33 : Str := (Str.ofString "down"); True)) ∧ ((!deq down_27 ([] : List Str)) = false → True) ∧ (let j35 : Str := cond (!deq down_27 ([] : List Str)) (let due_33 : Str := (Str.ofString "down"); due_33) due_32; let due_36 : Str := j35; (((!deq down_27 ([] : List Str)) && (decide ((down_27.length : Int) < (words_25.length : Int)))) = true → (let due_38 : Str := (Str.ofString "mixed"); True)) ∧ (((!deq down_27 ([] : List Str)) && (decide ((down_27.length : Int) < (words_25.length : Int)))) = false → True) ∧ (let j40 : Str := cond ((!deq down_27 ([] : List Str)) && (decide ((down_27.length : Int) < (words_25.length : Int)))) (let due_38 : Str := (Str.ofString "mixed"); due_38) due_36; let due_41 : Str := j40; (∀ (x42 : Int), x42 ∈ (rangeI (3 : Int)) → ((true) = true → ok_l_made x42 near_19 far_23)) ∧ (rangeI (3 : Int)).length ≤ 100000 ∧ True))))))))))))
end G
set_option pp.maxSteps 400
set_option maxHeartbeats 40000000
set_option autoImplicit false
namespace G
open PySem PySem.Spec PyProof.Rows L2 R
def topS (i : Nat) : Stmt := PySem.Challenge.pw_springframe_k13_across_and_down.main.body.getD i (.Pass ⟨0, 0, 0, 0⟩)
structure Top (K : PySem.W.Frag) (mg : Str → Option Value) : Prop where
  here : True
  b_enumerate : mg "enumerate" = none
  b_int : mg "int" = none
  b_isinstance : mg "isinstance" = none
  b_len : mg "len" = none
  b_range : mg "range" = none
  b_set : mg "set" = none
  b_sorted : mg "sorted" = none
  x_Mixed : ErrC K mg "Mixed"
  g_DOWN : GC K mg "DOWN" (TpS.mk [Str.ofString "top", Str.ofString "height", Str.ofString "bottom", Str.ofString "centre", Str.ofString "drop"])
  c_Mixed : CatC K mg [("FrameError" : Str), ("NoWish" : Str), ("Mixed" : Str), ("NoRank" : Str), ("NoName" : Str), ("NoPane" : Str)] [("Mixed" : Str)] "Mixed"
  ib_ValueError : IsCB K mg [("FrameError" : Str), ("NoWish" : Str), ("Mixed" : Str), ("NoRank" : Str), ("NoName" : Str), ("NoPane" : Str)] [("FrameError" : Str), ("NoWish" : Str), ("Mixed" : Str), ("NoRank" : Str), ("NoName" : Str), ("NoPane" : Str)] "ValueError" "ValueError"
  fl_AtLeast_far : FldOk K "AtLeast" "far"
  fl_AtLeast_near : FldOk K "AtLeast" "near"
  fl_AtLeast_rank : FldOk K "AtLeast" "rank"
  fl_AtLeast_weight : FldOk K "AtLeast" "weight"
  fl_AtMost_far : FldOk K "AtMost" "far"
  fl_AtMost_near : FldOk K "AtMost" "near"
  fl_AtMost_rank : FldOk K "AtMost" "rank"
  fl_AtMost_weight : FldOk K "AtMost" "weight"
  fl_Edge_name : FldOk K "Edge" "name"
  fl_Edge_word : FldOk K "Edge" "word"
  fl_Just_far : FldOk K "Just" "far"
  fl_Just_near : FldOk K "Just" "near"
  fl_Just_rank : FldOk K "Just" "rank"
  fl_Just_weight : FldOk K "Just" "weight"
  fl_Minus_one : FldOk K "Minus" "one"
  fl_Minus_other : FldOk K "Minus" "other"
  fl_Number_number : FldOk K "Number" "number"
  fl_Plus_one : FldOk K "Plus" "one"
  fl_Plus_other : FldOk K "Plus" "other"
  fl_Times_inner : FldOk K "Times" "inner"
  fl_Times_number : FldOk K "Times" "number"
  is_AtLeast_Wish : IsiOk K mg "AtLeast" "Wish" true
  is_AtMost_Wish : IsiOk K mg "AtMost" "Wish" true
  is_Just_Wish : IsiOk K mg "Just" "Wish" true
  no_Wish : NonOk K mg "Wish"
  i_FrameError : IsC K mg [("FrameError" : Str), ("NoWish" : Str), ("Mixed" : Str), ("NoRank" : Str), ("NoName" : Str), ("NoPane" : Str)] [("FrameError" : Str), ("NoWish" : Str), ("Mixed" : Str), ("NoRank" : Str), ("NoName" : Str), ("NoPane" : Str)] "FrameError"
  i_NoName : IsC K mg [("FrameError" : Str), ("NoWish" : Str), ("Mixed" : Str), ("NoRank" : Str), ("NoName" : Str), ("NoPane" : Str)] [("NoName" : Str)] "NoName"
  i_NoPane : IsC K mg [("FrameError" : Str), ("NoWish" : Str), ("Mixed" : Str), ("NoRank" : Str), ("NoName" : Str), ("NoPane" : Str)] [("NoPane" : Str)] "NoPane"
  i_NoRank : IsC K mg [("FrameError" : Str), ("NoWish" : Str), ("Mixed" : Str), ("NoRank" : Str), ("NoName" : Str), ("NoPane" : Str)] [("NoRank" : Str)] "NoRank"
  i_NoWish : IsC K mg [("FrameError" : Str), ("NoWish" : Str), ("Mixed" : Str), ("NoRank" : Str), ("NoName" : Str), ("NoPane" : Str)] [("NoWish" : Str)] "NoWish"
variable {P : Program} {w : World} {K : PySem.W.Frag} {mg : Str → Option Value} {base : Heap}
def ph_l_cell_at : Phi (Int) := fun args Rp Xp => ∃ (script_ : List Int) (k_ : Int), args = [.dat script_, .dat k_] ∧ ok_l_cell_at script_ k_ ∧ Rp (m_l_cell_at script_ k_)
abbrev s_l_cell_at : Stmt := topS 26
theorem sc_l_cell_at : FnScope ["_law_script", "_law_k"] ["_law_script", "_law_k"] (defScope s_l_cell_at) := ⟨rfl, rfl, rfl, by decide +kernel, rfl, by decide +kernel, by decide +kernel⟩
theorem w_l_cell_at {f : Addr} {fd : FuncData} (F : Fun K "_law_cell_at" "_law_cell_at" s_l_cell_at f fd) (T : Top K mg) : FnOk P w K mg base (L2.CX P w) 1 f fd ["_law_script", "_law_k"] (spP K mg 2 ph_l_cell_at) := by
  refine fn_ok F sc_l_cell_at rfl ?_
  rintro args Rp Xp ⟨script_, k_, rfl, hok, hR⟩ hl cdv A outer s H E W hr tk
  change SX _ _ _ [Sl.dat script_, Sl.dat k_] _
  refine sx_ifr (k := (decide (k_ < (script_.length : Int)))) (et_lt (ex_var (i := 1) (x := k_) rfl) (ex_len T.b_len (ex_var (i := 0) (x := script_) rfl))) (fun hk2 => ?_) (fun hk2 => ?_)
  · replace hok := hok.1 hk2
    replace hR := cond_t (P := Rp) hk2 hR
    change SX _ _ _ [Sl.dat script_, Sl.dat k_] _
    obtain ⟨v1, hok⟩ := hok
    refine sx_ret (x := (List.getD script_ (Int.toNat k_) (0 : Int))) (ex_ixD (ex_var (i := 0) (x := script_) rfl) (ex_var (i := 1) (x := k_) rfl) v1) ?_
    exact hR
  · replace hok := hok.2 hk2
    replace hR := cond_f (P := Rp) hk2 hR
    change SX _ _ _ [Sl.dat script_, Sl.dat k_] _
    refine sx_ret (x := (0 : Int)) ex_int ?_
    exact hR
def ph_l_alone (K : PySem.W.Frag) (mg : Str → Option Value) : Addr × Obj → Phi (Bool) := fun p args Rp Xp => ∃ (e_ : Exn) (cls : Value) (d : Option Addr) (Hf : Hp), args = [.dat (ExV.mk p.1)] ∧ Zc cls d p.2 ∧ (∃ vs, p.2.data = .fields vs) ∧ ExAt mg K Hf e_ cls d ∧ ok_l_alone e_ ∧ Rp (m_l_alone e_)
abbrev s_l_alone : Stmt := topS 29
theorem sc_l_alone : FnScope ["_law_e"] ["_law_e"] (defScope s_l_alone) := ⟨rfl, rfl, rfl, by decide +kernel, rfl, by decide +kernel, by decide +kernel⟩
theorem w_l_alone {f : Addr} {fd : FuncData} (F : Fun K "_law_alone" "_law_alone" s_l_alone f fd) (T : Top K mg) : HotOk P w K mg base 1 f fd ["_law_e"] (spH K mg 1 (ph_l_alone K mg)) := by
  refine fn_okH F sc_l_alone rfl ?_
  rintro ⟨ad, oe⟩ args Rp Xp ⟨e_, cls, d, Hf, rfl, hz, hfd, xa, hok, hR⟩ hl cdv A outer s H E W hr
  change SX _ _ _ [Sl.dat (ExV.mk ad)] _
  obtain ⟨v1, v2, v4, v5, hok⟩ := hok
  refine sx_ifr (k := ((!(exnIn [("FrameError" : Str), ("NoWish" : Str), ("Mixed" : Str), ("NoRank" : Str), ("NoName" : Str), ("NoPane" : Str)] e_)) || (!(exnIn [("FrameError" : Str), ("NoWish" : Str), ("Mixed" : Str), ("NoRank" : Str), ("NoName" : Str), ("NoPane" : Str)] e_)))) (et_bool (ew_or (et_not (et_val (ex_isP (i := 0) T.i_FrameError T.b_isinstance v1 v2 hz hfd xa List.mem_cons_self rfl))) (fun hk3 => (ew_or1 (et_not (et_val (ex_isPB (i := 0) T.ib_ValueError T.b_isinstance (v4 hk3) (v5 hk3) hz hfd xa List.mem_cons_self rfl rfl))))))) (fun hk8 => ?_) (fun hk8 => ?_)
  · replace hok := hok.1 hk8
    replace hR := cond_t (P := Rp) hk8 hR
    change SX _ _ _ [Sl.dat (ExV.mk ad)] _
    refine sx_ret (x := false) ex_bl ?_
    exact hR
  · replace hok := hok.2 hk8
    replace hR := cond_f (P := Rp) hk8 hR
    change SX _ _ _ [Sl.dat (ExV.mk ad)] _
    obtain ⟨v6, v7, hok⟩ := hok
    refine sx_ret (x := (!([[("NoName" : Str)], [("NoPane" : Str)], [("NoRank" : Str)], [("NoWish" : Str)]].any fun s => exnIn s e_))) (ex_not (ex_isPn (i := 0) (.cons T.i_NoName (by rfl) (by decide) (.cons T.i_NoPane (by rfl) (by decide) (.cons T.i_NoRank (by rfl) (by decide) (.cons T.i_NoWish (by rfl) (by decide) .nil)))) T.b_isinstance v6 v7 hz hfd xa List.mem_cons_self rfl)) ?_
    exact hR
def ph_Trm_ways (d : Nat) (c : Str) : Phi (OL (Str)) := fun args Rp Xp => ∃ (t : Trm), args = [.dat t] ∧ Rec.cls t = c ∧ t.depth < d ∧ ok_Trm_ways t  ∧ (fun z => Rp (OL.mk z)) (m_Trm_ways t )
abbrev s_Term_ways : Stmt := inClass (topS 18) 1
theorem sc_Term_ways : FnScope ["self"] ["self"] (defScope s_Term_ways) := ⟨rfl, rfl, rfl, by decide +kernel, rfl, by decide +kernel, by decide +kernel⟩
theorem w_Term_ways {f : Addr} {fd : FuncData} (F : Fun K "ways" "Term.ways" s_Term_ways f fd) (T : Top K mg) (d : Nat) (ih_ways : ∀ t : Trm, t.depth < d → MthOk P w K mg base (Rec.cls t) "ways" (0 + d) ["self"] (spP K mg 1 (ph_Trm_ways d (Rec.cls t)))) (c : Str) (hc : c = "Number") : FnOk P w K mg base (L2.CX P w) (0 + d + 1) f fd ["self"] (spP K mg 1 (ph_Trm_ways (d + 1) c)) := by
  refine fn_ok F sc_Term_ways rfl ?_
  rintro args Rp Xp ⟨t, rfl, hcl, hd, hok, hR⟩ hl cdv A outer s H E W hr tk
  subst hcl
  cases t with
  | number number_ =>
    have hok : True := hok
    have hR : (fun z => Rp (OL.mk z)) ([] : List Str) := hR
    change SX _ _ _ [Sl.dat (Trm.number number_)] _
    exact sx_retE (x := OL.mk ([] : List Str)) (en_nil (α := Str)) hR
  | edge word_ name_ =>
    exact absurd hc (show ¬ (("Edge" : Str) = "Number") by decide)
  | times number_ inner_ =>
    exact absurd hc (show ¬ (("Times" : Str) = "Number") by decide)
  | plus one_ other_ =>
    exact absurd hc (show ¬ (("Plus" : Str) = "Number") by decide)
  | minus one_ other_ =>
    exact absurd hc (show ¬ (("Minus" : Str) = "Number") by decide)
abbrev s_Edge_ways : Stmt := inClass (topS 20) 2
theorem sc_Edge_ways : FnScope ["self"] ["self"] (defScope s_Edge_ways) := ⟨rfl, rfl, rfl, by decide +kernel, rfl, by decide +kernel, by decide +kernel⟩
theorem w_Edge_ways {f : Addr} {fd : FuncData} (F : Fun K "ways" "Edge.ways" s_Edge_ways f fd) (T : Top K mg) (d : Nat) (ih_ways : ∀ t : Trm, t.depth < d → MthOk P w K mg base (Rec.cls t) "ways" (0 + d) ["self"] (spP K mg 1 (ph_Trm_ways d (Rec.cls t)))) (c : Str) (hc : c = "Edge") : FnOk P w K mg base (L2.CX P w) (0 + d + 1) f fd ["self"] (spP K mg 1 (ph_Trm_ways (d + 1) c)) := by
  refine fn_ok F sc_Edge_ways rfl ?_
  rintro args Rp Xp ⟨t, rfl, hcl, hd, hok, hR⟩ hl cdv A outer s H E W hr tk
  subst hcl
  cases t with
  | number number_ =>
    exact absurd hc (show ¬ (("Number" : Str) = "Edge") by decide)
  | edge word_ name_ =>
    have hok : ((((TpS.mk [Str.ofString "top", Str.ofString "height", Str.ofString "bottom", Str.ofString "centre", Str.ofString "drop"]).l.any fun y => decide (y = word_)) = true → True) ∧ (((TpS.mk [Str.ofString "top", Str.ofString "height", Str.ofString "bottom", Str.ofString "centre", Str.ofString "drop"]).l.any fun y => decide (y = word_)) = false → True)) := hok
    have hR : (fun z => Rp (OL.mk z)) (cond ((TpS.mk [Str.ofString "top", Str.ofString "height", Str.ofString "bottom", Str.ofString "centre", Str.ofString "drop"]).l.any fun y => decide (y = word_)) [(Str.ofString "down")] [(Str.ofString "across")]) := hR
    change SX _ _ _ [Sl.dat (Trm.edge word_ name_)] _
    refine sx_ifr (k := ((TpS.mk [Str.ofString "top", Str.ofString "height", Str.ofString "bottom", Str.ofString "centre", Str.ofString "drop"]).l.any fun y => decide (y = word_))) (et_inT (ex_fld (x := (Trm.edge word_ name_)) (y := word_) (ex_var (i := 0) (x := (Trm.edge word_ name_)) rfl) T.fl_Edge_word rfl) (ex_gc T.g_DOWN)) (fun hk1 => ?_) (fun hk1 => ?_)
    · replace hok := hok.1 hk1
      replace hR := cond_t (P := (fun z => Rp (OL.mk z))) hk1 hR
      change SX _ _ _ [Sl.dat (Trm.edge word_ name_)] _
      exact sx_retE (x := OL.mk [(Str.ofString "down")]) (en_lst (xs := [(Str.ofString "down")]) (@ea_cons _ _ _ _ _ _ _ _ ex_str ea_nil (star_plain rfl _ _))) hR
    · replace hok := hok.2 hk1
      replace hR := cond_f (P := (fun z => Rp (OL.mk z))) hk1 hR
      change SX _ _ _ [Sl.dat (Trm.edge word_ name_)] _
      exact sx_retE (x := OL.mk [(Str.ofString "across")]) (en_lst (xs := [(Str.ofString "across")]) (@ea_cons _ _ _ _ _ _ _ _ ex_str ea_nil (star_plain rfl _ _))) hR
  | times number_ inner_ =>
    exact absurd hc (show ¬ (("Times" : Str) = "Edge") by decide)
  | plus one_ other_ =>
    exact absurd hc (show ¬ (("Plus" : Str) = "Edge") by decide)
  | minus one_ other_ =>
    exact absurd hc (show ¬ (("Minus" : Str) = "Edge") by decide)
abbrev s_Times_ways : Stmt := inClass (topS 21) 2
theorem sc_Times_ways : FnScope ["self"] ["self"] (defScope s_Times_ways) := ⟨rfl, rfl, rfl, by decide +kernel, rfl, by decide +kernel, by decide +kernel⟩
theorem w_Times_ways {f : Addr} {fd : FuncData} (F : Fun K "ways" "Times.ways" s_Times_ways f fd) (T : Top K mg) (d : Nat) (ih_ways : ∀ t : Trm, t.depth < d → MthOk P w K mg base (Rec.cls t) "ways" (0 + d) ["self"] (spP K mg 1 (ph_Trm_ways d (Rec.cls t)))) (c : Str) (hc : c = "Times") : FnOk P w K mg base (L2.CX P w) (0 + d + 1) f fd ["self"] (spP K mg 1 (ph_Trm_ways (d + 1) c)) := by
  refine fn_ok F sc_Times_ways rfl ?_
  rintro args Rp Xp ⟨t, rfl, hcl, hd, hok, hR⟩ hl cdv A outer s H E W hr tk
  subst hcl
  cases t with
  | number number_ =>
    exact absurd hc (show ¬ (("Number" : Str) = "Times") by decide)
  | edge word_ name_ =>
    exact absurd hc (show ¬ (("Edge" : Str) = "Times") by decide)
  | times number_ inner_ =>
    have hok : ok_Trm_ways inner_ ∧ True := hok
    have hR : (fun z => Rp (OL.mk z)) (m_Trm_ways inner_) := hR
    change SX _ _ _ [Sl.dat (Trm.times number_ inner_)] _
    obtain ⟨v1, hok⟩ := hok
    exact sx_retE (x := OL.mk (m_Trm_ways inner_)) (en_mth0 (ex_fld (x := (Trm.times number_ inner_)) (y := inner_) (ex_var (i := 0) (x := (Trm.times number_ inner_)) rfl) T.fl_Times_inner rfl) (ih_ways inner_ (by have h_ := hd; simp only [Trm.depth] at h_; omega)) (hr.mono (by omega)) (Trm.no (by decide) inner_) ⟨inner_, rfl, rfl, (by have h_ := hd; simp only [Trm.depth] at h_; omega), v1, rfl⟩) hR
  | plus one_ other_ =>
    exact absurd hc (show ¬ (("Plus" : Str) = "Times") by decide)
  | minus one_ other_ =>
    exact absurd hc (show ¬ (("Minus" : Str) = "Times") by decide)
abbrev s_Pair_ways : Stmt := inClass (topS 22) 1
theorem sc_Pair_ways : FnScope ["self"] ["self"] (defScope s_Pair_ways) := ⟨rfl, rfl, rfl, by decide +kernel, rfl, by decide +kernel, by decide +kernel⟩
theorem w_Pair_ways {f : Addr} {fd : FuncData} (F : Fun K "ways" "Pair.ways" s_Pair_ways f fd) (T : Top K mg) (d : Nat) (ih_ways : ∀ t : Trm, t.depth < d → MthOk P w K mg base (Rec.cls t) "ways" (0 + d) ["self"] (spP K mg 1 (ph_Trm_ways d (Rec.cls t)))) (c : Str) (hc : c = "Plus" ∨ c = "Minus") : FnOk P w K mg base (L2.CX P w) (0 + d + 1) f fd ["self"] (spP K mg 1 (ph_Trm_ways (d + 1) c)) := by
  refine fn_ok F sc_Pair_ways rfl ?_
  rintro args Rp Xp ⟨t, rfl, hcl, hd, hok, hR⟩ hl cdv A outer s H E W hr tk
  subst hcl
  cases t with
  | number number_ =>
    rcases hc with h | h
    · exact absurd h (show ¬ (("Number" : Str) = "Plus") by decide)
    · exact absurd h (show ¬ (("Number" : Str) = "Minus") by decide)
  | edge word_ name_ =>
    rcases hc with h | h
    · exact absurd h (show ¬ (("Edge" : Str) = "Plus") by decide)
    · exact absurd h (show ¬ (("Edge" : Str) = "Minus") by decide)
  | times number_ inner_ =>
    rcases hc with h | h
    · exact absurd h (show ¬ (("Times" : Str) = "Plus") by decide)
    · exact absurd h (show ¬ (("Times" : Str) = "Minus") by decide)
  | plus one_ other_ =>
    have hok : ok_Trm_ways one_ ∧ ok_Trm_ways other_ ∧ (m_Trm_ways one_).length ≤ 2 ∧ (m_Trm_ways other_).length ≤ 2 ∧ True := hok
    have hR : (fun z => Rp (OL.mk z)) (sortU2 (m_Trm_ways one_) (m_Trm_ways other_)) := hR
    change SX _ _ _ [Sl.dat (Trm.plus one_ other_)] _
    obtain ⟨v1, v2, v3, v4, hok⟩ := hok
    exact sx_retE (x := OL.mk (sortU2 (m_Trm_ways one_) (m_Trm_ways other_))) (en_sortOr rfl T.b_sorted T.b_set (ex_newL (en_mth0 (ex_fld (x := (Trm.plus one_ other_)) (y := one_) (ex_var (i := 0) (x := (Trm.plus one_ other_)) rfl) T.fl_Plus_one rfl) (ih_ways one_ (by have h_ := hd; simp only [Trm.depth] at h_; omega)) (hr.mono (by omega)) (Trm.no (by decide) one_) ⟨one_, rfl, rfl, (by have h_ := hd; simp only [Trm.depth] at h_; omega), v1, rfl⟩)) (ex_newL (en_mth0 (ex_fld (x := (Trm.plus one_ other_)) (y := other_) (ex_var (i := 0) (x := (Trm.plus one_ other_)) rfl) T.fl_Plus_other rfl) (ih_ways other_ (by have h_ := hd; simp only [Trm.depth] at h_; omega)) (hr.mono (by omega)) (Trm.no (by decide) other_) ⟨other_, rfl, rfl, (by have h_ := hd; simp only [Trm.depth] at h_; omega), v2, rfl⟩)) v3 v4) hR
  | minus one_ other_ =>
    have hok : ok_Trm_ways one_ ∧ ok_Trm_ways other_ ∧ (m_Trm_ways one_).length ≤ 2 ∧ (m_Trm_ways other_).length ≤ 2 ∧ True := hok
    have hR : (fun z => Rp (OL.mk z)) (sortU2 (m_Trm_ways one_) (m_Trm_ways other_)) := hR
    change SX _ _ _ [Sl.dat (Trm.minus one_ other_)] _
    obtain ⟨v1, v2, v3, v4, hok⟩ := hok
    exact sx_retE (x := OL.mk (sortU2 (m_Trm_ways one_) (m_Trm_ways other_))) (en_sortOr rfl T.b_sorted T.b_set (ex_newL (en_mth0 (ex_fld (x := (Trm.minus one_ other_)) (y := one_) (ex_var (i := 0) (x := (Trm.minus one_ other_)) rfl) T.fl_Minus_one rfl) (ih_ways one_ (by have h_ := hd; simp only [Trm.depth] at h_; omega)) (hr.mono (by omega)) (Trm.no (by decide) one_) ⟨one_, rfl, rfl, (by have h_ := hd; simp only [Trm.depth] at h_; omega), v1, rfl⟩)) (ex_newL (en_mth0 (ex_fld (x := (Trm.minus one_ other_)) (y := other_) (ex_var (i := 0) (x := (Trm.minus one_ other_)) rfl) T.fl_Minus_other rfl) (ih_ways other_ (by have h_ := hd; simp only [Trm.depth] at h_; omega)) (hr.mono (by omega)) (Trm.no (by decide) other_) ⟨other_, rfl, rfl, (by have h_ := hd; simp only [Trm.depth] at h_; omega), v2, rfl⟩)) v3 v4) hR
def ph_Number___init__ : PhiI := fun args R Xp => ∃ (q_self : V) (x : Trm) (number_ : Rat), (x = Trm.number number_) ∧ args = [.own (At.mk q_self (OI.mk 0 x)), .dat number_] ∧ ok_Number___init__ number_ ∧ (∀ e : Env', e[0]? = some (.own (At.mk q_self (OI.mk 1 x))) → R e)
abbrev s_Number___init__ : Stmt := inClass (topS 19) 0
theorem sc_Number___init__ : FnScope ["self", "number"] ["self", "number"] (defScope s_Number___init__) := ⟨rfl, rfl, rfl, by decide +kernel, rfl, by decide +kernel, by decide +kernel⟩
theorem w_Number___init__ {f : Addr} {fd : FuncData} (F : Fun K "__init__" "Number.__init__" s_Number___init__ f fd) (T : Top K mg) : FnOk P w K mg base (L2.CX P w) 1 f fd ["self", "number"] (spI K mg 2 ph_Number___init__) := by
  refine fn_okI F sc_Number___init__ rfl ?_
  rintro args R Xp ⟨q_self, x, number_, hx, rfl, hok, hR⟩ hl cdv A outer s H E W hr tk
  rcases hx with rfl
  · change SX _ _ _ [Sl.own (At.mk q_self (OI.mk 0 (Trm.number number_))), Sl.dat number_] _
    refine sx_fset (i := 0) (n := 0) rfl (ex_var (i := 1) (x := number_) rfl) T.fl_Number_number rfl rfl (by decide) ?_
    change SX _ _ _ [Sl.own (At.mk q_self (OI.mk 1 (Trm.number number_))), Sl.dat number_] _
    have hR : ∀ e : Env', e[0]? = some (.own (At.mk q_self (OI.mk 1 (Trm.number number_)))) → R e := hR
    exact sx_nil (hR _ rfl)
def ph_Edge___init__ : PhiI := fun args R Xp => ∃ (q_self : V) (x : Trm) (word_ : Str) (name_ : Str), (x = Trm.edge word_ name_) ∧ args = [.own (At.mk q_self (OI.mk 0 x)), .dat word_, .dat name_] ∧ ok_Edge___init__ word_ name_ ∧ (∀ e : Env', e[0]? = some (.own (At.mk q_self (OI.mk 2 x))) → R e)
abbrev s_Edge___init__ : Stmt := inClass (topS 20) 0
theorem sc_Edge___init__ : FnScope ["self", "word", "name"] ["self", "word", "name"] (defScope s_Edge___init__) := ⟨rfl, rfl, rfl, by decide +kernel, rfl, by decide +kernel, by decide +kernel⟩
theorem w_Edge___init__ {f : Addr} {fd : FuncData} (F : Fun K "__init__" "Edge.__init__" s_Edge___init__ f fd) (T : Top K mg) : FnOk P w K mg base (L2.CX P w) 1 f fd ["self", "word", "name"] (spI K mg 3 ph_Edge___init__) := by
  refine fn_okI F sc_Edge___init__ rfl ?_
  rintro args R Xp ⟨q_self, x, word_, name_, hx, rfl, hok, hR⟩ hl cdv A outer s H E W hr tk
  rcases hx with rfl
  · change SX _ _ _ [Sl.own (At.mk q_self (OI.mk 0 (Trm.edge word_ name_))), Sl.dat word_, Sl.dat name_] _
    refine sx_fset (i := 0) (n := 0) rfl (ex_var (i := 1) (x := word_) rfl) T.fl_Edge_word rfl rfl (by decide) ?_
    change SX _ _ _ [Sl.own (At.mk q_self (OI.mk 1 (Trm.edge word_ name_))), Sl.dat word_, Sl.dat name_] _
    refine sx_fset (i := 0) (n := 1) rfl (ex_var (i := 2) (x := name_) rfl) T.fl_Edge_name rfl rfl (by decide) ?_
    change SX _ _ _ [Sl.own (At.mk q_self (OI.mk 2 (Trm.edge word_ name_))), Sl.dat word_, Sl.dat name_] _
    have hR : ∀ e : Env', e[0]? = some (.own (At.mk q_self (OI.mk 2 (Trm.edge word_ name_)))) → R e := hR
    exact sx_nil (hR _ rfl)
def ph_Times___init__ : PhiI := fun args R Xp => ∃ (q_self : V) (x : Trm) (number_ : Rat) (inner_ : Trm), (x = Trm.times number_ inner_) ∧ args = [.own (At.mk q_self (OI.mk 0 x)), .dat number_, .dat inner_] ∧ ok_Times___init__ number_ inner_ ∧ (∀ e : Env', e[0]? = some (.own (At.mk q_self (OI.mk 2 x))) → R e)
abbrev s_Times___init__ : Stmt := inClass (topS 21) 0
theorem sc_Times___init__ : FnScope ["self", "number", "inner"] ["self", "number", "inner"] (defScope s_Times___init__) := ⟨rfl, rfl, rfl, by decide +kernel, rfl, by decide +kernel, by decide +kernel⟩
theorem w_Times___init__ {f : Addr} {fd : FuncData} (F : Fun K "__init__" "Times.__init__" s_Times___init__ f fd) (T : Top K mg) : FnOk P w K mg base (L2.CX P w) 1 f fd ["self", "number", "inner"] (spI K mg 3 ph_Times___init__) := by
  refine fn_okI F sc_Times___init__ rfl ?_
  rintro args R Xp ⟨q_self, x, number_, inner_, hx, rfl, hok, hR⟩ hl cdv A outer s H E W hr tk
  rcases hx with rfl
  · change SX _ _ _ [Sl.own (At.mk q_self (OI.mk 0 (Trm.times number_ inner_))), Sl.dat number_, Sl.dat inner_] _
    refine sx_fset (i := 0) (n := 0) rfl (ex_var (i := 1) (x := number_) rfl) T.fl_Times_number rfl rfl (by decide) ?_
    change SX _ _ _ [Sl.own (At.mk q_self (OI.mk 1 (Trm.times number_ inner_))), Sl.dat number_, Sl.dat inner_] _
    refine sx_fset (i := 0) (n := 1) rfl (ex_var (i := 2) (x := inner_) rfl) T.fl_Times_inner rfl rfl (by decide) ?_
    change SX _ _ _ [Sl.own (At.mk q_self (OI.mk 2 (Trm.times number_ inner_))), Sl.dat number_, Sl.dat inner_] _
    have hR : ∀ e : Env', e[0]? = some (.own (At.mk q_self (OI.mk 2 (Trm.times number_ inner_)))) → R e := hR
    exact sx_nil (hR _ rfl)
def ph_Pair___init__ : PhiI := fun args R Xp => ∃ (q_self : V) (x : Trm) (one_ : Trm) (other_ : Trm), (x = Trm.plus one_ other_ ∨ x = Trm.minus one_ other_) ∧ args = [.own (At.mk q_self (OI.mk 0 x)), .dat one_, .dat other_] ∧ ok_Pair___init__ one_ other_ ∧ (∀ e : Env', e[0]? = some (.own (At.mk q_self (OI.mk 2 x))) → R e)
abbrev s_Pair___init__ : Stmt := inClass (topS 22) 0
theorem sc_Pair___init__ : FnScope ["self", "one", "other"] ["self", "one", "other"] (defScope s_Pair___init__) := ⟨rfl, rfl, rfl, by decide +kernel, rfl, by decide +kernel, by decide +kernel⟩
theorem w_Pair___init__ {f : Addr} {fd : FuncData} (F : Fun K "__init__" "Pair.__init__" s_Pair___init__ f fd) (T : Top K mg) : FnOk P w K mg base (L2.CX P w) 1 f fd ["self", "one", "other"] (spI K mg 3 ph_Pair___init__) := by
  refine fn_okI F sc_Pair___init__ rfl ?_
  rintro args R Xp ⟨q_self, x, one_, other_, hx, rfl, hok, hR⟩ hl cdv A outer s H E W hr tk
  rcases hx with rfl | rfl
  · change SX _ _ _ [Sl.own (At.mk q_self (OI.mk 0 (Trm.plus one_ other_))), Sl.dat one_, Sl.dat other_] _
    refine sx_fset (i := 0) (n := 0) rfl (ex_var (i := 1) (x := one_) rfl) T.fl_Plus_one rfl rfl (by decide) ?_
    change SX _ _ _ [Sl.own (At.mk q_self (OI.mk 1 (Trm.plus one_ other_))), Sl.dat one_, Sl.dat other_] _
    refine sx_fset (i := 0) (n := 1) rfl (ex_var (i := 2) (x := other_) rfl) T.fl_Plus_other rfl rfl (by decide) ?_
    change SX _ _ _ [Sl.own (At.mk q_self (OI.mk 2 (Trm.plus one_ other_))), Sl.dat one_, Sl.dat other_] _
    have hR : ∀ e : Env', e[0]? = some (.own (At.mk q_self (OI.mk 2 (Trm.plus one_ other_)))) → R e := hR
    exact sx_nil (hR _ rfl)
  · change SX _ _ _ [Sl.own (At.mk q_self (OI.mk 0 (Trm.minus one_ other_))), Sl.dat one_, Sl.dat other_] _
    refine sx_fset (i := 0) (n := 0) rfl (ex_var (i := 1) (x := one_) rfl) T.fl_Minus_one rfl rfl (by decide) ?_
    change SX _ _ _ [Sl.own (At.mk q_self (OI.mk 1 (Trm.minus one_ other_))), Sl.dat one_, Sl.dat other_] _
    refine sx_fset (i := 0) (n := 1) rfl (ex_var (i := 2) (x := other_) rfl) T.fl_Minus_other rfl rfl (by decide) ?_
    change SX _ _ _ [Sl.own (At.mk q_self (OI.mk 2 (Trm.minus one_ other_))), Sl.dat one_, Sl.dat other_] _
    have hR : ∀ e : Env', e[0]? = some (.own (At.mk q_self (OI.mk 2 (Trm.minus one_ other_)))) → R e := hR
    exact sx_nil (hR _ rfl)
def ph_l_leaf : Phi ((Trm × Str)) := fun args Rp Xp => ∃ (cell_ : Int) (way_ : Int), args = [.dat cell_, .dat way_] ∧ ok_l_leaf cell_ way_ ∧ Rp (m_l_leaf cell_ way_)
abbrev s_l_leaf : Stmt := topS 27
theorem sc_l_leaf : FnScope ["_law_cell", "_law_way", "_law_words", "_law_word"] ["_law_cell", "_law_way"] (defScope s_l_leaf) := ⟨rfl, rfl, rfl, by decide +kernel, rfl, by decide +kernel, by decide +kernel⟩
theorem w_l_leaf {f : Addr} {fd : FuncData} (F : Fun K "_law_leaf" "_law_leaf" s_l_leaf f fd) (T : Top K mg) (k_Edge : MkOk P w K mg base "Edge" 1 ["self", "word", "name"] (spI K mg 3 ph_Edge___init__)) (k_Number : MkOk P w K mg base "Number" 1 ["self", "number"] (spI K mg 2 ph_Number___init__)) : FnOk P w K mg base (L2.CX P w) 3 f fd ["_law_cell", "_law_way"] (spP K mg 2 ph_l_leaf) := by
  refine fn_ok F sc_l_leaf rfl ?_
  rintro args Rp Xp ⟨cell_, way_, rfl, hok, hR⟩ hl cdv A outer s H E W hr tk
  change SX _ _ _ [Sl.dat cell_, Sl.dat way_, _, _] _
  let words_1 : List (List Str) := [[(Str.ofString "left"), (Str.ofString "width"), (Str.ofString "right"), (Str.ofString "middle"), (Str.ofString "gap")], [(Str.ofString "top"), (Str.ofString "height"), (Str.ofString "bottom"), (Str.ofString "centre"), (Str.ofString "drop")]]
  refine sx_set (i := 2) sc_l_leaf.nd (x := words_1) (ex_newL (en_lst (xs := [[(Str.ofString "left"), (Str.ofString "width"), (Str.ofString "right"), (Str.ofString "middle"), (Str.ofString "gap")], [(Str.ofString "top"), (Str.ofString "height"), (Str.ofString "bottom"), (Str.ofString "centre"), (Str.ofString "drop")]]) (@ea_cons _ _ _ _ _ _ _ _ (ex_newL (en_lst (xs := [(Str.ofString "left"), (Str.ofString "width"), (Str.ofString "right"), (Str.ofString "middle"), (Str.ofString "gap")]) (@ea_cons _ _ _ _ _ _ _ _ ex_str (@ea_cons _ _ _ _ _ _ _ _ ex_str (@ea_cons _ _ _ _ _ _ _ _ ex_str (@ea_cons _ _ _ _ _ _ _ _ ex_str (@ea_cons _ _ _ _ _ _ _ _ ex_str ea_nil (star_plain rfl _ _)) (star_plain rfl _ _)) (star_plain rfl _ _)) (star_plain rfl _ _)) (star_plain rfl _ _)))) (@ea_cons _ _ _ _ _ _ _ _ (ex_newL (en_lst (xs := [(Str.ofString "top"), (Str.ofString "height"), (Str.ofString "bottom"), (Str.ofString "centre"), (Str.ofString "drop")]) (@ea_cons _ _ _ _ _ _ _ _ ex_str (@ea_cons _ _ _ _ _ _ _ _ ex_str (@ea_cons _ _ _ _ _ _ _ _ ex_str (@ea_cons _ _ _ _ _ _ _ _ ex_str (@ea_cons _ _ _ _ _ _ _ _ ex_str ea_nil (star_plain rfl _ _)) (star_plain rfl _ _)) (star_plain rfl _ _)) (star_plain rfl _ _)) (star_plain rfl _ _)))) ea_nil (star_plain rfl _ _)) (star_plain rfl _ _)))) ?_
  change SX _ _ _ [Sl.dat cell_, Sl.dat way_, Sl.dat words_1, _] _
  refine sx_ifr (k := ((decide (way_ = (2 : Int))) || (decide ((cell_ % (4 : Int)) = (0 : Int))))) (et_bool (ew_or (et_eq (ex_var (i := 1) (x := way_) rfl) ex_int) (fun hk2 => (ew_or1 (et_eq (ex_mod (ex_var (i := 0) (x := cell_) rfl) ex_int (by decide)) ex_int))))) (fun hk8 => ?_) (fun hk8 => ?_)
  · replace hok := hok.1 hk8
    replace hR := cond_t (P := Rp) hk8 hR
    change SX _ _ _ [Sl.dat cell_, Sl.dat way_, Sl.dat words_1, _] _
    obtain ⟨v3, hok⟩ := hok
    refine sx_ret (x := ((Trm.number (Rat.divInt (((cell_ / (4 : Int)) % (1000 : Int))) ((1 : Int)))), (Str.ofString ""))) (ex_tup (p := ((Trm.number (Rat.divInt (((cell_ / (4 : Int)) % (1000 : Int))) ((1 : Int)))), (Str.ofString ""))) (@ea_cons _ _ _ _ _ _ _ _ (ex_make (c := "Number") (x := (Trm.number (Rat.divInt (((cell_ / (4 : Int)) % (1000 : Int))) ((1 : Int))))) k_Number (hr.mono (by decide)) (@ea_cons _ _ _ _ _ _ _ _ (ex_isQ (ex_tup (p := (((cell_ / (4 : Int)) % (1000 : Int)), (1 : Int))) (@ea_cons _ _ _ _ _ _ _ _ (ex_mod (ex_fdiv (ex_var (i := 0) (x := cell_) rfl) ex_int ⟨by decide, by decide⟩) ex_int (by decide)) (@ea_cons _ _ _ _ _ _ _ _ ex_int ea_nil (star_plain rfl _ _)) (star_plain rfl _ _))) v3) ea_nil (star_plain rfl _ _)) rfl rfl (fun v => ⟨v, (Trm.number (Rat.divInt (((cell_ / (4 : Int)) % (1000 : Int))) ((1 : Int)))), (Rat.divInt (((cell_ / (4 : Int)) % (1000 : Int))) ((1 : Int))), rfl, rfl, (okt_Number___init__ (Rat.divInt (((cell_ / (4 : Int)) % (1000 : Int))) ((1 : Int)))), fun e h => h⟩)) (@ea_cons _ _ _ _ _ _ _ _ ex_str ea_nil (star_plain rfl _ _)) (star_plain rfl _ _))) ?_
    exact hR
  · replace hok := hok.2 hk8
    replace hR := cond_f (P := Rp) hk8 hR
    change SX _ _ _ [Sl.dat cell_, Sl.dat way_, Sl.dat words_1, _] _
    obtain ⟨v5, v6, hok⟩ := hok
    let word_4 : Str := (List.getD (List.getD words_1 (Int.toNat way_) []) (Int.toNat ((cell_ / (4 : Int)) % (5 : Int))) (Str.ofString ""))
    refine sx_set (i := 3) sc_l_leaf.nd (x := word_4) (ex_ixD (ex_ixD (ex_var (i := 2) (x := words_1) rfl) (ex_var (i := 1) (x := way_) rfl) v5) (ex_mod (ex_fdiv (ex_var (i := 0) (x := cell_) rfl) ex_int ⟨by decide, by decide⟩) ex_int (by decide)) v6) ?_
    change SX _ _ _ [Sl.dat cell_, Sl.dat way_, Sl.dat words_1, Sl.dat word_4] _
    obtain ⟨v7, hok⟩ := hok
    refine sx_ret (x := ((Trm.edge word_4 (List.getD [(Str.ofString "a"), (Str.ofString "bb"), (Str.ofString "q")] (Int.toNat ((cell_ / (20 : Int)) % (3 : Int))) (Str.ofString ""))), word_4)) (ex_tup (p := ((Trm.edge word_4 (List.getD [(Str.ofString "a"), (Str.ofString "bb"), (Str.ofString "q")] (Int.toNat ((cell_ / (20 : Int)) % (3 : Int))) (Str.ofString ""))), word_4)) (@ea_cons _ _ _ _ _ _ _ _ (ex_make (c := "Edge") (x := (Trm.edge word_4 (List.getD [(Str.ofString "a"), (Str.ofString "bb"), (Str.ofString "q")] (Int.toNat ((cell_ / (20 : Int)) % (3 : Int))) (Str.ofString "")))) k_Edge (hr.mono (by decide)) (@ea_cons _ _ _ _ _ _ _ _ (ex_var (i := 3) (x := word_4) rfl) (@ea_cons _ _ _ _ _ _ _ _ (ex_ixD (ex_newL (en_lst (xs := [(Str.ofString "a"), (Str.ofString "bb"), (Str.ofString "q")]) (@ea_cons _ _ _ _ _ _ _ _ ex_str (@ea_cons _ _ _ _ _ _ _ _ ex_str (@ea_cons _ _ _ _ _ _ _ _ ex_str ea_nil (star_plain rfl _ _)) (star_plain rfl _ _)) (star_plain rfl _ _)))) (ex_mod (ex_fdiv (ex_var (i := 0) (x := cell_) rfl) ex_int ⟨by decide, by decide⟩) ex_int (by decide)) v7) ea_nil (star_plain rfl _ _)) (star_plain rfl _ _)) rfl rfl (fun v => ⟨v, (Trm.edge word_4 (List.getD [(Str.ofString "a"), (Str.ofString "bb"), (Str.ofString "q")] (Int.toNat ((cell_ / (20 : Int)) % (3 : Int))) (Str.ofString ""))), word_4, (List.getD [(Str.ofString "a"), (Str.ofString "bb"), (Str.ofString "q")] (Int.toNat ((cell_ / (20 : Int)) % (3 : Int))) (Str.ofString "")), rfl, rfl, (okt_Edge___init__ word_4 (List.getD [(Str.ofString "a"), (Str.ofString "bb"), (Str.ofString "q")] (Int.toNat ((cell_ / (20 : Int)) % (3 : Int))) (Str.ofString ""))), fun e h => h⟩)) (@ea_cons _ _ _ _ _ _ _ _ (ex_var (i := 3) (x := word_4) rfl) ea_nil (star_plain rfl _ _)) (star_plain rfl _ _))) ?_
    exact hR
def ph_l_term : Phi ((Trm × List Str)) := fun args Rp Xp => ∃ (cells_ : List Int) (way_ : Int) (odd_ : Int), args = [.dat cells_, .dat way_, .dat odd_] ∧ ok_l_term cells_ way_ odd_ ∧ Rp (m_l_term cells_ way_ odd_)
abbrev s_l_term : Stmt := topS 28
theorem sc_l_term : FnScope ["_law_cells", "_law_way", "_law_odd", "_law_term_here", "_law_words", "_law_k", "_law_cell", "_law_turn", "_law_leaf_here", "_law_word"] ["_law_cells", "_law_way", "_law_odd"] (defScope s_l_term) := ⟨rfl, rfl, rfl, by decide +kernel, rfl, by decide +kernel, by decide +kernel⟩
theorem w_l_term {f : Addr} {fd : FuncData} (F : Fun K "_law_term" "_law_term" s_l_term f fd) (T : Top K mg) (d_l_leaf : DefOk P w K mg base "_law_leaf" 3 ["_law_cell", "_law_way"] [] (spP K mg 2 ph_l_leaf)) (k_Minus : MkOk P w K mg base "Minus" 1 ["self", "one", "other"] (spI K mg 3 ph_Pair___init__)) (k_Number : MkOk P w K mg base "Number" 1 ["self", "number"] (spI K mg 2 ph_Number___init__)) (k_Plus : MkOk P w K mg base "Plus" 1 ["self", "one", "other"] (spI K mg 3 ph_Pair___init__)) (k_Times : MkOk P w K mg base "Times" 1 ["self", "number", "inner"] (spI K mg 3 ph_Times___init__)) : FnOk P w K mg base (L2.CX P w) 4 f fd ["_law_cells", "_law_way", "_law_odd"] (spP K mg 3 ph_l_term) := by
  refine fn_ok F sc_l_term rfl ?_
  rintro args Rp Xp ⟨cells_, way_, odd_, rfl, hok, hR⟩ hl cdv A outer s H E W hr tk
  change SX _ _ _ [Sl.dat cells_, Sl.dat way_, Sl.dat odd_, _, _, _, _, _, _, _] _
  let term_here_1 : Trm := (Trm.number (3 : Rat))
  refine sx_set (i := 3) sc_l_term.nd (x := term_here_1) (ex_make (c := "Number") (x := (Trm.number (3 : Rat))) k_Number (hr.mono (by decide)) (@ea_cons _ _ _ _ _ _ _ _ (ex_rat (q := (3 : Rat)) (ex_tup (p := ((3 : Int), (1 : Int))) (@ea_cons _ _ _ _ _ _ _ _ ex_int (@ea_cons _ _ _ _ _ _ _ _ ex_int ea_nil (star_plain rfl _ _)) (star_plain rfl _ _))) (by decide) (by decide)) ea_nil (star_plain rfl _ _)) rfl rfl (fun v => ⟨v, (Trm.number (3 : Rat)), (3 : Rat), rfl, rfl, (okt_Number___init__ (3 : Rat)), fun e h => h⟩)) ?_
  change SX _ _ _ [Sl.dat cells_, Sl.dat way_, Sl.dat odd_, Sl.dat term_here_1, _, _, _, _, _, _] _
  let words_2 : List Str := ([] : List Str)
  refine sx_new (i := 4) (x := OL.mk words_2) sc_l_term.nd (en_nil (α := Str)) ?_
  change SX _ _ _ [Sl.dat cells_, Sl.dat way_, Sl.dat odd_, Sl.dat term_here_1, Sl.own (OL.mk words_2), _, _, _, _, _] _
  obtain ⟨hokL, hok'⟩ := hok
  refine sx_forF' (fun (s : (List Str × Trm)) (e : Env') => (List.set (List.set e 4 (.own (OL.mk s.1))) 3 (.dat s.2))) (st_l_term_3 way_ odd_) (okb_l_term_3 way_ odd_) (words_2, term_here_1) rfl (passes_of rfl) (ix_enum T.b_enumerate (ex_var (i := 0) (x := cells_) rfl)) (by repeat' (first | exact trivial | refine ⟨.inr rfl, ?_⟩ | refine ⟨.inl rfl, ?_⟩)) hokL (fun x5 s4 hok => ?_) ?_
  · let words_6 : List Str := s4.1
    let term_here_7 : Trm := s4.2
    let k_8 : Int := x5.1
    let cell_9 : Int := x5.2
    refine ⟨_, (gx_tup (p := x5) rfl (gxs_cons (gx_name (i := 5) (x := k_8) sc_l_term.nd) (gxs_cons (gx_name (i := 6) (x := cell_9) sc_l_term.nd) gxs_nil))), ?_⟩
    change SX _ _ _ [Sl.dat cells_, Sl.dat way_, Sl.dat odd_, Sl.dat term_here_7, Sl.own (OL.mk words_6), Sl.dat k_8, Sl.dat cell_9, _, _, _] _
    let turn_12 : Int := way_
    refine sx_set (i := 7) sc_l_term.nd (x := turn_12) (ex_var (i := 1) (x := way_) rfl) ?_
    change SX _ _ _ [Sl.dat cells_, Sl.dat way_, Sl.dat odd_, Sl.dat term_here_7, Sl.own (OL.mk words_6), Sl.dat k_8, Sl.dat cell_9, Sl.dat turn_12, _, _] _
    obtain ⟨hok1, hok2, hok⟩ := hok
    refine sx_ifj' (k := ((decide (k_8 = odd_)) && (decide (way_ < (2 : Int))))) (fun (s : Int) (e : Env') => (List.set e 7 (.dat s))) ((let turn_14 : Int := ((1 : Int) - way_); turn_14) : Int) (turn_12 : Int) (et_bool (ew_and (et_eq (ex_var (i := 5) (x := k_8) rfl) (ex_var (i := 2) (x := odd_) rfl)) (fun hk13 => (ew_and1 (et_lt (ex_var (i := 1) (x := way_) rfl) ex_int))))) (fun hk15 => ?_) (fun hk15 => ?_) ?_
    · replace hok := hok1 hk15
      change SX _ _ _ [Sl.dat cells_, Sl.dat way_, Sl.dat odd_, Sl.dat term_here_7, Sl.own (OL.mk words_6), Sl.dat k_8, Sl.dat cell_9, Sl.dat turn_12, _, _] _
      let turn_14 : Int := ((1 : Int) - way_)
      refine sx_set (i := 7) sc_l_term.nd (x := turn_14) (ex_sub ex_int (ex_var (i := 1) (x := way_) rfl)) ?_
      change SX _ _ _ [Sl.dat cells_, Sl.dat way_, Sl.dat odd_, Sl.dat term_here_7, Sl.own (OL.mk words_6), Sl.dat k_8, Sl.dat cell_9, Sl.dat turn_14, _, _] _
      exact sx_nil (by repeat' (first | exact trivial | refine ⟨.inr rfl, ?_⟩ | refine ⟨.inl rfl, ?_⟩))
    · replace hok := hok2 hk15
      change SX _ _ _ [Sl.dat cells_, Sl.dat way_, Sl.dat odd_, Sl.dat term_here_7, Sl.own (OL.mk words_6), Sl.dat k_8, Sl.dat cell_9, Sl.dat turn_12, _, _] _
      exact sx_nil (by repeat' (first | exact trivial | refine ⟨.inr rfl, ?_⟩ | refine ⟨.inl rfl, ?_⟩))
    let j16 : Int := cond ((decide (k_8 = odd_)) && (decide (way_ < (2 : Int)))) (let turn_14 : Int := ((1 : Int) - way_); turn_14) turn_12
    let turn_17 : Int := j16
    change SX _ _ _ [Sl.dat cells_, Sl.dat way_, Sl.dat odd_, Sl.dat term_here_7, Sl.own (OL.mk words_6), Sl.dat k_8, Sl.dat cell_9, Sl.dat turn_17, _, _] _
    obtain ⟨v18, hok⟩ := hok
    let p19 : (Trm × Str) := (m_l_leaf (cell_9 / (4 : Int)) turn_17)
    let leaf_here_20 : Trm := p19.1
    let word_21 : Str := p19.2
    refine sx_asg (x := p19) (ex_call (n := "_law_leaf") d_l_leaf (hr.mono (by decide)) (@ea_cons _ _ _ _ _ _ _ _ (ex_fdiv (ex_var (i := 6) (x := cell_9) rfl) ex_int ⟨by decide, by decide⟩) (@ea_cons _ _ _ _ _ _ _ _ (ex_var (i := 7) (x := turn_17) rfl) ea_nil (star_plain rfl _ _)) (star_plain rfl _ _)) ⟨(cell_9 / (4 : Int)), turn_17, rfl, v18, rfl⟩ (dvs := []) (dxs := []) (fun _ => trivial)) (gx_tup (p := p19) rfl (gxs_cons (gx_name (i := 8) (x := leaf_here_20) sc_l_term.nd) (gxs_cons (gx_name (i := 9) (x := word_21) sc_l_term.nd) gxs_nil))) ?_
    change SX _ _ _ [Sl.dat cells_, Sl.dat way_, Sl.dat odd_, Sl.dat term_here_7, Sl.own (OL.mk words_6), Sl.dat k_8, Sl.dat cell_9, Sl.dat turn_17, Sl.dat leaf_here_20, Sl.dat word_21] _
    obtain ⟨hok1, hok2, hok⟩ := hok
    refine sx_ifj' (k := (!decide (word_21 = (Str.ofString "")))) (fun (s : List Str) (e : Env') => (List.set e 4 (.own (OL.mk s)))) ((let words_22 : List Str := words_6 ++ [word_21]; words_22) : List Str) (words_6 : List Str) (et_ne (ex_var (i := 9) (x := word_21) rfl) ex_str) (fun hk24 => ?_) (fun hk24 => ?_) ?_
    · replace hok := hok1 hk24
      change SX _ _ _ [Sl.dat cells_, Sl.dat way_, Sl.dat odd_, Sl.dat term_here_7, Sl.own (OL.mk words_6), Sl.dat k_8, Sl.dat cell_9, Sl.dat turn_17, Sl.dat leaf_here_20, Sl.dat word_21] _
      obtain ⟨v23, hok⟩ := hok
      let words_22 : List Str := words_6 ++ [word_21]
      refine sx_app (i := 4) (xs := words_6) (ps_expr (pe_bm PySem.F.plainAttrs_list PySem.F.slot_list_append PySem.F.type_list_append mt_append (pv 4) (pa_cons (mE _ _) pa_nil))) rfl (ex_var (i := 9) (x := word_21) rfl) v23 ?_
      change SX _ _ _ [Sl.dat cells_, Sl.dat way_, Sl.dat odd_, Sl.dat term_here_7, Sl.own (OL.mk words_22), Sl.dat k_8, Sl.dat cell_9, Sl.dat turn_17, Sl.dat leaf_here_20, Sl.dat word_21] _
      exact sx_nil (by repeat' (first | exact trivial | refine ⟨.inr rfl, ?_⟩ | refine ⟨.inl rfl, ?_⟩))
    · replace hok := hok2 hk24
      change SX _ _ _ [Sl.dat cells_, Sl.dat way_, Sl.dat odd_, Sl.dat term_here_7, Sl.own (OL.mk words_6), Sl.dat k_8, Sl.dat cell_9, Sl.dat turn_17, Sl.dat leaf_here_20, Sl.dat word_21] _
      exact sx_nil (by repeat' (first | exact trivial | refine ⟨.inr rfl, ?_⟩ | refine ⟨.inl rfl, ?_⟩))
    let j25 : List Str := cond (!decide (word_21 = (Str.ofString ""))) (let words_22 : List Str := words_6 ++ [word_21]; words_22) words_6
    let words_26 : List Str := j25
    change SX _ _ _ [Sl.dat cells_, Sl.dat way_, Sl.dat odd_, Sl.dat term_here_7, Sl.own (OL.mk words_26), Sl.dat k_8, Sl.dat cell_9, Sl.dat turn_17, Sl.dat leaf_here_20, Sl.dat word_21] _
    obtain ⟨v28, hok⟩ := hok
    let term_here_27 : Trm := (List.getD [(Trm.plus term_here_7 leaf_here_20), (Trm.minus leaf_here_20 term_here_7), (Trm.times (Rat.divInt (2 : Int) (3 : Int)) (Trm.plus leaf_here_20 term_here_7)), (Trm.plus leaf_here_20 term_here_7)] (Int.toNat (cell_9 % (4 : Int))) (Trm.number 0))
    refine sx_set (i := 3) sc_l_term.nd (x := term_here_27) (ex_ixD (ex_newL (en_lst (xs := [(Trm.plus term_here_7 leaf_here_20), (Trm.minus leaf_here_20 term_here_7), (Trm.times (Rat.divInt (2 : Int) (3 : Int)) (Trm.plus leaf_here_20 term_here_7)), (Trm.plus leaf_here_20 term_here_7)]) (@ea_cons _ _ _ _ _ _ _ _ (ex_make (c := "Plus") (x := (Trm.plus term_here_7 leaf_here_20)) k_Plus (hr.mono (by decide)) (@ea_cons _ _ _ _ _ _ _ _ (ex_var (i := 3) (x := term_here_7) rfl) (@ea_cons _ _ _ _ _ _ _ _ (ex_var (i := 8) (x := leaf_here_20) rfl) ea_nil (star_plain rfl _ _)) (star_plain rfl _ _)) rfl rfl (fun v => ⟨v, (Trm.plus term_here_7 leaf_here_20), term_here_7, leaf_here_20, (.inl rfl), rfl, (okt_Pair___init__ term_here_7 leaf_here_20), fun e h => h⟩)) (@ea_cons _ _ _ _ _ _ _ _ (ex_make (c := "Minus") (x := (Trm.minus leaf_here_20 term_here_7)) k_Minus (hr.mono (by decide)) (@ea_cons _ _ _ _ _ _ _ _ (ex_var (i := 8) (x := leaf_here_20) rfl) (@ea_cons _ _ _ _ _ _ _ _ (ex_var (i := 3) (x := term_here_7) rfl) ea_nil (star_plain rfl _ _)) (star_plain rfl _ _)) rfl rfl (fun v => ⟨v, (Trm.minus leaf_here_20 term_here_7), leaf_here_20, term_here_7, (.inr rfl), rfl, (okt_Pair___init__ leaf_here_20 term_here_7), fun e h => h⟩)) (@ea_cons _ _ _ _ _ _ _ _ (ex_make (c := "Times") (x := (Trm.times (Rat.divInt (2 : Int) (3 : Int)) (Trm.plus leaf_here_20 term_here_7))) k_Times (hr.mono (by decide)) (@ea_cons _ _ _ _ _ _ _ _ (ex_isQ (ex_tup (p := ((2 : Int), (3 : Int))) (@ea_cons _ _ _ _ _ _ _ _ ex_int (@ea_cons _ _ _ _ _ _ _ _ ex_int ea_nil (star_plain rfl _ _)) (star_plain rfl _ _))) ⟨by decide, by decide⟩) (@ea_cons _ _ _ _ _ _ _ _ (ex_make (c := "Plus") (x := (Trm.plus leaf_here_20 term_here_7)) k_Plus (hr.mono (by decide)) (@ea_cons _ _ _ _ _ _ _ _ (ex_var (i := 8) (x := leaf_here_20) rfl) (@ea_cons _ _ _ _ _ _ _ _ (ex_var (i := 3) (x := term_here_7) rfl) ea_nil (star_plain rfl _ _)) (star_plain rfl _ _)) rfl rfl (fun v => ⟨v, (Trm.plus leaf_here_20 term_here_7), leaf_here_20, term_here_7, (.inl rfl), rfl, (okt_Pair___init__ leaf_here_20 term_here_7), fun e h => h⟩)) ea_nil (star_plain rfl _ _)) (star_plain rfl _ _)) rfl rfl (fun v => ⟨v, (Trm.times (Rat.divInt (2 : Int) (3 : Int)) (Trm.plus leaf_here_20 term_here_7)), (Rat.divInt (2 : Int) (3 : Int)), (Trm.plus leaf_here_20 term_here_7), rfl, rfl, (okt_Times___init__ (Rat.divInt (2 : Int) (3 : Int)) (Trm.plus leaf_here_20 term_here_7)), fun e h => h⟩)) (@ea_cons _ _ _ _ _ _ _ _ (ex_make (c := "Plus") (x := (Trm.plus leaf_here_20 term_here_7)) k_Plus (hr.mono (by decide)) (@ea_cons _ _ _ _ _ _ _ _ (ex_var (i := 8) (x := leaf_here_20) rfl) (@ea_cons _ _ _ _ _ _ _ _ (ex_var (i := 3) (x := term_here_7) rfl) ea_nil (star_plain rfl _ _)) (star_plain rfl _ _)) rfl rfl (fun v => ⟨v, (Trm.plus leaf_here_20 term_here_7), leaf_here_20, term_here_7, (.inl rfl), rfl, (okt_Pair___init__ leaf_here_20 term_here_7), fun e h => h⟩)) ea_nil (star_plain rfl _ _)) (star_plain rfl _ _)) (star_plain rfl _ _)) (star_plain rfl _ _)))) (ex_mod (ex_var (i := 6) (x := cell_9) rfl) ex_int (by decide)) v28) ?_
    change SX _ _ _ [Sl.dat cells_, Sl.dat way_, Sl.dat odd_, Sl.dat term_here_27, Sl.own (OL.mk words_26), Sl.dat k_8, Sl.dat cell_9, Sl.dat turn_17, Sl.dat leaf_here_20, Sl.dat word_21] _
    exact sx_nil (by repeat' (first | exact trivial | refine ⟨.inr rfl, ?_⟩ | refine ⟨.inl rfl, ?_⟩))
  · have hok := hok'
    clear hok'
    let j29 : (List Str × Trm) := List.foldl (st_l_term_3 way_ odd_) (words_2, term_here_1) (enumI cells_)
    let words_30 : List Str := j29.1
    let term_here_31 : Trm := j29.2
    change SX _ _ _ [Sl.dat cells_, Sl.dat way_, Sl.dat odd_, Sl.dat term_here_31, Sl.own (OL.mk words_30), _, _, _, _, _] _
    refine sx_frzL (i := 4) rfl ?_
    change SX _ _ _ [Sl.dat cells_, Sl.dat way_, Sl.dat odd_, Sl.dat term_here_31, Sl.dat words_30, _, _, _, _, _] _
    refine sx_ret (x := (term_here_31, words_30)) (ex_tup (p := (term_here_31, words_30)) (@ea_cons _ _ _ _ _ _ _ _ (ex_var (i := 3) (x := term_here_31) rfl) (@ea_cons _ _ _ _ _ _ _ _ (ex_var (i := 4) (x := words_30) rfl) ea_nil (star_plain rfl _ _)) (star_plain rfl _ _))) ?_
    exact hR
def ph_Wsh_way (c : Str) : Phi (Str) := fun args Rp Xp => ∃ (t : Wsh), args = [.dat t] ∧ Rec.cls t = c ∧ ok_Wsh_way t  ∧ Rp (m_Wsh_way t )
abbrev s_Wish_way : Stmt := inClass (topS 10) 5
theorem sc_Wish_way : FnScope ["self"] ["self"] (defScope s_Wish_way) := ⟨rfl, rfl, rfl, by decide +kernel, rfl, by decide +kernel, by decide +kernel⟩
theorem w_Wish_way {f : Addr} {fd : FuncData} (F : Fun K "way" "Wish.way" s_Wish_way f fd) (T : Top K mg) (d_Trm_ways : ∀ t : Trm, t.depth < 12 → MthOk P w K mg base (Rec.cls t) "ways" (0 + 12) ["self"] (spP K mg 1 (ph_Trm_ways 12 (Rec.cls t)))) (c : Str) (hc : c = "Just" ∨ c = "AtLeast" ∨ c = "AtMost") : FnOk P w K mg base (L2.CX P w) 14 f fd ["self"] (spP K mg 1 (ph_Wsh_way c)) := by
  refine fn_ok F sc_Wish_way rfl ?_
  rintro args Rp Xp ⟨t, rfl, hcl, hok, hR⟩ hl cdv A outer s H E W hr tk
  subst hcl
  cases t with
  | just near_ far_ rank_ weight_ =>
    have hok : near_.depth < 12 ∧ ok_Trm_ways near_ ∧ far_.depth < 12 ∧ ok_Trm_ways far_ ∧ (m_Trm_ways near_).length + (m_Trm_ways far_).length ≤ 100000 ∧ (((((m_Trm_ways near_) ++ (m_Trm_ways far_)).any fun y => decide (y = (Str.ofString "down"))) = true → True) ∧ ((((m_Trm_ways near_) ++ (m_Trm_ways far_)).any fun y => decide (y = (Str.ofString "down"))) = false → True)) := hok
    have hR : Rp (cond (((m_Trm_ways near_) ++ (m_Trm_ways far_)).any fun y => decide (y = (Str.ofString "down"))) (Str.ofString "down") (Str.ofString "across")) := hR
    change SX _ _ _ [Sl.dat (Wsh.just near_ far_ rank_ weight_)] _
    obtain ⟨v1, v2, v3, v4, v5, hok⟩ := hok
    refine sx_ifr (k := (((m_Trm_ways near_) ++ (m_Trm_ways far_)).any fun y => decide (y = (Str.ofString "down")))) (et_inS ex_str (ex_newL (en_cat (ex_newL (en_mth0 (ex_fld (x := (Wsh.just near_ far_ rank_ weight_)) (y := near_) (ex_var (i := 0) (x := (Wsh.just near_ far_ rank_ weight_)) rfl) T.fl_Just_near rfl) (d_Trm_ways near_ v1) (hr.mono (by decide)) (Trm.no (by decide) near_) ⟨near_, rfl, rfl, v1, v2, rfl⟩)) (ex_newL (en_mth0 (ex_fld (x := (Wsh.just near_ far_ rank_ weight_)) (y := far_) (ex_var (i := 0) (x := (Wsh.just near_ far_ rank_ weight_)) rfl) T.fl_Just_far rfl) (d_Trm_ways far_ v3) (hr.mono (by decide)) (Trm.no (by decide) far_) ⟨far_, rfl, rfl, v3, v4, rfl⟩)) v5))) (fun hk6 => ?_) (fun hk6 => ?_)
    · replace hok := hok.1 hk6
      replace hR := cond_t (P := Rp) hk6 hR
      change SX _ _ _ [Sl.dat (Wsh.just near_ far_ rank_ weight_)] _
      refine sx_ret (x := (Str.ofString "down")) ex_str ?_
      exact hR
    · replace hok := hok.2 hk6
      replace hR := cond_f (P := Rp) hk6 hR
      change SX _ _ _ [Sl.dat (Wsh.just near_ far_ rank_ weight_)] _
      refine sx_ret (x := (Str.ofString "across")) ex_str ?_
      exact hR
  | least near_ far_ rank_ weight_ =>
    have hok : near_.depth < 12 ∧ ok_Trm_ways near_ ∧ far_.depth < 12 ∧ ok_Trm_ways far_ ∧ (m_Trm_ways near_).length + (m_Trm_ways far_).length ≤ 100000 ∧ (((((m_Trm_ways near_) ++ (m_Trm_ways far_)).any fun y => decide (y = (Str.ofString "down"))) = true → True) ∧ ((((m_Trm_ways near_) ++ (m_Trm_ways far_)).any fun y => decide (y = (Str.ofString "down"))) = false → True)) := hok
    have hR : Rp (cond (((m_Trm_ways near_) ++ (m_Trm_ways far_)).any fun y => decide (y = (Str.ofString "down"))) (Str.ofString "down") (Str.ofString "across")) := hR
    change SX _ _ _ [Sl.dat (Wsh.least near_ far_ rank_ weight_)] _
    obtain ⟨v1, v2, v3, v4, v5, hok⟩ := hok
    refine sx_ifr (k := (((m_Trm_ways near_) ++ (m_Trm_ways far_)).any fun y => decide (y = (Str.ofString "down")))) (et_inS ex_str (ex_newL (en_cat (ex_newL (en_mth0 (ex_fld (x := (Wsh.least near_ far_ rank_ weight_)) (y := near_) (ex_var (i := 0) (x := (Wsh.least near_ far_ rank_ weight_)) rfl) T.fl_AtLeast_near rfl) (d_Trm_ways near_ v1) (hr.mono (by decide)) (Trm.no (by decide) near_) ⟨near_, rfl, rfl, v1, v2, rfl⟩)) (ex_newL (en_mth0 (ex_fld (x := (Wsh.least near_ far_ rank_ weight_)) (y := far_) (ex_var (i := 0) (x := (Wsh.least near_ far_ rank_ weight_)) rfl) T.fl_AtLeast_far rfl) (d_Trm_ways far_ v3) (hr.mono (by decide)) (Trm.no (by decide) far_) ⟨far_, rfl, rfl, v3, v4, rfl⟩)) v5))) (fun hk6 => ?_) (fun hk6 => ?_)
    · replace hok := hok.1 hk6
      replace hR := cond_t (P := Rp) hk6 hR
      change SX _ _ _ [Sl.dat (Wsh.least near_ far_ rank_ weight_)] _
      refine sx_ret (x := (Str.ofString "down")) ex_str ?_
      exact hR
    · replace hok := hok.2 hk6
      replace hR := cond_f (P := Rp) hk6 hR
      change SX _ _ _ [Sl.dat (Wsh.least near_ far_ rank_ weight_)] _
      refine sx_ret (x := (Str.ofString "across")) ex_str ?_
      exact hR
  | most near_ far_ rank_ weight_ =>
    have hok : near_.depth < 12 ∧ ok_Trm_ways near_ ∧ far_.depth < 12 ∧ ok_Trm_ways far_ ∧ (m_Trm_ways near_).length + (m_Trm_ways far_).length ≤ 100000 ∧ (((((m_Trm_ways near_) ++ (m_Trm_ways far_)).any fun y => decide (y = (Str.ofString "down"))) = true → True) ∧ ((((m_Trm_ways near_) ++ (m_Trm_ways far_)).any fun y => decide (y = (Str.ofString "down"))) = false → True)) := hok
    have hR : Rp (cond (((m_Trm_ways near_) ++ (m_Trm_ways far_)).any fun y => decide (y = (Str.ofString "down"))) (Str.ofString "down") (Str.ofString "across")) := hR
    change SX _ _ _ [Sl.dat (Wsh.most near_ far_ rank_ weight_)] _
    obtain ⟨v1, v2, v3, v4, v5, hok⟩ := hok
    refine sx_ifr (k := (((m_Trm_ways near_) ++ (m_Trm_ways far_)).any fun y => decide (y = (Str.ofString "down")))) (et_inS ex_str (ex_newL (en_cat (ex_newL (en_mth0 (ex_fld (x := (Wsh.most near_ far_ rank_ weight_)) (y := near_) (ex_var (i := 0) (x := (Wsh.most near_ far_ rank_ weight_)) rfl) T.fl_AtMost_near rfl) (d_Trm_ways near_ v1) (hr.mono (by decide)) (Trm.no (by decide) near_) ⟨near_, rfl, rfl, v1, v2, rfl⟩)) (ex_newL (en_mth0 (ex_fld (x := (Wsh.most near_ far_ rank_ weight_)) (y := far_) (ex_var (i := 0) (x := (Wsh.most near_ far_ rank_ weight_)) rfl) T.fl_AtMost_far rfl) (d_Trm_ways far_ v3) (hr.mono (by decide)) (Trm.no (by decide) far_) ⟨far_, rfl, rfl, v3, v4, rfl⟩)) v5))) (fun hk6 => ?_) (fun hk6 => ?_)
    · replace hok := hok.1 hk6
      replace hR := cond_t (P := Rp) hk6 hR
      change SX _ _ _ [Sl.dat (Wsh.most near_ far_ rank_ weight_)] _
      refine sx_ret (x := (Str.ofString "down")) ex_str ?_
      exact hR
    · replace hok := hok.2 hk6
      replace hR := cond_f (P := Rp) hk6 hR
      change SX _ _ _ [Sl.dat (Wsh.most near_ far_ rank_ weight_)] _
      refine sx_ret (x := (Str.ofString "across")) ex_str ?_
      exact hR
def ph_Wish___init__ : PhiI := fun args R Xp => ∃ (q_self : V) (x : Wsh) (near_ : Trm) (far_ : Trm) (rank_ : Int) (weight_ : Int), (x = Wsh.just near_ far_ rank_ weight_ ∨ x = Wsh.least near_ far_ rank_ weight_ ∨ x = Wsh.most near_ far_ rank_ weight_) ∧ args = [.own (At.mk q_self (OI.mk 0 x)), .dat near_, .dat far_, .dat rank_, .dat weight_] ∧ ok_Wish___init__ near_ far_ rank_ weight_ ∧ outP (fun _ : Unit => ∀ e : Env', e[0]? = some (.own (At.mk q_self (OI.mk 4 x))) → R e) Xp (m_Wish___init__ near_ far_ rank_ weight_)
abbrev s_Wish___init__ : Stmt := inClass (topS 10) 0
theorem sc_Wish___init__ : FnScope ["self", "near", "far", "rank", "weight"] ["self", "near", "far", "rank", "weight"] (defScope s_Wish___init__) := ⟨rfl, rfl, rfl, by decide +kernel, rfl, by decide +kernel, by decide +kernel⟩
theorem w_Wish___init__ {f : Addr} {fd : FuncData} (F : Fun K "__init__" "Wish.__init__" s_Wish___init__ f fd) (T : Top K mg) (d_Trm_ways : ∀ t : Trm, t.depth < 12 → MthOk P w K mg base (Rec.cls t) "ways" (0 + 12) ["self"] (spP K mg 1 (ph_Trm_ways 12 (Rec.cls t)))) : FnOk P w K mg base (L2.CX P w) 14 f fd ["self", "near", "far", "rank", "weight"] (spI K mg 5 ph_Wish___init__) := by
  refine fn_okI F sc_Wish___init__ rfl ?_
  rintro args R Xp ⟨q_self, x, near_, far_, rank_, weight_, hx, rfl, hok, hR⟩ hl cdv A outer s H E W hr tk
  rcases hx with rfl | rfl | rfl
  · change SX _ _ _ [Sl.own (At.mk q_self (OI.mk 0 (Wsh.just near_ far_ rank_ weight_))), Sl.dat near_, Sl.dat far_, Sl.dat rank_, Sl.dat weight_] _
    obtain ⟨v1, v2, v3, v4, v5, v6, hok⟩ := hok
    refine sx_ifr (k := (decide ((1 : Int) < ((RS8.setL ((m_Trm_ways near_) ++ (m_Trm_ways far_))).length : Int)))) (et_gt (ex_lenOr rfl T.b_len T.b_set (ex_newL (en_mth0 (ex_var (i := 1) (x := near_) rfl) (d_Trm_ways near_ v1) (hr.mono (by decide)) (Trm.no (by decide) near_) ⟨near_, rfl, rfl, v1, v2, rfl⟩)) (ex_newL (en_mth0 (ex_var (i := 2) (x := far_) rfl) (d_Trm_ways far_ v3) (hr.mono (by decide)) (Trm.no (by decide) far_) ⟨far_, rfl, rfl, v3, v4, rfl⟩)) v5 v6) ex_int) (fun hk7 => ?_) (fun hk7 => ?_)
    · replace hok := hok.1 hk7
      replace hR := cond_t (P := (outP (fun _ : Unit => ∀ e : Env', e[0]? = some (.own (At.mk q_self (OI.mk 4 (Wsh.just near_ far_ rank_ weight_)))) → R e) Xp)) hk7 hR
      change SX _ _ _ [Sl.own (At.mk q_self (OI.mk 0 (Wsh.just near_ far_ rank_ weight_))), Sl.dat near_, Sl.dat far_, Sl.dat rank_, Sl.dat weight_] _
      refine sx_raise rfl tk T.x_Mixed ?_
      exact hR
    · replace hok := hok.2 hk7
      replace hR := cond_f (P := (outP (fun _ : Unit => ∀ e : Env', e[0]? = some (.own (At.mk q_self (OI.mk 4 (Wsh.just near_ far_ rank_ weight_)))) → R e) Xp)) hk7 hR
      change SX _ _ _ [Sl.own (At.mk q_self (OI.mk 0 (Wsh.just near_ far_ rank_ weight_))), Sl.dat near_, Sl.dat far_, Sl.dat rank_, Sl.dat weight_] _
      refine sx_fset (i := 0) (n := 0) rfl (ex_var (i := 1) (x := near_) rfl) T.fl_Just_near rfl rfl (by decide) ?_
      change SX _ _ _ [Sl.own (At.mk q_self (OI.mk 1 (Wsh.just near_ far_ rank_ weight_))), Sl.dat near_, Sl.dat far_, Sl.dat rank_, Sl.dat weight_] _
      refine sx_fset (i := 0) (n := 1) rfl (ex_var (i := 2) (x := far_) rfl) T.fl_Just_far rfl rfl (by decide) ?_
      change SX _ _ _ [Sl.own (At.mk q_self (OI.mk 2 (Wsh.just near_ far_ rank_ weight_))), Sl.dat near_, Sl.dat far_, Sl.dat rank_, Sl.dat weight_] _
      refine sx_fset (i := 0) (n := 2) rfl (ex_var (i := 3) (x := rank_) rfl) T.fl_Just_rank rfl rfl (by decide) ?_
      change SX _ _ _ [Sl.own (At.mk q_self (OI.mk 3 (Wsh.just near_ far_ rank_ weight_))), Sl.dat near_, Sl.dat far_, Sl.dat rank_, Sl.dat weight_] _
      refine sx_fset (i := 0) (n := 3) rfl (ex_var (i := 4) (x := weight_) rfl) T.fl_Just_weight rfl rfl (by decide) ?_
      change SX _ _ _ [Sl.own (At.mk q_self (OI.mk 4 (Wsh.just near_ far_ rank_ weight_))), Sl.dat near_, Sl.dat far_, Sl.dat rank_, Sl.dat weight_] _
      have hR : ∀ e : Env', e[0]? = some (.own (At.mk q_self (OI.mk 4 (Wsh.just near_ far_ rank_ weight_)))) → R e := hR
      exact sx_nil (hR _ rfl)
  · change SX _ _ _ [Sl.own (At.mk q_self (OI.mk 0 (Wsh.least near_ far_ rank_ weight_))), Sl.dat near_, Sl.dat far_, Sl.dat rank_, Sl.dat weight_] _
    obtain ⟨v1, v2, v3, v4, v5, v6, hok⟩ := hok
    refine sx_ifr (k := (decide ((1 : Int) < ((RS8.setL ((m_Trm_ways near_) ++ (m_Trm_ways far_))).length : Int)))) (et_gt (ex_lenOr rfl T.b_len T.b_set (ex_newL (en_mth0 (ex_var (i := 1) (x := near_) rfl) (d_Trm_ways near_ v1) (hr.mono (by decide)) (Trm.no (by decide) near_) ⟨near_, rfl, rfl, v1, v2, rfl⟩)) (ex_newL (en_mth0 (ex_var (i := 2) (x := far_) rfl) (d_Trm_ways far_ v3) (hr.mono (by decide)) (Trm.no (by decide) far_) ⟨far_, rfl, rfl, v3, v4, rfl⟩)) v5 v6) ex_int) (fun hk7 => ?_) (fun hk7 => ?_)
    · replace hok := hok.1 hk7
      replace hR := cond_t (P := (outP (fun _ : Unit => ∀ e : Env', e[0]? = some (.own (At.mk q_self (OI.mk 4 (Wsh.least near_ far_ rank_ weight_)))) → R e) Xp)) hk7 hR
      change SX _ _ _ [Sl.own (At.mk q_self (OI.mk 0 (Wsh.least near_ far_ rank_ weight_))), Sl.dat near_, Sl.dat far_, Sl.dat rank_, Sl.dat weight_] _
      refine sx_raise rfl tk T.x_Mixed ?_
      exact hR
    · replace hok := hok.2 hk7
      replace hR := cond_f (P := (outP (fun _ : Unit => ∀ e : Env', e[0]? = some (.own (At.mk q_self (OI.mk 4 (Wsh.least near_ far_ rank_ weight_)))) → R e) Xp)) hk7 hR
      change SX _ _ _ [Sl.own (At.mk q_self (OI.mk 0 (Wsh.least near_ far_ rank_ weight_))), Sl.dat near_, Sl.dat far_, Sl.dat rank_, Sl.dat weight_] _
      refine sx_fset (i := 0) (n := 0) rfl (ex_var (i := 1) (x := near_) rfl) T.fl_AtLeast_near rfl rfl (by decide) ?_
      change SX _ _ _ [Sl.own (At.mk q_self (OI.mk 1 (Wsh.least near_ far_ rank_ weight_))), Sl.dat near_, Sl.dat far_, Sl.dat rank_, Sl.dat weight_] _
      refine sx_fset (i := 0) (n := 1) rfl (ex_var (i := 2) (x := far_) rfl) T.fl_AtLeast_far rfl rfl (by decide) ?_
      change SX _ _ _ [Sl.own (At.mk q_self (OI.mk 2 (Wsh.least near_ far_ rank_ weight_))), Sl.dat near_, Sl.dat far_, Sl.dat rank_, Sl.dat weight_] _
      refine sx_fset (i := 0) (n := 2) rfl (ex_var (i := 3) (x := rank_) rfl) T.fl_AtLeast_rank rfl rfl (by decide) ?_
      change SX _ _ _ [Sl.own (At.mk q_self (OI.mk 3 (Wsh.least near_ far_ rank_ weight_))), Sl.dat near_, Sl.dat far_, Sl.dat rank_, Sl.dat weight_] _
      refine sx_fset (i := 0) (n := 3) rfl (ex_var (i := 4) (x := weight_) rfl) T.fl_AtLeast_weight rfl rfl (by decide) ?_
      change SX _ _ _ [Sl.own (At.mk q_self (OI.mk 4 (Wsh.least near_ far_ rank_ weight_))), Sl.dat near_, Sl.dat far_, Sl.dat rank_, Sl.dat weight_] _
      have hR : ∀ e : Env', e[0]? = some (.own (At.mk q_self (OI.mk 4 (Wsh.least near_ far_ rank_ weight_)))) → R e := hR
      exact sx_nil (hR _ rfl)
  · change SX _ _ _ [Sl.own (At.mk q_self (OI.mk 0 (Wsh.most near_ far_ rank_ weight_))), Sl.dat near_, Sl.dat far_, Sl.dat rank_, Sl.dat weight_] _
    obtain ⟨v1, v2, v3, v4, v5, v6, hok⟩ := hok
    refine sx_ifr (k := (decide ((1 : Int) < ((RS8.setL ((m_Trm_ways near_) ++ (m_Trm_ways far_))).length : Int)))) (et_gt (ex_lenOr rfl T.b_len T.b_set (ex_newL (en_mth0 (ex_var (i := 1) (x := near_) rfl) (d_Trm_ways near_ v1) (hr.mono (by decide)) (Trm.no (by decide) near_) ⟨near_, rfl, rfl, v1, v2, rfl⟩)) (ex_newL (en_mth0 (ex_var (i := 2) (x := far_) rfl) (d_Trm_ways far_ v3) (hr.mono (by decide)) (Trm.no (by decide) far_) ⟨far_, rfl, rfl, v3, v4, rfl⟩)) v5 v6) ex_int) (fun hk7 => ?_) (fun hk7 => ?_)
    · replace hok := hok.1 hk7
      replace hR := cond_t (P := (outP (fun _ : Unit => ∀ e : Env', e[0]? = some (.own (At.mk q_self (OI.mk 4 (Wsh.most near_ far_ rank_ weight_)))) → R e) Xp)) hk7 hR
      change SX _ _ _ [Sl.own (At.mk q_self (OI.mk 0 (Wsh.most near_ far_ rank_ weight_))), Sl.dat near_, Sl.dat far_, Sl.dat rank_, Sl.dat weight_] _
      refine sx_raise rfl tk T.x_Mixed ?_
      exact hR
    · replace hok := hok.2 hk7
      replace hR := cond_f (P := (outP (fun _ : Unit => ∀ e : Env', e[0]? = some (.own (At.mk q_self (OI.mk 4 (Wsh.most near_ far_ rank_ weight_)))) → R e) Xp)) hk7 hR
      change SX _ _ _ [Sl.own (At.mk q_self (OI.mk 0 (Wsh.most near_ far_ rank_ weight_))), Sl.dat near_, Sl.dat far_, Sl.dat rank_, Sl.dat weight_] _
      refine sx_fset (i := 0) (n := 0) rfl (ex_var (i := 1) (x := near_) rfl) T.fl_AtMost_near rfl rfl (by decide) ?_
      change SX _ _ _ [Sl.own (At.mk q_self (OI.mk 1 (Wsh.most near_ far_ rank_ weight_))), Sl.dat near_, Sl.dat far_, Sl.dat rank_, Sl.dat weight_] _
      refine sx_fset (i := 0) (n := 1) rfl (ex_var (i := 2) (x := far_) rfl) T.fl_AtMost_far rfl rfl (by decide) ?_
      change SX _ _ _ [Sl.own (At.mk q_self (OI.mk 2 (Wsh.most near_ far_ rank_ weight_))), Sl.dat near_, Sl.dat far_, Sl.dat rank_, Sl.dat weight_] _
      refine sx_fset (i := 0) (n := 2) rfl (ex_var (i := 3) (x := rank_) rfl) T.fl_AtMost_rank rfl rfl (by decide) ?_
      change SX _ _ _ [Sl.own (At.mk q_self (OI.mk 3 (Wsh.most near_ far_ rank_ weight_))), Sl.dat near_, Sl.dat far_, Sl.dat rank_, Sl.dat weight_] _
      refine sx_fset (i := 0) (n := 3) rfl (ex_var (i := 4) (x := weight_) rfl) T.fl_AtMost_weight rfl rfl (by decide) ?_
      change SX _ _ _ [Sl.own (At.mk q_self (OI.mk 4 (Wsh.most near_ far_ rank_ weight_))), Sl.dat near_, Sl.dat far_, Sl.dat rank_, Sl.dat weight_] _
      have hR : ∀ e : Env', e[0]? = some (.own (At.mk q_self (OI.mk 4 (Wsh.most near_ far_ rank_ weight_)))) → R e := hR
      exact sx_nil (hR _ rfl)
def ph_l_made : Phi (Str) := fun args Rp Xp => ∃ (kind_ : Int) (near_ : Trm) (far_ : Trm), args = [.dat kind_, .dat near_, .dat far_] ∧ ok_l_made kind_ near_ far_ ∧ Rp (m_l_made kind_ near_ far_)
abbrev s_l_made : Stmt := topS 30
theorem sc_l_made : FnScope ["_law_kind", "_law_near", "_law_far", "_law_wish", "_law_told", "_law_e"] ["_law_kind", "_law_near", "_law_far"] (defScope s_l_made) := ⟨rfl, rfl, rfl, by decide +kernel, rfl, by decide +kernel, by decide +kernel⟩
theorem w_l_made {f : Addr} {fd : FuncData} (F : Fun K "_law_made" "_law_made" s_l_made f fd) (T : Top K mg) (d_l_alone : HotDef P w K mg base "_law_alone" 1 ["_law_e"] (spH K mg 1 (ph_l_alone K mg))) (k_AtLeast : MkOk P w K mg base "AtLeast" 14 ["self", "near", "far", "rank", "weight"] (spI K mg 5 ph_Wish___init__)) (k_AtMost : MkOk P w K mg base "AtMost" 14 ["self", "near", "far", "rank", "weight"] (spI K mg 5 ph_Wish___init__)) (k_Just : MkOk P w K mg base "Just" 14 ["self", "near", "far", "rank", "weight"] (spI K mg 5 ph_Wish___init__)) (d_Wsh_way : ∀ t : Wsh, MthOk P w K mg base (Rec.cls t) "way" 14 ["self"] (spP K mg 1 (ph_Wsh_way (Rec.cls t)))) : FnOk P w K mg base (L2.CX P w) 16 f fd ["_law_kind", "_law_near", "_law_far"] (spP K mg 3 ph_l_made) := by
  refine fn_ok F sc_l_made rfl ?_
  rintro args Rp Xp ⟨kind_, near_, far_, rfl, hok, hR⟩ hl cdv A outer s H E W hr tk
  change SX _ _ _ [Sl.dat kind_, Sl.dat near_, Sl.dat far_, _, _, _] _
  let wish_1 : Option (Wsh) := (none : Option (Wsh))
  refine sx_set (i := 3) sc_l_made.nd (x := wish_1) (ex_noneO (α := Wsh) ex_non) ?_
  change SX _ _ _ [Sl.dat kind_, Sl.dat near_, Sl.dat far_, Sl.dat wish_1, _, _] _
  let told_2 : Str := (Str.ofString "other")
  refine sx_set (i := 4) sc_l_made.nd (x := told_2) ex_str ?_
  change SX _ _ _ [Sl.dat kind_, Sl.dat near_, Sl.dat far_, Sl.dat wish_1, Sl.dat told_2, _] _
  obtain ⟨hv, hok1, hok2, hok⟩ := hok
  refine sx_tryA' (i := 5) (all := [("FrameError" : Str), ("NoWish" : Str), ("Mixed" : Str), ("NoRank" : Str), ("NoName" : Str), ("NoPane" : Str)]) (some' := [("Mixed" : Str)]) (fun (s : (Option (Wsh) × Str)) (e : Env') => (List.set (List.set e 3 (.dat s.1)) 4 (.dat s.2))) ((cond (decide (kind_ = (0 : Int))) (((m_Wish___init__ near_ far_ (2 : Int) (5 : Int)).bind fun _ => (.ok (Wsh.just near_ far_ (2 : Int) (5 : Int)) : Except Exn Wsh)).bind (fun wish_4 => (.ok ((some wish_4), told_2)))) (cond (decide (kind_ = (1 : Int))) (((m_Wish___init__ near_ far_ (0 : Int) (1 : Int)).bind fun _ => (.ok (Wsh.least near_ far_ (0 : Int) (1 : Int)) : Except Exn Wsh)).bind (fun wish_7 => (.ok ((some wish_7), told_2)))) (((m_Wish___init__ near_ far_ (4 : Int) (1000000 : Int)).bind fun _ => (.ok (Wsh.most near_ far_ (4 : Int) (1000000 : Int)) : Except Exn Wsh)).bind (fun wish_10 => (.ok ((some wish_10), told_2)))))) : Except Exn ((Option (Wsh) × Str))) (fun (e14 : Exn) => (let told_16 : Str := (List.getD [(Str.ofString "wrong"), (Str.ofString "mixed")] (Int.toNat (intB (m_l_alone e14))) (Str.ofString "")); (wish_1, told_16))) sc_l_made.nd rfl rfl T.c_Mixed tk hv (fun W' pn xe tk' hp' => ?_) (fun e14 hm15 ad oe cls d pn Hf hz hfd xa => ?_) (fun _ _ _ h => h) ?_
  · have hok := hok1
    have hR : (outP (fun s => ((cond (decide (kind_ = (0 : Int))) (((m_Wish___init__ near_ far_ (2 : Int) (5 : Int)).bind fun _ => (.ok (Wsh.just near_ far_ (2 : Int) (5 : Int)) : Except Exn Wsh)).bind (fun wish_4 => (.ok ((some wish_4), told_2)))) (cond (decide (kind_ = (1 : Int))) (((m_Wish___init__ near_ far_ (0 : Int) (1 : Int)).bind fun _ => (.ok (Wsh.least near_ far_ (0 : Int) (1 : Int)) : Except Exn Wsh)).bind (fun wish_7 => (.ok ((some wish_7), told_2)))) (((m_Wish___init__ near_ far_ (4 : Int) (1000000 : Int)).bind fun _ => (.ok (Wsh.most near_ far_ (4 : Int) (1000000 : Int)) : Except Exn Wsh)).bind (fun wish_10 => (.ok ((some wish_10), told_2)))))) : Except Exn ((Option (Wsh) × Str))) = .ok s) (fun e => ((cond (decide (kind_ = (0 : Int))) (((m_Wish___init__ near_ far_ (2 : Int) (5 : Int)).bind fun _ => (.ok (Wsh.just near_ far_ (2 : Int) (5 : Int)) : Except Exn Wsh)).bind (fun wish_4 => (.ok ((some wish_4), told_2)))) (cond (decide (kind_ = (1 : Int))) (((m_Wish___init__ near_ far_ (0 : Int) (1 : Int)).bind fun _ => (.ok (Wsh.least near_ far_ (0 : Int) (1 : Int)) : Except Exn Wsh)).bind (fun wish_7 => (.ok ((some wish_7), told_2)))) (((m_Wish___init__ near_ far_ (4 : Int) (1000000 : Int)).bind fun _ => (.ok (Wsh.most near_ far_ (4 : Int) (1000000 : Int)) : Except Exn Wsh)).bind (fun wish_10 => (.ok ((some wish_10), told_2)))))) : Except Exn ((Option (Wsh) × Str))) = .error e)) ((cond (decide (kind_ = (0 : Int))) (((m_Wish___init__ near_ far_ (2 : Int) (5 : Int)).bind fun _ => (.ok (Wsh.just near_ far_ (2 : Int) (5 : Int)) : Except Exn Wsh)).bind (fun wish_4 => (.ok ((some wish_4), told_2)))) (cond (decide (kind_ = (1 : Int))) (((m_Wish___init__ near_ far_ (0 : Int) (1 : Int)).bind fun _ => (.ok (Wsh.least near_ far_ (0 : Int) (1 : Int)) : Except Exn Wsh)).bind (fun wish_7 => (.ok ((some wish_7), told_2)))) (((m_Wish___init__ near_ far_ (4 : Int) (1000000 : Int)).bind fun _ => (.ok (Wsh.most near_ far_ (4 : Int) (1000000 : Int)) : Except Exn Wsh)).bind (fun wish_10 => (.ok ((some wish_10), told_2)))))) : Except Exn ((Option (Wsh) × Str))) := outP_self
    change SX _ _ _ [Sl.dat kind_, Sl.dat near_, Sl.dat far_, Sl.dat wish_1, Sl.dat told_2, _] _
    refine sx_ifK (k := (decide (kind_ = (0 : Int)))) (et_eq (ex_var (i := 0) (x := kind_) rfl) ex_int) (fun hk13 => ?_) (fun hk13 => ?_)
    · replace hok := hok.1 hk13
      replace hR := cond_t (P := (outP (fun s => ((cond (decide (kind_ = (0 : Int))) (((m_Wish___init__ near_ far_ (2 : Int) (5 : Int)).bind fun _ => (.ok (Wsh.just near_ far_ (2 : Int) (5 : Int)) : Except Exn Wsh)).bind (fun wish_4 => (.ok ((some wish_4), told_2)))) (cond (decide (kind_ = (1 : Int))) (((m_Wish___init__ near_ far_ (0 : Int) (1 : Int)).bind fun _ => (.ok (Wsh.least near_ far_ (0 : Int) (1 : Int)) : Except Exn Wsh)).bind (fun wish_7 => (.ok ((some wish_7), told_2)))) (((m_Wish___init__ near_ far_ (4 : Int) (1000000 : Int)).bind fun _ => (.ok (Wsh.most near_ far_ (4 : Int) (1000000 : Int)) : Except Exn Wsh)).bind (fun wish_10 => (.ok ((some wish_10), told_2)))))) : Except Exn ((Option (Wsh) × Str))) = .ok s) (fun e => ((cond (decide (kind_ = (0 : Int))) (((m_Wish___init__ near_ far_ (2 : Int) (5 : Int)).bind fun _ => (.ok (Wsh.just near_ far_ (2 : Int) (5 : Int)) : Except Exn Wsh)).bind (fun wish_4 => (.ok ((some wish_4), told_2)))) (cond (decide (kind_ = (1 : Int))) (((m_Wish___init__ near_ far_ (0 : Int) (1 : Int)).bind fun _ => (.ok (Wsh.least near_ far_ (0 : Int) (1 : Int)) : Except Exn Wsh)).bind (fun wish_7 => (.ok ((some wish_7), told_2)))) (((m_Wish___init__ near_ far_ (4 : Int) (1000000 : Int)).bind fun _ => (.ok (Wsh.most near_ far_ (4 : Int) (1000000 : Int)) : Except Exn Wsh)).bind (fun wish_10 => (.ok ((some wish_10), told_2)))))) : Except Exn ((Option (Wsh) × Str))) = .error e))) hk13 hR
      change SX _ _ _ [Sl.dat kind_, Sl.dat near_, Sl.dat far_, Sl.dat wish_1, Sl.dat told_2, _] _
      obtain ⟨v3, hok⟩ := hok
      refine sx_setX (i := 3) sc_l_made.nd (exx_some (exx_makeR (c := "Just") (x := (Wsh.just near_ far_ (2 : Int) (5 : Int))) (u := m_Wish___init__ near_ far_ (2 : Int) (5 : Int)) tk' k_Just (hr.mono (by decide)) (@ea_cons _ _ _ _ _ _ _ _ (ex_var (i := 1) (x := near_) rfl) (@ea_cons _ _ _ _ _ _ _ _ (ex_var (i := 2) (x := far_) rfl) (@ea_cons _ _ _ _ _ _ _ _ ex_int (@ea_cons _ _ _ _ _ _ _ _ ex_int ea_nil (star_plain rfl _ _)) (star_plain rfl _ _)) (star_plain rfl _ _)) (star_plain rfl _ _)) rfl rfl (fun v R Xp h => ⟨v, (Wsh.just near_ far_ (2 : Int) (5 : Int)), near_, far_, (2 : Int), (5 : Int), (.inl rfl), rfl, v3, h⟩))) (fun r hr => ?_) (fun x hx => ?_)
      · obtain ⟨wish_4, hx5, rfl⟩ := hr
        replace hok := hok wish_4 hx5
        replace hR := bind_ok hx5 hR
        change SX _ _ _ [Sl.dat kind_, Sl.dat near_, Sl.dat far_, Sl.dat (some wish_4), Sl.dat told_2, _] _
        refine sx_nil ?_
        change SX _ _ _ [Sl.dat kind_, Sl.dat near_, Sl.dat far_, Sl.dat (some wish_4), Sl.dat told_2, _] _
        exact sx_nil ⟨_, hR, (by repeat' (first | exact trivial | refine ⟨.inr rfl, ?_⟩ | refine ⟨.inl rfl, ?_⟩))⟩
      · exact ⟨bind_err hx hR, rfl⟩
    · replace hok := hok.2 hk13
      replace hR := cond_f (P := (outP (fun s => ((cond (decide (kind_ = (0 : Int))) (((m_Wish___init__ near_ far_ (2 : Int) (5 : Int)).bind fun _ => (.ok (Wsh.just near_ far_ (2 : Int) (5 : Int)) : Except Exn Wsh)).bind (fun wish_4 => (.ok ((some wish_4), told_2)))) (cond (decide (kind_ = (1 : Int))) (((m_Wish___init__ near_ far_ (0 : Int) (1 : Int)).bind fun _ => (.ok (Wsh.least near_ far_ (0 : Int) (1 : Int)) : Except Exn Wsh)).bind (fun wish_7 => (.ok ((some wish_7), told_2)))) (((m_Wish___init__ near_ far_ (4 : Int) (1000000 : Int)).bind fun _ => (.ok (Wsh.most near_ far_ (4 : Int) (1000000 : Int)) : Except Exn Wsh)).bind (fun wish_10 => (.ok ((some wish_10), told_2)))))) : Except Exn ((Option (Wsh) × Str))) = .ok s) (fun e => ((cond (decide (kind_ = (0 : Int))) (((m_Wish___init__ near_ far_ (2 : Int) (5 : Int)).bind fun _ => (.ok (Wsh.just near_ far_ (2 : Int) (5 : Int)) : Except Exn Wsh)).bind (fun wish_4 => (.ok ((some wish_4), told_2)))) (cond (decide (kind_ = (1 : Int))) (((m_Wish___init__ near_ far_ (0 : Int) (1 : Int)).bind fun _ => (.ok (Wsh.least near_ far_ (0 : Int) (1 : Int)) : Except Exn Wsh)).bind (fun wish_7 => (.ok ((some wish_7), told_2)))) (((m_Wish___init__ near_ far_ (4 : Int) (1000000 : Int)).bind fun _ => (.ok (Wsh.most near_ far_ (4 : Int) (1000000 : Int)) : Except Exn Wsh)).bind (fun wish_10 => (.ok ((some wish_10), told_2)))))) : Except Exn ((Option (Wsh) × Str))) = .error e))) hk13 hR
      change SX _ _ _ [Sl.dat kind_, Sl.dat near_, Sl.dat far_, Sl.dat wish_1, Sl.dat told_2, _] _
      refine sx_ifK (k := (decide (kind_ = (1 : Int)))) (et_eq (ex_var (i := 0) (x := kind_) rfl) ex_int) (fun hk12 => ?_) (fun hk12 => ?_)
      · replace hok := hok.1 hk12
        replace hR := cond_t (P := (outP (fun s => ((cond (decide (kind_ = (0 : Int))) (((m_Wish___init__ near_ far_ (2 : Int) (5 : Int)).bind fun _ => (.ok (Wsh.just near_ far_ (2 : Int) (5 : Int)) : Except Exn Wsh)).bind (fun wish_4 => (.ok ((some wish_4), told_2)))) (cond (decide (kind_ = (1 : Int))) (((m_Wish___init__ near_ far_ (0 : Int) (1 : Int)).bind fun _ => (.ok (Wsh.least near_ far_ (0 : Int) (1 : Int)) : Except Exn Wsh)).bind (fun wish_7 => (.ok ((some wish_7), told_2)))) (((m_Wish___init__ near_ far_ (4 : Int) (1000000 : Int)).bind fun _ => (.ok (Wsh.most near_ far_ (4 : Int) (1000000 : Int)) : Except Exn Wsh)).bind (fun wish_10 => (.ok ((some wish_10), told_2)))))) : Except Exn ((Option (Wsh) × Str))) = .ok s) (fun e => ((cond (decide (kind_ = (0 : Int))) (((m_Wish___init__ near_ far_ (2 : Int) (5 : Int)).bind fun _ => (.ok (Wsh.just near_ far_ (2 : Int) (5 : Int)) : Except Exn Wsh)).bind (fun wish_4 => (.ok ((some wish_4), told_2)))) (cond (decide (kind_ = (1 : Int))) (((m_Wish___init__ near_ far_ (0 : Int) (1 : Int)).bind fun _ => (.ok (Wsh.least near_ far_ (0 : Int) (1 : Int)) : Except Exn Wsh)).bind (fun wish_7 => (.ok ((some wish_7), told_2)))) (((m_Wish___init__ near_ far_ (4 : Int) (1000000 : Int)).bind fun _ => (.ok (Wsh.most near_ far_ (4 : Int) (1000000 : Int)) : Except Exn Wsh)).bind (fun wish_10 => (.ok ((some wish_10), told_2)))))) : Except Exn ((Option (Wsh) × Str))) = .error e))) hk12 hR
        change SX _ _ _ [Sl.dat kind_, Sl.dat near_, Sl.dat far_, Sl.dat wish_1, Sl.dat told_2, _] _
        obtain ⟨v6, hok⟩ := hok
        refine sx_setX (i := 3) sc_l_made.nd (exx_some (exx_makeR (c := "AtLeast") (x := (Wsh.least near_ far_ (0 : Int) (1 : Int))) (u := m_Wish___init__ near_ far_ (0 : Int) (1 : Int)) tk' k_AtLeast (hr.mono (by decide)) (@ea_cons _ _ _ _ _ _ _ _ (ex_var (i := 1) (x := near_) rfl) (@ea_cons _ _ _ _ _ _ _ _ (ex_var (i := 2) (x := far_) rfl) (@ea_cons _ _ _ _ _ _ _ _ ex_int (@ea_cons _ _ _ _ _ _ _ _ ex_int ea_nil (star_plain rfl _ _)) (star_plain rfl _ _)) (star_plain rfl _ _)) (star_plain rfl _ _)) rfl rfl (fun v R Xp h => ⟨v, (Wsh.least near_ far_ (0 : Int) (1 : Int)), near_, far_, (0 : Int), (1 : Int), (.inr (.inl rfl)), rfl, v6, h⟩))) (fun r hr => ?_) (fun x hx => ?_)
        · obtain ⟨wish_7, hx8, rfl⟩ := hr
          replace hok := hok wish_7 hx8
          replace hR := bind_ok hx8 hR
          change SX _ _ _ [Sl.dat kind_, Sl.dat near_, Sl.dat far_, Sl.dat (some wish_7), Sl.dat told_2, _] _
          refine sx_nil ?_
          change SX _ _ _ [Sl.dat kind_, Sl.dat near_, Sl.dat far_, Sl.dat (some wish_7), Sl.dat told_2, _] _
          refine sx_nil ?_
          change SX _ _ _ [Sl.dat kind_, Sl.dat near_, Sl.dat far_, Sl.dat (some wish_7), Sl.dat told_2, _] _
          exact sx_nil ⟨_, hR, (by repeat' (first | exact trivial | refine ⟨.inr rfl, ?_⟩ | refine ⟨.inl rfl, ?_⟩))⟩
        · exact ⟨bind_err hx hR, rfl⟩
      · replace hok := hok.2 hk12
        replace hR := cond_f (P := (outP (fun s => ((cond (decide (kind_ = (0 : Int))) (((m_Wish___init__ near_ far_ (2 : Int) (5 : Int)).bind fun _ => (.ok (Wsh.just near_ far_ (2 : Int) (5 : Int)) : Except Exn Wsh)).bind (fun wish_4 => (.ok ((some wish_4), told_2)))) (cond (decide (kind_ = (1 : Int))) (((m_Wish___init__ near_ far_ (0 : Int) (1 : Int)).bind fun _ => (.ok (Wsh.least near_ far_ (0 : Int) (1 : Int)) : Except Exn Wsh)).bind (fun wish_7 => (.ok ((some wish_7), told_2)))) (((m_Wish___init__ near_ far_ (4 : Int) (1000000 : Int)).bind fun _ => (.ok (Wsh.most near_ far_ (4 : Int) (1000000 : Int)) : Except Exn Wsh)).bind (fun wish_10 => (.ok ((some wish_10), told_2)))))) : Except Exn ((Option (Wsh) × Str))) = .ok s) (fun e => ((cond (decide (kind_ = (0 : Int))) (((m_Wish___init__ near_ far_ (2 : Int) (5 : Int)).bind fun _ => (.ok (Wsh.just near_ far_ (2 : Int) (5 : Int)) : Except Exn Wsh)).bind (fun wish_4 => (.ok ((some wish_4), told_2)))) (cond (decide (kind_ = (1 : Int))) (((m_Wish___init__ near_ far_ (0 : Int) (1 : Int)).bind fun _ => (.ok (Wsh.least near_ far_ (0 : Int) (1 : Int)) : Except Exn Wsh)).bind (fun wish_7 => (.ok ((some wish_7), told_2)))) (((m_Wish___init__ near_ far_ (4 : Int) (1000000 : Int)).bind fun _ => (.ok (Wsh.most near_ far_ (4 : Int) (1000000 : Int)) : Except Exn Wsh)).bind (fun wish_10 => (.ok ((some wish_10), told_2)))))) : Except Exn ((Option (Wsh) × Str))) = .error e))) hk12 hR
        change SX _ _ _ [Sl.dat kind_, Sl.dat near_, Sl.dat far_, Sl.dat wish_1, Sl.dat told_2, _] _
        obtain ⟨v9, hok⟩ := hok
        refine sx_setX (i := 3) sc_l_made.nd (exx_some (exx_makeR (c := "AtMost") (x := (Wsh.most near_ far_ (4 : Int) (1000000 : Int))) (u := m_Wish___init__ near_ far_ (4 : Int) (1000000 : Int)) tk' k_AtMost (hr.mono (by decide)) (@ea_cons _ _ _ _ _ _ _ _ (ex_var (i := 1) (x := near_) rfl) (@ea_cons _ _ _ _ _ _ _ _ (ex_var (i := 2) (x := far_) rfl) (@ea_cons _ _ _ _ _ _ _ _ ex_int (@ea_cons _ _ _ _ _ _ _ _ (EX.eq (x' := (1000000 : Int)) (ex_pow ex_int ex_int ⟨by decide, by decide, by decide⟩) (by decide)) ea_nil (star_plain rfl _ _)) (star_plain rfl _ _)) (star_plain rfl _ _)) (star_plain rfl _ _)) rfl rfl (fun v R Xp h => ⟨v, (Wsh.most near_ far_ (4 : Int) (1000000 : Int)), near_, far_, (4 : Int), (1000000 : Int), (.inr (.inr rfl)), rfl, v9, h⟩))) (fun r hr => ?_) (fun x hx => ?_)
        · obtain ⟨wish_10, hx11, rfl⟩ := hr
          replace hok := hok wish_10 hx11
          replace hR := bind_ok hx11 hR
          change SX _ _ _ [Sl.dat kind_, Sl.dat near_, Sl.dat far_, Sl.dat (some wish_10), Sl.dat told_2, _] _
          refine sx_nil ?_
          change SX _ _ _ [Sl.dat kind_, Sl.dat near_, Sl.dat far_, Sl.dat (some wish_10), Sl.dat told_2, _] _
          refine sx_nil ?_
          change SX _ _ _ [Sl.dat kind_, Sl.dat near_, Sl.dat far_, Sl.dat (some wish_10), Sl.dat told_2, _] _
          exact sx_nil ⟨_, hR, (by repeat' (first | exact trivial | refine ⟨.inr rfl, ?_⟩ | refine ⟨.inl rfl, ?_⟩))⟩
        · exact ⟨bind_err hx hR, rfl⟩
  · replace hok := hok2 e14 hm15
    change SX _ _ _ [Sl.dat kind_, Sl.dat near_, Sl.dat far_, Sl.dat wish_1, Sl.dat told_2, Sl.dat (ExV.mk ad)] _
    obtain ⟨v17, v18, hok⟩ := hok
    let told_16 : Str := (List.getD [(Str.ofString "wrong"), (Str.ofString "mixed")] (Int.toNat (intB (m_l_alone e14))) (Str.ofString ""))
    refine sx_set (i := 4) sc_l_made.nd (x := told_16) (ex_ixD (ex_newL (en_lst (xs := [(Str.ofString "wrong"), (Str.ofString "mixed")]) (@ea_cons _ _ _ _ _ _ _ _ ex_str (@ea_cons _ _ _ _ _ _ _ _ ex_str ea_nil (star_plain rfl _ _)) (star_plain rfl _ _)))) (ex_intB T.b_int (ex_hot (n := "_law_alone") (p := (ad, oe)) d_l_alone (roomH_suite hr (by decide)) rfl List.mem_cons_self (ea_cons (ex_var (i := 5) (x := ExV.mk ad) rfl) ea_nil) ⟨e14, cls, d, Hf, rfl, hz, hfd, xa, v17, rfl⟩)) v18) ?_
    change SX _ _ _ [Sl.dat kind_, Sl.dat near_, Sl.dat far_, Sl.dat wish_1, Sl.dat told_16, Sl.dat (ExV.mk ad)] _
    exact sx_nil (by repeat' (first | exact trivial | refine ⟨.inr rfl, ?_⟩ | refine ⟨.inl rfl, ?_⟩))
  · skip
    let j19 : (Option (Wsh) × Str) := tryV ((cond (decide (kind_ = (0 : Int))) (((m_Wish___init__ near_ far_ (2 : Int) (5 : Int)).bind fun _ => (.ok (Wsh.just near_ far_ (2 : Int) (5 : Int)) : Except Exn Wsh)).bind (fun wish_4 => (.ok ((some wish_4), told_2)))) (cond (decide (kind_ = (1 : Int))) (((m_Wish___init__ near_ far_ (0 : Int) (1 : Int)).bind fun _ => (.ok (Wsh.least near_ far_ (0 : Int) (1 : Int)) : Except Exn Wsh)).bind (fun wish_7 => (.ok ((some wish_7), told_2)))) (((m_Wish___init__ near_ far_ (4 : Int) (1000000 : Int)).bind fun _ => (.ok (Wsh.most near_ far_ (4 : Int) (1000000 : Int)) : Except Exn Wsh)).bind (fun wish_10 => (.ok ((some wish_10), told_2)))))) : Except Exn ((Option (Wsh) × Str))) (fun (e14 : Exn) => (let told_16 : Str := (List.getD [(Str.ofString "wrong"), (Str.ofString "mixed")] (Int.toNat (intB (m_l_alone e14))) (Str.ofString "")); (wish_1, told_16)))
    let wish_20 : Option (Wsh) := j19.1
    let told_21 : Str := j19.2
    change SX _ _ _ [Sl.dat kind_, Sl.dat near_, Sl.dat far_, Sl.dat wish_20, Sl.dat told_21, _] _
    obtain ⟨hok1, hok2, hok⟩ := hok
    refine sx_ifj' (k := (wish_20.isSome)) (fun (s : Str) (e : Env') => (List.set e 4 (.dat s))) ((let told_22 : Str := (m_Wsh_way (wish_20.getD (Wsh.just (.number 0) (.number 0) 0 0))); told_22) : Str) (told_21 : Str) (et_val (ex_isRO T.b_isinstance (ex_var (i := 3) (x := wish_20) rfl) (fun y => match y with | .just _ _ _ _ => T.is_Just_Wish | .least _ _ _ _ => T.is_AtLeast_Wish | .most _ _ _ _ => T.is_AtMost_Wish) T.no_Wish)) (fun hk25 => ?_) (fun hk25 => ?_) ?_
    · replace hok := hok1 hk25
      change SX _ _ _ [Sl.dat kind_, Sl.dat near_, Sl.dat far_, Sl.dat wish_20, Sl.dat told_21, _] _
      obtain ⟨v23, v24, hok⟩ := hok
      let told_22 : Str := (m_Wsh_way (wish_20.getD (Wsh.just (.number 0) (.number 0) 0 0)))
      refine sx_set (i := 4) sc_l_made.nd (x := told_22) (ex_mth0 (ex_getO (x0 := (Wsh.just (.number 0) (.number 0) 0 0)) (ex_var (i := 3) (x := wish_20) rfl) v23) (d_Wsh_way (wish_20.getD (Wsh.just (.number 0) (.number 0) 0 0))) (hr.mono (by decide)) (Wsh.no (by decide) (wish_20.getD (Wsh.just (.number 0) (.number 0) 0 0))) ⟨(wish_20.getD (Wsh.just (.number 0) (.number 0) 0 0)), rfl, rfl, v24, rfl⟩) ?_
      change SX _ _ _ [Sl.dat kind_, Sl.dat near_, Sl.dat far_, Sl.dat wish_20, Sl.dat told_22, _] _
      exact sx_nil (by repeat' (first | exact trivial | refine ⟨.inr rfl, ?_⟩ | refine ⟨.inl rfl, ?_⟩))
    · replace hok := hok2 hk25
      change SX _ _ _ [Sl.dat kind_, Sl.dat near_, Sl.dat far_, Sl.dat wish_20, Sl.dat told_21, _] _
      exact sx_nil (by repeat' (first | exact trivial | refine ⟨.inr rfl, ?_⟩ | refine ⟨.inl rfl, ?_⟩))
    let j26 : Str := cond (wish_20.isSome) (let told_22 : Str := (m_Wsh_way (wish_20.getD (Wsh.just (.number 0) (.number 0) 0 0))); told_22) told_21
    let told_27 : Str := j26
    change SX _ _ _ [Sl.dat kind_, Sl.dat near_, Sl.dat far_, Sl.dat wish_20, Sl.dat told_27, _] _
    refine sx_ret (x := told_27) (ex_var (i := 4) (x := told_27) rfl) ?_
    exact hR
def ph_law : Phi (Bool) := fun args Rp Xp => ∃ (script_ : List Int), args = [.dat script_] ∧ ok_law script_ ∧ Rp (m_law script_)
abbrev s_law : Stmt := topS 31
theorem sc_law : FnScope ["_law_script", "_law_way", "_law_other", "_law_odd", "_law_near", "_law_words", "_law_far", "_law_more", "_law_down", "_law_due", "_law_word", "_law_kind"] ["_law_script"] (defScope s_law) := ⟨rfl, rfl, rfl, by decide +kernel, rfl, by decide +kernel, by decide +kernel⟩
theorem w_law {f : Addr} {fd : FuncData} (F : Fun K "law" "law" s_law f fd) (T : Top K mg) (d_l_term : DefOk P w K mg base "_law_term" 4 ["_law_cells", "_law_way", "_law_odd"] [] (spP K mg 3 ph_l_term)) (d_l_cell_at : DefOk P w K mg base "_law_cell_at" 1 ["_law_script", "_law_k"] [] (spP K mg 2 ph_l_cell_at)) (d_l_made : DefOk P w K mg base "_law_made" 16 ["_law_kind", "_law_near", "_law_far"] [] (spP K mg 3 ph_l_made)) : FnOk P w K mg base (L2.CX P w) 17 f fd ["_law_script"] (spP K mg 1 ph_law) := by
  refine fn_ok F sc_law rfl ?_
  rintro args Rp Xp ⟨script_, rfl, hok, hR⟩ hl cdv A outer s H E W hr tk
  change SX _ _ _ [Sl.dat script_, _, _, _, _, _, _, _, _, _, _, _] _
  obtain ⟨v2, hok⟩ := hok
  let way_1 : Int := ((m_l_cell_at script_ (0 : Int)) % (3 : Int))
  refine sx_set (i := 1) sc_law.nd (x := way_1) (ex_mod (ex_call (n := "_law_cell_at") d_l_cell_at (hr.mono (by decide)) (@ea_cons _ _ _ _ _ _ _ _ (ex_var (i := 0) (x := script_) rfl) (@ea_cons _ _ _ _ _ _ _ _ ex_int ea_nil (star_plain rfl _ _)) (star_plain rfl _ _)) ⟨script_, (0 : Int), rfl, v2, rfl⟩ (dvs := []) (dxs := []) (fun _ => trivial)) ex_int (by decide)) ?_
  change SX _ _ _ [Sl.dat script_, Sl.dat way_1, _, _, _, _, _, _, _, _, _, _] _
  let other_3 : Int := way_1
  refine sx_set (i := 2) sc_law.nd (x := other_3) (ex_var (i := 1) (x := way_1) rfl) ?_
  change SX _ _ _ [Sl.dat script_, Sl.dat way_1, Sl.dat other_3, _, _, _, _, _, _, _, _, _] _
  obtain ⟨v4, hok⟩ := hok
  obtain ⟨hok1, hok2, hok⟩ := hok
  refine sx_ifj' (k := (decide (((m_l_cell_at script_ (1 : Int)) % (4 : Int)) = (1 : Int)))) (fun (s : Int) (e : Env') => (List.set e 2 (.dat s))) ((let other_5 : Int := (((m_l_cell_at script_ (1 : Int)) / (4 : Int)) % (3 : Int)); other_5) : Int) (other_3 : Int) (et_eq (ex_mod (ex_call (n := "_law_cell_at") d_l_cell_at (hr.mono (by decide)) (@ea_cons _ _ _ _ _ _ _ _ (ex_var (i := 0) (x := script_) rfl) (@ea_cons _ _ _ _ _ _ _ _ ex_int ea_nil (star_plain rfl _ _)) (star_plain rfl _ _)) ⟨script_, (1 : Int), rfl, v4, rfl⟩ (dvs := []) (dxs := []) (fun _ => trivial)) ex_int (by decide)) ex_int) (fun hk7 => ?_) (fun hk7 => ?_) ?_
  · replace hok := hok1 hk7
    change SX _ _ _ [Sl.dat script_, Sl.dat way_1, Sl.dat other_3, _, _, _, _, _, _, _, _, _] _
    obtain ⟨v6, hok⟩ := hok
    let other_5 : Int := (((m_l_cell_at script_ (1 : Int)) / (4 : Int)) % (3 : Int))
    refine sx_set (i := 2) sc_law.nd (x := other_5) (ex_mod (ex_fdiv (ex_call (n := "_law_cell_at") d_l_cell_at (hr.mono (by decide)) (@ea_cons _ _ _ _ _ _ _ _ (ex_var (i := 0) (x := script_) rfl) (@ea_cons _ _ _ _ _ _ _ _ ex_int ea_nil (star_plain rfl _ _)) (star_plain rfl _ _)) ⟨script_, (1 : Int), rfl, v6, rfl⟩ (dvs := []) (dxs := []) (fun _ => trivial)) ex_int ⟨by decide, by decide⟩) ex_int (by decide)) ?_
    change SX _ _ _ [Sl.dat script_, Sl.dat way_1, Sl.dat other_5, _, _, _, _, _, _, _, _, _] _
    exact sx_nil (by repeat' (first | exact trivial | refine ⟨.inr rfl, ?_⟩ | refine ⟨.inl rfl, ?_⟩))
  · replace hok := hok2 hk7
    change SX _ _ _ [Sl.dat script_, Sl.dat way_1, Sl.dat other_3, _, _, _, _, _, _, _, _, _] _
    exact sx_nil (by repeat' (first | exact trivial | refine ⟨.inr rfl, ?_⟩ | refine ⟨.inl rfl, ?_⟩))
  let j8 : Int := cond (decide (((m_l_cell_at script_ (1 : Int)) % (4 : Int)) = (1 : Int))) (let other_5 : Int := (((m_l_cell_at script_ (1 : Int)) / (4 : Int)) % (3 : Int)); other_5) other_3
  let other_9 : Int := j8
  change SX _ _ _ [Sl.dat script_, Sl.dat way_1, Sl.dat other_9, _, _, _, _, _, _, _, _, _] _
  let odd_10 : Int := (-1 : Int)
  refine sx_set (i := 3) sc_law.nd (x := odd_10) (EX.eq (x' := (-1 : Int)) (ex_neg ex_int) (by decide)) ?_
  change SX _ _ _ [Sl.dat script_, Sl.dat way_1, Sl.dat other_9, Sl.dat odd_10, _, _, _, _, _, _, _, _] _
  obtain ⟨v11, hok⟩ := hok
  obtain ⟨hok1, hok2, hok⟩ := hok
  refine sx_ifj' (k := (decide (((m_l_cell_at script_ (1 : Int)) % (4 : Int)) = (2 : Int)))) (fun (s : Int) (e : Env') => (List.set e 3 (.dat s))) ((let odd_12 : Int := (((m_l_cell_at script_ (1 : Int)) / (4 : Int)) % (5 : Int)); odd_12) : Int) (odd_10 : Int) (et_eq (ex_mod (ex_call (n := "_law_cell_at") d_l_cell_at (hr.mono (by decide)) (@ea_cons _ _ _ _ _ _ _ _ (ex_var (i := 0) (x := script_) rfl) (@ea_cons _ _ _ _ _ _ _ _ ex_int ea_nil (star_plain rfl _ _)) (star_plain rfl _ _)) ⟨script_, (1 : Int), rfl, v11, rfl⟩ (dvs := []) (dxs := []) (fun _ => trivial)) ex_int (by decide)) ex_int) (fun hk14 => ?_) (fun hk14 => ?_) ?_
  · replace hok := hok1 hk14
    change SX _ _ _ [Sl.dat script_, Sl.dat way_1, Sl.dat other_9, Sl.dat odd_10, _, _, _, _, _, _, _, _] _
    obtain ⟨v13, hok⟩ := hok
    let odd_12 : Int := (((m_l_cell_at script_ (1 : Int)) / (4 : Int)) % (5 : Int))
    refine sx_set (i := 3) sc_law.nd (x := odd_12) (ex_mod (ex_fdiv (ex_call (n := "_law_cell_at") d_l_cell_at (hr.mono (by decide)) (@ea_cons _ _ _ _ _ _ _ _ (ex_var (i := 0) (x := script_) rfl) (@ea_cons _ _ _ _ _ _ _ _ ex_int ea_nil (star_plain rfl _ _)) (star_plain rfl _ _)) ⟨script_, (1 : Int), rfl, v13, rfl⟩ (dvs := []) (dxs := []) (fun _ => trivial)) ex_int ⟨by decide, by decide⟩) ex_int (by decide)) ?_
    change SX _ _ _ [Sl.dat script_, Sl.dat way_1, Sl.dat other_9, Sl.dat odd_12, _, _, _, _, _, _, _, _] _
    exact sx_nil (by repeat' (first | exact trivial | refine ⟨.inr rfl, ?_⟩ | refine ⟨.inl rfl, ?_⟩))
  · replace hok := hok2 hk14
    change SX _ _ _ [Sl.dat script_, Sl.dat way_1, Sl.dat other_9, Sl.dat odd_10, _, _, _, _, _, _, _, _] _
    exact sx_nil (by repeat' (first | exact trivial | refine ⟨.inr rfl, ?_⟩ | refine ⟨.inl rfl, ?_⟩))
  let j15 : Int := cond (decide (((m_l_cell_at script_ (1 : Int)) % (4 : Int)) = (2 : Int))) (let odd_12 : Int := (((m_l_cell_at script_ (1 : Int)) / (4 : Int)) % (5 : Int)); odd_12) odd_10
  let odd_16 : Int := j15
  change SX _ _ _ [Sl.dat script_, Sl.dat way_1, Sl.dat other_9, Sl.dat odd_16, _, _, _, _, _, _, _, _] _
  obtain ⟨v17, hok⟩ := hok
  let p18 : (Trm × List Str) := (m_l_term (cutL script_ (some (2 : Int)) (some (7 : Int))) way_1 odd_16)
  let near_19 : Trm := p18.1
  let words_20 : List Str := p18.2
  refine sx_asg (x := p18) (ex_call (n := "_law_term") d_l_term (hr.mono (by decide)) (@ea_cons _ _ _ _ _ _ _ _ (ex_newL (en_slice (ex_var (i := 0) (x := script_) rfl) (exo_some ex_int) (exo_some ex_int))) (@ea_cons _ _ _ _ _ _ _ _ (ex_var (i := 1) (x := way_1) rfl) (@ea_cons _ _ _ _ _ _ _ _ (ex_var (i := 3) (x := odd_16) rfl) ea_nil (star_plain rfl _ _)) (star_plain rfl _ _)) (star_plain rfl _ _)) ⟨(cutL script_ (some (2 : Int)) (some (7 : Int))), way_1, odd_16, rfl, v17, rfl⟩ (dvs := []) (dxs := []) (fun _ => trivial)) (gx_tup (p := p18) rfl (gxs_cons (gx_name (i := 4) (x := near_19) sc_law.nd) (gxs_cons (gx_name (i := 5) (x := words_20) sc_law.nd) gxs_nil))) ?_
  change SX _ _ _ [Sl.dat script_, Sl.dat way_1, Sl.dat other_9, Sl.dat odd_16, Sl.dat near_19, Sl.dat words_20, _, _, _, _, _, _] _
  obtain ⟨v21, hok⟩ := hok
  let p22 : (Trm × List Str) := (m_l_term (cutL script_ (some (7 : Int)) (some (12 : Int))) other_9 (-1 : Int))
  let far_23 : Trm := p22.1
  let more_24 : List Str := p22.2
  refine sx_asg (x := p22) (ex_call (n := "_law_term") d_l_term (hr.mono (by decide)) (@ea_cons _ _ _ _ _ _ _ _ (ex_newL (en_slice (ex_var (i := 0) (x := script_) rfl) (exo_some ex_int) (exo_some ex_int))) (@ea_cons _ _ _ _ _ _ _ _ (ex_var (i := 2) (x := other_9) rfl) (@ea_cons _ _ _ _ _ _ _ _ (EX.eq (x' := (-1 : Int)) (ex_neg ex_int) (by decide)) ea_nil (star_plain rfl _ _)) (star_plain rfl _ _)) (star_plain rfl _ _)) ⟨(cutL script_ (some (7 : Int)) (some (12 : Int))), other_9, (-1 : Int), rfl, v21, rfl⟩ (dvs := []) (dxs := []) (fun _ => trivial)) (gx_tup (p := p22) rfl (gxs_cons (gx_name (i := 6) (x := far_23) sc_law.nd) (gxs_cons (gx_name (i := 7) (x := more_24) sc_law.nd) gxs_nil))) ?_
  change SX _ _ _ [Sl.dat script_, Sl.dat way_1, Sl.dat other_9, Sl.dat odd_16, Sl.dat near_19, Sl.dat words_20, Sl.dat far_23, Sl.dat more_24, _, _, _, _] _
  obtain ⟨v26, hok⟩ := hok
  let words_25 : List Str := (words_20 ++ more_24)
  refine sx_set (i := 5) sc_law.nd (x := words_25) (ex_newL (en_cat (ex_var (i := 5) (x := words_20) rfl) (ex_var (i := 7) (x := more_24) rfl) v26)) ?_
  change SX _ _ _ [Sl.dat script_, Sl.dat way_1, Sl.dat other_9, Sl.dat odd_16, Sl.dat near_19, Sl.dat words_25, Sl.dat far_23, Sl.dat more_24, _, _, _, _] _
  obtain ⟨v31, hok⟩ := hok
  let down_27 : List Str := ((List.filter (fun (x28 : Str) => ([(Str.ofString "top"), (Str.ofString "height"), (Str.ofString "bottom"), (Str.ofString "centre"), (Str.ofString "drop")].any fun y => decide (y = x28))) words_25).map (fun (x28 : Str) => x28))
  refine sx_newLc (i := 8) (own := [("_law_word", 10)]) (tt := (tTb _ _ _)) (g := (gName 10)) _ (fun (x28 : Str) => x28) (fun (x28 : Str) => ([(Str.ofString "top"), (Str.ofString "height"), (Str.ofString "bottom"), (Str.ofString "centre"), (Str.ofString "drop")].any fun y => decide (y = x28))) rfl sc_law.nd (blkOk_by (N := ["_law_script", "_law_way", "_law_other", "_law_odd", "_law_near", "_law_words", "_law_far", "_law_more", "_law_down", "_law_due", "_law_word", "_law_kind"]) (sc := defScope s_law) (by decide +kernel)) (R.ix_list (ex_var (i := 5) (x := words_25) rfl)) v31 (tg_name (wipe_1 10)) (hww_1 10) (fun _ _ _ _ _ => pg_name (i := 10) sc_law.nd rfl (Or.inl rfl)) (fun s' H' C' cl' fp' => mTb s' H' C' cl' fp') (fun x28 hx29 => et_b (fun _ _ _ _ _ => (et_inS (ex_var (i := 10) (x := x28) rfl) (ex_newL (en_lst (xs := [(Str.ofString "top"), (Str.ofString "height"), (Str.ofString "bottom"), (Str.ofString "centre"), (Str.ofString "drop")]) (@ea_cons _ _ _ _ _ _ _ _ ex_str (@ea_cons _ _ _ _ _ _ _ _ ex_str (@ea_cons _ _ _ _ _ _ _ _ ex_str (@ea_cons _ _ _ _ _ _ _ _ ex_str (@ea_cons _ _ _ _ _ _ _ _ ex_str ea_nil (star_plain rfl _ _)) (star_plain rfl _ _)) (star_plain rfl _ _)) (star_plain rfl _ _)) (star_plain rfl _ _))))))) (fun x28 hx29 ht30 => fun _ _ _ _ _ => (ex_var (i := 10) (x := x28) rfl)) ?_ rfl rfl (sw_true rfl rfl rfl (by decide +kernel))
  refine sx_frzL (i := 8) (xs := down_27) rfl ?_
  change SX _ _ _ [Sl.dat script_, Sl.dat way_1, Sl.dat other_9, Sl.dat odd_16, Sl.dat near_19, Sl.dat words_25, Sl.dat far_23, Sl.dat more_24, Sl.dat down_27, _, _, _] _
  let due_32 : Str := (Str.ofString "across")
  refine sx_set (i := 9) sc_law.nd (x := due_32) ex_str ?_
  change SX _ _ _ [Sl.dat script_, Sl.dat way_1, Sl.dat other_9, Sl.dat odd_16, Sl.dat near_19, Sl.dat words_25, Sl.dat far_23, Sl.dat more_24, Sl.dat down_27, Sl.dat due_32, _, _] _
  obtain ⟨hok1, hok2, hok⟩ := hok
  refine sx_ifj' (k := (!deq down_27 ([] : List Str))) (fun (s : Str) (e : Env') => (List.set e 9 (.dat s))) ((let due_33 : Str := (Str.ofString "down"); due_33) : Str) (due_32 : Str) (et_neD (hu64 hr) (ex_var (i := 8) (x := down_27) rfl) (ex_newL (en_nil (α := Str)))) (fun hk34 => ?_) (fun hk34 => ?_) ?_
  · replace hok := hok1 hk34
    change SX _ _ _ [Sl.dat script_, Sl.dat way_1, Sl.dat other_9, Sl.dat odd_16, Sl.dat near_19, Sl.dat words_25, Sl.dat far_23, Sl.dat more_24, Sl.dat down_27, Sl.dat due_32, _, _] _
    let due_33 : Str := (Str.ofString "down")
    refine sx_set (i := 9) sc_law.nd (x := due_33) ex_str ?_
    change SX _ _ _ [Sl.dat script_, Sl.dat way_1, Sl.dat other_9, Sl.dat odd_16, Sl.dat near_19, Sl.dat words_25, Sl.dat far_23, Sl.dat more_24, Sl.dat down_27, Sl.dat due_33, _, _] _
    exact sx_nil (by repeat' (first | exact trivial | refine ⟨.inr rfl, ?_⟩ | refine ⟨.inl rfl, ?_⟩))
  · replace hok := hok2 hk34
    change SX _ _ _ [Sl.dat script_, Sl.dat way_1, Sl.dat other_9, Sl.dat odd_16, Sl.dat near_19, Sl.dat words_25, Sl.dat far_23, Sl.dat more_24, Sl.dat down_27, Sl.dat due_32, _, _] _
    exact sx_nil (by repeat' (first | exact trivial | refine ⟨.inr rfl, ?_⟩ | refine ⟨.inl rfl, ?_⟩))
  let j35 : Str := cond (!deq down_27 ([] : List Str)) (let due_33 : Str := (Str.ofString "down"); due_33) due_32
  let due_36 : Str := j35
  change SX _ _ _ [Sl.dat script_, Sl.dat way_1, Sl.dat other_9, Sl.dat odd_16, Sl.dat near_19, Sl.dat words_25, Sl.dat far_23, Sl.dat more_24, Sl.dat down_27, Sl.dat due_36, _, _] _
  obtain ⟨hok1, hok2, hok⟩ := hok
  refine sx_ifj' (k := ((!deq down_27 ([] : List Str)) && (decide ((down_27.length : Int) < (words_25.length : Int))))) (fun (s : Str) (e : Env') => (List.set e 9 (.dat s))) ((let due_38 : Str := (Str.ofString "mixed"); due_38) : Str) (due_36 : Str) (et_bool (ew_and (et_neD (hu64 hr) (ex_var (i := 8) (x := down_27) rfl) (ex_newL (en_nil (α := Str)))) (fun hk37 => (ew_and1 (et_lt (ex_len T.b_len (ex_var (i := 8) (x := down_27) rfl)) (ex_len T.b_len (ex_var (i := 5) (x := words_25) rfl))))))) (fun hk39 => ?_) (fun hk39 => ?_) ?_
  · replace hok := hok1 hk39
    change SX _ _ _ [Sl.dat script_, Sl.dat way_1, Sl.dat other_9, Sl.dat odd_16, Sl.dat near_19, Sl.dat words_25, Sl.dat far_23, Sl.dat more_24, Sl.dat down_27, Sl.dat due_36, _, _] _
    let due_38 : Str := (Str.ofString "mixed")
    refine sx_set (i := 9) sc_law.nd (x := due_38) ex_str ?_
    change SX _ _ _ [Sl.dat script_, Sl.dat way_1, Sl.dat other_9, Sl.dat odd_16, Sl.dat near_19, Sl.dat words_25, Sl.dat far_23, Sl.dat more_24, Sl.dat down_27, Sl.dat due_38, _, _] _
    exact sx_nil (by repeat' (first | exact trivial | refine ⟨.inr rfl, ?_⟩ | refine ⟨.inl rfl, ?_⟩))
  · replace hok := hok2 hk39
    change SX _ _ _ [Sl.dat script_, Sl.dat way_1, Sl.dat other_9, Sl.dat odd_16, Sl.dat near_19, Sl.dat words_25, Sl.dat far_23, Sl.dat more_24, Sl.dat down_27, Sl.dat due_36, _, _] _
    exact sx_nil (by repeat' (first | exact trivial | refine ⟨.inr rfl, ?_⟩ | refine ⟨.inl rfl, ?_⟩))
  let j40 : Str := cond ((!deq down_27 ([] : List Str)) && (decide ((down_27.length : Int) < (words_25.length : Int)))) (let due_38 : Str := (Str.ofString "mixed"); due_38) due_36
  let due_41 : Str := j40
  change SX _ _ _ [Sl.dat script_, Sl.dat way_1, Sl.dat other_9, Sl.dat odd_16, Sl.dat near_19, Sl.dat words_25, Sl.dat far_23, Sl.dat more_24, Sl.dat down_27, Sl.dat due_41, _, _] _
  obtain ⟨v45, v46, hok⟩ := hok
  refine sx_ret (x := (deq (List.map (fun (x42 : Int) => (m_l_made x42 near_19 far_23)) (rangeI (3 : Int))) [due_41, due_41, due_41])) (ex_eqD (hu64 hr) (ex_newL (en_all (en_lc (own := [("_law_kind", 11)]) (tt := tYes) (g := (gName 11)) _ (fun (x42 : Int) => (m_l_made x42 near_19 far_23)) (fun (x42 : Int) => true) rfl sc_law.nd (blkOk_by (N := ["_law_script", "_law_way", "_law_other", "_law_odd", "_law_near", "_law_words", "_law_far", "_law_more", "_law_down", "_law_due", "_law_word", "_law_kind"]) (sc := defScope s_law) (by decide +kernel)) (ix_range1 T.b_range ex_int (by decide)) v46 (tg_name (wipe_1 11)) (hww_1 11) (fun _ _ _ _ _ => pg_name (i := 11) sc_law.nd rfl (Or.inl rfl)) (fun _ _ _ _ _ => pts_nil) (fun _ _ => et_yes) (fun x42 hx43 ht44 => fun _ _ _ _ _ => (ex_call (n := "_law_made") d_l_made (hr.mono (by decide)) (@ea_cons _ _ _ _ _ _ _ _ (ex_var (i := 11) (x := x42) rfl) (@ea_cons _ _ _ _ _ _ _ _ (ex_var (i := 4) (x := near_19) rfl) (@ea_cons _ _ _ _ _ _ _ _ (ex_var (i := 6) (x := far_23) rfl) ea_nil (star_plain rfl _ _)) (star_plain rfl _ _)) (star_plain rfl _ _)) ⟨x42, near_19, far_23, rfl, (v45 x42 hx43 ht44), rfl⟩ (dvs := []) (dxs := []) (fun _ => trivial)))))) (ex_newL (en_lst (xs := [due_41, due_41, due_41]) (@ea_cons _ _ _ _ _ _ _ _ (ex_var (i := 9) (x := due_41) rfl) (@ea_cons _ _ _ _ _ _ _ _ (ex_var (i := 9) (x := due_41) rfl) (@ea_cons _ _ _ _ _ _ _ _ (ex_var (i := 9) (x := due_41) rfl) ea_nil (star_plain rfl _ _)) (star_plain rfl _ _)) (star_plain rfl _ _))))) ?_
  exact hR
end G
set_option maxHeartbeats 1000000
set_option autoImplicit false
/-! isinstance's answers by the table of heirs -/
namespace R
open PySem PySem.Spec PyProof.Rows L2
theorem kitR {K : PySem.W.Frag} {C D : Addr} {b : Bool} (y : PySem.W.hasDictIn K D = true) (t : PySem.W.typeIn K (.ref D) = some (.type "type")) (s0 : PySem.W.subIn K (.ref D) (.ref D) = some true) (s1 : PySem.W.subIn K (.ref C) (.ref D) = some b) : PySem.W.kitOne K (.ref C) (.ref D) = some b := by
  unfold PySem.W.kitOne
  by_cases h : C = D
  · subst h
    rw [s0] at s1
    rw [if_pos (by simp)]
    exact s1
  · rw [if_neg (by simpa using h)]
    obtain ⟨cd, hc, _⟩ := PySem.W.any_some y
    have e2 : ((PySem.W.clsIn K D).isSome && PySem.W.typeIn K (.ref D) == some (.type "type")) = true := by rw [hc, t] <;> rfl
    show (if ((PySem.W.clsIn K D).isSome && PySem.W.typeIn K (.ref D) == some (.type "type")) = true then PySem.W.subIn K (.ref C) (.ref D) else none) = some b
    rw [if_pos e2]
    exact s1
theorem kitN {K : PySem.W.Frag} {D : Addr} {b : Bool} (y : PySem.W.hasDictIn K D = true) (t : PySem.W.typeIn K (.ref D) = some (.type "type")) (s1 : PySem.W.subIn K (.type "NoneType") (.ref D) = some b) : PySem.W.kitOne K (.type "NoneType") (.ref D) = some b := by
  unfold PySem.W.kitOne
  rw [if_neg (by simp)]
  obtain ⟨cd, hc, _⟩ := PySem.W.any_some y
  have e2 : ((PySem.W.clsIn K D).isSome && PySem.W.typeIn K (.ref D) == some (.type "type")) = true := by rw [hc, t] <;> rfl
  show (if ((PySem.W.clsIn K D).isSome && PySem.W.typeIn K (.ref D) == some (.type "type")) = true then PySem.W.subIn K (.type "NoneType") (.ref D) else none) = some b
  rw [if_pos e2]
  exact s1
end R
set_option maxHeartbeats 400000
set_option autoImplicit false
/-! plain: dicts, loops, fractions -/
namespace R
open PySem PySem.Spec PyProof.Rows L2
section
variable {α : Type}
theorem lookD_cons_eq (p : Str × α) (r : List (Str × α)) (k : Str) (h : p.1 = k) : lookD (p :: r) k = some p.2 := by unfold lookD; rw [List.find?_cons, decide_eq_true h]; rfl
theorem lookD_cons_ne (p : Str × α) (r : List (Str × α)) (k : Str) (h : ¬ p.1 = k) : lookD (p :: r) k = lookD r k := by unfold lookD; rw [List.find?_cons, decide_eq_false h]
theorem lookD_none {kvs : List (Str × α)} {k : Str} : k ∉ kvs.map Prod.fst → lookD kvs k = none := by
  induction kvs with
  | nil => intro _; rfl
  | cons p r ih =>
    intro h
    rw [List.map_cons, List.mem_cons] at h
    rw [lookD_cons_ne _ _ _ (fun e => h (.inl e.symm)), ih fun z => h (.inr z)]
theorem lookD_some {kvs : List (Str × α)} {k : Str} : k ∈ kvs.map Prod.fst → ∃ x, lookD kvs k = some x ∧ (k, x) ∈ kvs := by
  induction kvs with
  | nil => intro h; cases h
  | cons p r ih =>
    intro h
    by_cases e : p.1 = k
    · exact ⟨p.2, lookD_cons_eq _ _ _ e, by rw [← e]; exact List.mem_cons_self⟩
    · rw [lookD_cons_ne _ _ _ e]
      rw [List.map_cons, List.mem_cons] at h
      obtain ⟨x, h1, h2⟩ := ih (h.resolve_left fun z => e z.symm)
      exact ⟨x, h1, List.mem_cons_of_mem _ h2⟩
theorem lookD_app {kvs ls : List (Str × α)} {k : Str} : lookD (kvs ++ ls) k = (lookD kvs k).or (lookD ls k) := by
  induction kvs with
  | nil => rfl
  | cons p r ih =>
    by_cases e : p.1 = k
    · rw [List.cons_append, lookD_cons_eq _ _ _ e, lookD_cons_eq _ _ _ e]; rfl
    · rw [List.cons_append, lookD_cons_ne _ _ _ e, lookD_cons_ne _ _ _ e, ih]
theorem any_keys (kvs : List (Str × α)) (k : Str) : (kvs.any fun p => decide (p.1 = k)) = true ↔ k ∈ kvs.map Prod.fst := by
  rw [List.any_eq_true, List.mem_map]
  constructor
  · rintro ⟨p, h1, h2⟩; exact ⟨p, h1, of_decide_eq_true h2⟩
  · rintro ⟨p, h1, h2⟩; exact ⟨p, h1, decide_eq_true h2⟩
theorem putD_new {kvs : List (Str × α)} {k : Str} {x : α} (h : k ∉ kvs.map Prod.fst) : putD kvs k x = kvs ++ [(k, x)] := by
  unfold putD
  rw [if_neg fun z => h ((any_keys kvs k).mp z)]
theorem putD_keys (kvs : List (Str × α)) (k : Str) (x : α) : (putD kvs k x).map Prod.fst = if k ∈ kvs.map Prod.fst then kvs.map Prod.fst else kvs.map Prod.fst ++ [k] := by
  unfold putD
  by_cases h : k ∈ kvs.map Prod.fst
  · rw [if_pos ((any_keys kvs k).mpr h), if_pos h, List.map_map]
    refine List.map_congr_left fun p _ => ?_
    show (if p.1 = k then (p.1, x) else p).1 = p.1
    split <;> rfl
  · rw [if_neg fun z => h ((any_keys kvs k).mp z), if_neg h, List.map_append]; rfl
theorem putD_nodup {kvs : List (Str × α)} {k : Str} {x : α} (h : (kvs.map Prod.fst).Nodup) : ((putD kvs k x).map Prod.fst).Nodup := by
  rw [putD_keys]
  split
  · exact h
  · rename_i n
    rw [List.nodup_append]
    exact ⟨h, by simp, fun a ha b hb e => by rw [List.mem_singleton] at hb; subst hb; subst e; exact n ha⟩
theorem lookD_put_same {kvs : List (Str × α)} {k : Str} {x : α} : lookD (putD kvs k x) k = some x := by
  unfold putD
  by_cases h : k ∈ kvs.map Prod.fst
  · rw [if_pos ((any_keys kvs k).mpr h)]
    induction kvs with
    | nil => cases h
    | cons p r ih =>
      rw [List.map_cons]
      by_cases e : p.1 = k
      · rw [if_pos e]; exact lookD_cons_eq _ _ _ e
      · rw [if_neg e, lookD_cons_ne _ _ _ e]
        rw [List.map_cons, List.mem_cons] at h
        exact ih (h.resolve_left fun z => e z.symm)
  · rw [if_neg fun z => h ((any_keys kvs k).mp z), lookD_app, lookD_none h]
    exact lookD_cons_eq _ _ _ rfl
theorem lookD_put_ne {kvs : List (Str × α)} {k j : Str} {x : α} (hj : j ≠ k) : lookD (putD kvs k x) j = lookD kvs j := by
  unfold putD
  by_cases h : k ∈ kvs.map Prod.fst
  · rw [if_pos ((any_keys kvs k).mpr h)]
    clear h
    induction kvs with
    | nil => rfl
    | cons p r ih =>
      rw [List.map_cons]
      by_cases e : p.1 = k
      · rw [if_pos e, lookD_cons_ne (p.1, x) _ _ (fun z => hj (z.symm.trans e)), lookD_cons_ne _ _ _ (fun z => hj (z.symm.trans e)), ih]
      · rw [if_neg e]
        by_cases e2 : p.1 = j
        · rw [lookD_cons_eq _ _ _ e2, lookD_cons_eq _ _ _ e2]
        · rw [lookD_cons_ne _ _ _ e2, lookD_cons_ne _ _ _ e2, ih]
  · rw [if_neg fun z => h ((any_keys kvs k).mp z), lookD_app, lookD_cons_ne _ _ _ (fun z => hj z.symm)]
    show (lookD kvs j).or none = _
    cases lookD kvs j <;> rfl
theorem eqD_refl [Dat α] [DEq α] (hr : ∀ x : α, DEq.eqv x x = true) {kvs : List (Str × α)} (h : (kvs.map Prod.fst).Nodup) : eqD kvs kvs = true := by
  unfold eqD
  rw [beq_self_eq_true, Bool.true_and, List.all_eq_true]
  intro p hp
  unfold hitE
  rw [lookD_mem h hp]
  exact hr p.2
theorem deq_rat (x y : Rat) : deq x y = decide (x = y) := rfl
theorem deq_dict {x y : Dc α} [Dat α] [DEq α] : deq x y = eqD x.kvs y.kvs := rfl
end
section
variable {S τ : Type}
theorem fold_inv (I : List τ → S → Prop) {okb : S → τ → Prop} {step : S → τ → S} (h : ∀ x r s, I (x :: r) s → okb s x ∧ I r (step s x)) : ∀ (xs : List τ) (s : S), I xs s → okFold okb step s xs ∧ I [] (xs.foldl step s)
  | [], s, i => ⟨trivial, i⟩
  | x :: r, s, i => by
    obtain ⟨h1, h2⟩ := h x r s i
    obtain ⟨h3, h4⟩ := fold_inv I h r (step s x) h2
    exact ⟨⟨h1, h3⟩, h4⟩
theorem fold_range (I : Nat → S → Prop) {okb : S → Int → Prop} {step : S → Int → S} {n : Int} {s : S} (h0 : I 0 s) (h : ∀ (i : Nat) s, (i : Int) < n → I i s → okb s (i : Int) ∧ I (i + 1) (step s (i : Int))) : okFold okb step s (rangeI n) ∧ I n.toNat ((rangeI n).foldl step s) := by
  have key := fold_inv (fun (r : List Int) s => ∃ i, i ≤ n.toNat ∧ r = (rangeI n).drop i ∧ I i s) (okb := okb) (step := step) (fun x r s ⟨i, hi, hr, hI⟩ => by
    obtain ⟨g1, g2, g3⟩ := drop_cons hr.symm
    have hl : (rangeI n).length = n.toNat := by unfold rangeI; simp
    have hx : x = (i : Int) := by
      unfold rangeI at g1
      rw [List.getElem?_map, List.getElem?_range (by omega)] at g1
      exact (Option.some.inj g1).symm
    subst hx
    obtain ⟨k1, k2⟩ := h i s (by omega) hI
    exact ⟨k1, i + 1, by omega, g2.symm, k2⟩) (rangeI n) s ⟨0, Nat.zero_le _, rfl, h0⟩
  obtain ⟨k1, i, hi, hr, hI⟩ := key
  have hl : (rangeI n).length = n.toNat := by unfold rangeI; simp
  have : i = n.toNat := by
    have := congrArg List.length hr
    rw [List.length_drop, hl] at this
    simp at this
    omega
  subst this
  exact ⟨k1, hI⟩
theorem run_inv {ρ : Type} (I : List τ → S → Prop) {okb : S → τ → Prop} {step : S → τ → Stp S ρ} (h : ∀ x r s, I (x :: r) s → okb s x ∧ ∃ s', step s x = .go s' ∧ I r s') : ∀ (xs : List τ) (s : S), I xs s → okRun okb step s xs ∧ ∃ s', runL step s xs = .go s' ∧ I [] s'
  | [], s, i => ⟨trivial, s, rfl, i⟩
  | x :: r, s, i => by
    obtain ⟨h1, s', h2, h3⟩ := h x r s i
    obtain ⟨h4, s2, h5, h6⟩ := run_inv I h r s' h3
    refine ⟨⟨h1, ?_⟩, s2, ?_, h6⟩
    · rw [h2]; exact h4
    · show (match step s x with | .go s' => runL step s' r | .brk s' => .brk s' | .ret r => .ret r) = _
      rw [h2]; exact h5
end
/-! fractions by their parts -/
theorem divInt_pos {t b : Int} (hb : 0 < b) : 0 < (Rat.divInt t b).num ↔ 0 < t := by
  have e := divInt_cross (t := t) (Int.ne_of_gt hb)
  have hd := den_pos (Rat.divInt t b)
  constructor
  · intro h
    have h1 : 0 < (Rat.divInt t b).num * b := Int.mul_pos h hb
    rw [e] at h1
    exact Int.pos_of_mul_pos_right h1 hd
  · intro h
    have h1 : 0 < (((Rat.divInt t b).den : Nat) : Int) * t := Int.mul_pos hd h
    rw [← e] at h1
    exact Int.pos_of_mul_pos_left h1 hb
theorem absI_eq (i : Int) : absI i = (i.natAbs : Int) := by unfold absI; split <;> omega
theorem isQ_abs {t b : Int} (h : IsQ t b) : IsQ (absI t) b := ⟨h.1, by rw [← h.2]; unfold Int.gcd; rw [absI_nat]⟩
theorem divInt_own (q : Rat) : Rat.divInt q.num ((q.den : Nat) : Int) = q := Rat.num_divInt_den q
theorem divInt_abs {t b : Int} (hb : 0 < b) : Rat.divInt (absI (Rat.divInt t b).num) (((Rat.divInt t b).den : Nat) : Int) = Rat.divInt (absI t) b := by
  rw [Rat.divInt_eq_divInt_iff (Int.ne_of_gt (den_pos _)) (Int.ne_of_gt hb), absI_eq, absI_eq]
  have e := congrArg Int.natAbs (divInt_cross (t := t) (Int.ne_of_gt hb))
  rw [Int.natAbs_mul, Int.natAbs_mul, Int.natAbs_natCast] at e
  have eb : b = (b.natAbs : Int) := by omega
  rw [eb]
  have e2 : (((Rat.divInt t b).num.natAbs * b.natAbs : Nat) : Int) = (((Rat.divInt t b).den * t.natAbs : Nat) : Int) := congrArg Int.ofNat e
  rw [Int.natCast_mul, Int.natCast_mul] at e2
  rw [← eb]
  rw [← eb] at e2
  rw [e2, Int.mul_comm]
end R
set_option maxHeartbeats 1000000
set_option autoImplicit false
/-! plain: texts, parts of lists -/
namespace R
open PySem PySem.Spec PyProof.Rows L2
theorem sl_app (a b : Str) : (a ++ b).length = a.length + b.length := Str.length_append a b
theorem sl_at (x : Str) (i : Int) : (strAt x i).length = 1 := rfl
theorem sl_cut (x : Str) (lo hi : Option Int) : (cutSt x lo hi).length ≤ x.length := by
  unfold cutSt cutS
  show Array.size _ ≤ _
  rw [List.size_toArray, List.length_take, List.length_drop]
  have : x.cps.toList.length = x.length := by rw [Array.length_toList]; rfl
  omega
theorem sl_rep (x : Str) (n : Int) : (repS x n).length = n.toNat * x.length := by
  unfold repS
  show Array.size _ = _
  generalize n.toNat = m
  have : ∀ (m : Nat) (a : Array Nat), ((List.replicate m x.cps).foldl (· ++ ·) a).size = a.size + m * x.length := by
    intro m
    induction m with
    | zero => intro a; simp
    | succ m ih =>
      intro a
      rw [List.replicate_succ, List.foldl_cons, ih, Array.size_append, Nat.add_mul]
      show a.size + x.length + _ = _
      omega
  rw [this]
  simp
theorem sl_show {i : Int} {k : Nat} (hk : 0 < k) (h : i.natAbs < 2 ^ k) : (showI i).length ≤ k + 1 := by
  unfold showI
  rw [PySem.ofString_length]
  refine int_text_length_le hk ?_
  by_cases z : i.natAbs = 0
  · rw [z]; simpa using hk
  · exact (Nat.log2_lt z).mpr h
theorem shown {i : Int} {k : Nat} (h : i.natAbs < 2 ^ k) (hk : 0 < k) (hk2 : k ≤ 1920) : Shown i := by
  unfold Shown
  refine Nat.lt_of_lt_of_le ?_ hk2
  by_cases z : i.natAbs = 0
  · rw [z]; simpa using hk
  · exact (Nat.log2_lt z).mpr h
theorem cutL_from {τ : Type} (xs : List τ) (a : Nat) : cutL xs (some (a : Int)) none = xs.drop a := by
  unfold cutL
  rw [HT.sIx_nat, HT.sIx_none]
  by_cases h : a ≤ xs.length
  · rw [Nat.min_eq_left h, List.take_of_length_le (by rw [List.length_drop]; exact Nat.le_refl _)]
  · rw [Nat.min_eq_right (by omega), List.drop_of_length_le (Nat.le_refl _), List.drop_of_length_le (by omega)]; simp
theorem cutL_to {τ : Type} (xs : List τ) (b : Nat) : cutL xs none (some (b : Int)) = xs.take b := by
  unfold cutL
  rw [HT.sIx_nat, HT.sIx_none, List.drop_zero, Nat.sub_zero]
  by_cases h : b ≤ xs.length
  · rw [Nat.min_eq_left h]
  · rw [Nat.min_eq_right (by omega), List.take_of_length_le (Nat.le_refl _), List.take_of_length_le (by omega)]
theorem cutL_ab {τ : Type} (xs : List τ) (a b : Nat) : cutL xs (some (a : Int)) (some (b : Int)) = (xs.drop a).take (b - a) := by
  unfold cutL
  rw [HT.sIx_nat, HT.sIx_nat]
  by_cases h : a ≤ xs.length
  · rw [Nat.min_eq_left h]
    by_cases h2 : b ≤ xs.length
    · rw [Nat.min_eq_left h2]
    · rw [Nat.min_eq_right (by omega), List.take_of_length_le (by rw [List.length_drop]; exact Nat.le_refl _), List.take_of_length_le (by rw [List.length_drop]; omega)]
  · rw [List.drop_of_length_le (show xs.length ≤ min a xs.length by omega), List.drop_of_length_le (show xs.length ≤ a by omega)]; simp
theorem cutL_len {τ : Type} (xs : List τ) (lo hi : Option Int) : (cutL xs lo hi).length ≤ xs.length := by
  unfold cutL
  rw [List.length_take, List.length_drop]
  omega
theorem cutL_mem {τ : Type} {xs : List τ} {lo hi : Option Int} {x : τ} (h : x ∈ cutL xs lo hi) : x ∈ xs := List.mem_of_mem_drop (List.mem_of_mem_take h)
theorem getD_mem {τ : Type} {xs : List τ} {d : τ} {i : Nat} (h : i < xs.length) : xs.getD i d ∈ xs := by
  rw [List.getD_eq_getElem?_getD, List.getElem?_eq_getElem h]
  exact List.getElem_mem h
theorem deq_str (x y : Str) : deq x y = decide (x = y) := rfl
theorem mem_rangeI {n x : Int} : x ∈ rangeI n ↔ 0 ≤ x ∧ x < n := by
  unfold rangeI
  rw [List.mem_map]
  constructor
  · rintro ⟨k, h1, h2⟩
    rw [List.mem_range] at h1
    have : (k : Int) = x := h2
    omega
  · intro h
    exact ⟨x.toNat, List.mem_range.mpr (by omega), by show ((x.toNat : Nat) : Int) = x; omega⟩
theorem mem_rangeAB {a b x : Int} : x ∈ rangeAB a b ↔ a ≤ x ∧ x < b := by
  unfold rangeAB
  rw [List.mem_map]
  constructor
  · rintro ⟨k, h1, h2⟩
    rw [List.mem_range] at h1
    omega
  · intro h
    exact ⟨(x - a).toNat, List.mem_range.mpr (by omega), by omega⟩
theorem len_rangeI (n : Int) : (rangeI n).length = n.toNat := by unfold rangeI; simp
theorem len_rangeAB (a b : Int) : (rangeAB a b).length = (b - a).toNat := by unfold rangeAB; simp
/-- a loop that appends is a map -/
theorem fold_app {σ τ : Type} {okb : List τ → σ → Prop} {step : List τ → σ → List τ} (f : σ → List τ) (N : Nat) : ∀ (xs : List σ) (acc : List τ), (∀ x ∈ xs, (f x).length ≤ N) → (∀ acc x, x ∈ xs → acc.length < 100000 - N → okb acc x ∧ step acc x = acc ++ f x) → acc.length + xs.length * N < 100000 - N → okFold okb step acc xs ∧ xs.foldl step acc = acc ++ xs.flatMap f
  | [], acc, _, _, _ => ⟨trivial, by simp⟩
  | x :: r, acc, hN, h, hl => by
    rw [List.length_cons, Nat.add_mul] at hl
    obtain ⟨h1, h2⟩ := h acc x List.mem_cons_self (by omega)
    have hx := hN x List.mem_cons_self
    obtain ⟨h3, h4⟩ := fold_app f N r (step acc x) (fun y hy => hN y (List.mem_cons_of_mem _ hy)) (fun a y hy => h a y (List.mem_cons_of_mem _ hy)) (by rw [h2, List.length_append]; omega)
    exact ⟨⟨h1, h3⟩, by rw [List.foldl_cons, h4, h2, List.flatMap_cons, List.append_assoc]⟩
/-- a test in a loop that always goes on -/
theorem run_all {σ τ : Type} {okb : Unit → σ → Prop} {step : Unit → σ → Stp Unit τ} : ∀ (xs : List σ), (∀ x ∈ xs, okb () x ∧ step () x = .go ()) → okRun okb step () xs ∧ runL step () xs = .go ()
  | [], _ => ⟨trivial, rfl⟩
  | x :: r, h => by
    obtain ⟨h1, h2⟩ := h x List.mem_cons_self
    obtain ⟨h3, h4⟩ := run_all (okb := okb) (step := step) r fun y hy => h y (List.mem_cons_of_mem _ hy)
    refine ⟨⟨h1, by rw [h2]; exact h3⟩, ?_⟩
    unfold runL
    rw [h2]; exact h4
theorem fin_eq {S ρ τ : Type} {o : Stp S ρ} {k : S → τ} {h : ρ → τ} {s : S} (e : o = .go s) : o.fin k h = k s := by rw [e]; rfl
theorem go_inj {S ρ : Type} {o : Stp S ρ} {s s' : S} (e : o = .go s) (h : o = .go s' ∨ o = .brk s') : s' = s := by
  rw [e] at h
  rcases h with h | h
  · cases h; rfl
  · cases h
theorem eqL_refl {α : Type} [Dat α] [DEq α] (hr : ∀ x : α, DEq.eqv x x = true) : ∀ xs : List α, eqL xs xs = true
  | [] => rfl
  | x :: xs => by
    show (DEq.eqv x x && eqL xs xs) = true
    rw [hr, eqL_refl hr xs]; rfl
theorem deq_ls (xs : List Str) : deq xs xs = true := eqL_refl (fun x => decide_eq_true rfl) xs
end R
set_option maxHeartbeats 1000000
set_option autoImplicit false
/-! plain: sums of fractions -/
namespace R
open PySem PySem.Spec PyProof.Rows L2
def sumQ : List Rat → Rat
  | [] => 0
  | x :: r => x + sumQ r
theorem sumQ_app : ∀ xs ys : List Rat, sumQ (xs ++ ys) = sumQ xs + sumQ ys
  | [], ys => by show sumQ ys = 0 + sumQ ys; rw [Rat.zero_add]
  | x :: r, ys => by show x + sumQ (r ++ ys) = x + sumQ r + sumQ ys; rw [sumQ_app r ys, Rat.add_assoc]
theorem sumQ_one (x : Rat) : sumQ [x] = x := Rat.add_zero x
theorem sumQ_filter {τ : Type} (p : τ → Bool) (f : τ → Rat) : ∀ xs : List τ, sumQ ((xs.filter p).map f) = sumQ (xs.map fun x => if p x = true then f x else 0)
  | [] => rfl
  | x :: r => by
    rw [List.filter_cons, List.map_cons]
    show _ = (if p x = true then f x else 0) + sumQ _
    rw [← sumQ_filter p f r]
    split
    · rfl
    · rw [Rat.zero_add]
theorem sumQ_congr {τ : Type} {f g : τ → Rat} {xs : List τ} (h : ∀ x ∈ xs, f x = g x) : sumQ (xs.map f) = sumQ (xs.map g) := by
  rw [List.map_congr_left h]
theorem sumQ_neg {τ : Type} (f : τ → Rat) : ∀ xs : List τ, sumQ (xs.map fun x => - f x) = - sumQ (xs.map f)
  | [] => by show (0 : Rat) = -0; rw [Rat.neg_zero]
  | x :: r => by
    show - f x + sumQ _ = - (f x + sumQ _)
    rw [sumQ_neg f r]; grind
theorem sumQ_mulr {τ : Type} (f : τ → Rat) (c : Rat) : ∀ xs : List τ, sumQ (xs.map fun x => f x * c) = sumQ (xs.map f) * c
  | [] => by show (0 : Rat) = 0 * c; rw [Rat.zero_mul]
  | x :: r => by
    show f x * c + sumQ _ = (f x + sumQ _) * c
    rw [sumQ_mulr f c r]; grind
theorem fold_qsum {τ : Type} {okb : Rat → τ → Prop} {step : Rat → τ → Rat} (g : τ → Rat) (w N : Nat) : ∀ (xs : List τ) (b : Nat) (s : Rat), QB b s → (∀ x ∈ xs, QB w (g x)) → (∀ x ∈ xs, ∀ n s, QB n s → 0 < n → n ≤ N → okb s x ∧ step s x = s + g x) → 0 < b → b + xs.length * (w + 1) ≤ N →
    okFold okb step s xs ∧ xs.foldl step s = s + sumQ (xs.map g) ∧ QB (b + xs.length * (w + 1)) (s + sumQ (xs.map g))
  | [], b, s, hs, _, _, _, _ => ⟨trivial, by show s = s + 0; rw [Rat.add_zero], by show QB _ (s + 0); rw [Rat.add_zero]; exact hs.mono (by simp)⟩
  | x :: r, b, s, hs, hw, h, hb, hl => by
    rw [List.length_cons, Nat.add_mul] at hl
    obtain ⟨h1, h2⟩ := h x List.mem_cons_self b s hs hb (by omega)
    have hq : QB (b + w + 1) (s + g x) := hs.add (hw x List.mem_cons_self)
    obtain ⟨k1, k2, k3⟩ := fold_qsum (okb := okb) (step := step) g w N r (b + w + 1) (s + g x) hq (fun y hy => hw y (List.mem_cons_of_mem _ hy)) (fun y hy => h y (List.mem_cons_of_mem _ hy)) (by omega) (by omega)
    have e : s + sumQ ((x :: r).map g) = s + g x + sumQ (r.map g) := by
      show s + (g x + sumQ _) = _
      rw [Rat.add_assoc]
    refine ⟨⟨h1, by rw [h2]; exact k1⟩, by rw [List.foldl_cons, h2, k2, e], ?_⟩
    rw [e]
    refine k3.mono ?_
    rw [List.length_cons, Nat.add_mul]
    omega
theorem okFold_app {S τ : Type} {okb : S → τ → Prop} {step : S → τ → S} : ∀ {xs ys : List τ} {s : S}, okFold okb step s xs → okFold okb step (xs.foldl step s) ys → okFold okb step s (xs ++ ys)
  | [], _, _, _, h => h
  | _ :: _, _, _, h, g => ⟨h.1, okFold_app h.2 g⟩
theorem zip_map_get {α β : Type} {xs : List α} {d : α} {g : α → Int → β} {n : Int} (h : n = (xs.length : Int)) {x : α × β} (hx : x ∈ List.zip xs (List.map (fun k : Int => g (xs.getD k.toNat d) k) (rangeI n))) : x.1 ∈ xs ∧ ∃ k, x.2 = g x.1 k := by
  subst h
  obtain ⟨i, hi⟩ := List.getElem?_of_mem hx
  obtain ⟨x1, x2⟩ := x
  rw [List.getElem?_zip_eq_some] at hi
  obtain ⟨h1, h2⟩ := hi
  have hl : i < xs.length := (List.getElem?_eq_some_iff.mp h1).1
  refine ⟨List.mem_of_getElem? h1, (i : Int), ?_⟩
  unfold rangeI at h2
  rw [Int.toNat_natCast, List.map_map, List.getElem?_map, List.getElem?_range hl] at h2
  have h2 : g (xs.getD ((i : Int)).toNat d) (i : Int) = x2 := Option.some.inj h2
  rw [Int.toNat_natCast, List.getD_eq_getElem?_getD, h1] at h2
  exact h2.symm
theorem cutL_nodup {τ : Type} {xs : List τ} (h : xs.Nodup) (lo hi : Option Int) : (cutL xs lo hi).Nodup := h.sublist ((List.take_sublist _ _).trans (List.drop_sublist _ _))
theorem sumQ_qb {τ : Type} (g : τ → Rat) (w : Nat) : ∀ (xs : List τ) (b : Nat) (s : Rat), QB b s → (∀ x ∈ xs, QB w (g x)) → QB (b + xs.length * (w + 1)) (s + sumQ (xs.map g))
  | [], b, s, hs, _ => by show QB _ (s + 0); rw [Rat.add_zero]; exact hs.mono (by simp)
  | x :: r, b, s, hs, hw => by
    have k := sumQ_qb g w r (b + w + 1) (s + g x) (hs.add (hw x List.mem_cons_self)) fun y hy => hw y (List.mem_cons_of_mem _ hy)
    have e : s + sumQ ((x :: r).map g) = s + g x + sumQ (r.map g) := by
      show s + (g x + sumQ _) = _
      rw [Rat.add_assoc]
    rw [e]
    refine k.mono ?_
    rw [List.length_cons, Nat.add_mul]
    omega
theorem QB.one' {n : Nat} (h : 0 < n) : QB n (1 : Rat) := QB.one.mono h
theorem QB.zero' {n : Nat} (h : 0 < n) : QB n (0 : Rat) := QB.zero.mono h
/-- what a table has at a name -/
def cfD (d : Dc Rat) (k : Str) : Rat := (d.look k).getD 0
theorem cfD_no {d : Dc Rat} {k : Str} (h : d.has k = false) : cfD d k = 0 := by
  unfold cfD Dc.look
  unfold Dc.has at h
  cases e : lookD d.kvs k with
  | none => rfl
  | some x => rw [e] at h; cases h
theorem has_some {d : Dc Rat} {k : Str} (h : d.has k = true) : (d.look k).isSome = true := h
theorem look_mem {α : Type} {kvs : List (Str × α)} {k : Str} {x : α} (h : lookD kvs k = some x) : (k, x) ∈ kvs := by
  have hk : k ∈ kvs.map Prod.fst := by
    by_cases z : k ∈ kvs.map Prod.fst
    · exact z
    · rw [lookD_none z] at h; cases h
  obtain ⟨y, h1, h2⟩ := lookD_some hk
  rw [h] at h1
  cases h1
  exact h2
theorem cfD_qb {d : Dc Rat} {n : Nat} (h : ∀ p ∈ d.kvs, QB n p.2) (hn : 0 < n) (k : Str) : QB n (cfD d k) := by
  unfold cfD Dc.look
  cases e : lookD d.kvs k with
  | none => exact QB.zero' hn
  | some x => exact h _ (look_mem e)
theorem lt_sub {x y : Rat} : x < y ↔ 0 < y - x := by
  constructor
  · intro h; grind
  · intro h; grind
theorem numz {x : Rat} (h : x.num = 0) : x = 0 := by
  have := divInt_own x
  rw [h, Rat.zero_divInt] at this
  exact this.symm
theorem num_pos {x : Rat} : 0 < x.num ↔ 0 < x := by
  constructor
  · intro h
    have h1 : 0 ≤ x := Rat.num_nonneg.mp (by omega)
    have h2 : x ≠ 0 := fun z => by subst z; exact absurd h (by decide)
    grind
  · intro h
    have h1 : 0 ≤ x.num := Rat.num_nonneg.mpr (by grind)
    have h2 : x.num ≠ 0 := fun z => by rw [numz z] at h; exact absurd h (by decide)
    omega
theorem num_neg' {x : Rat} : x.num < 0 ↔ x < 0 := by
  constructor
  · intro h
    by_cases z : x < 0
    · exact z
    · have : 0 ≤ x := by grind
      have := Rat.num_nonneg.mpr this
      omega
  · intro h
    by_cases z : x.num < 0
    · exact z
    · have : 0 ≤ x := Rat.num_nonneg.mp (by omega)
      grind
theorem fold_enum {σ τ : Type} {okb : σ → Int × τ → Prop} {step : σ → Int × τ → σ} (I : Nat → σ → Prop) (xs : List τ) (d : τ) {s : σ} (h0 : I 0 s) (h : ∀ (i : Nat) s, i < xs.length → I i s → okb s ((i : Int), xs.getD i d) ∧ I (i + 1) (step s ((i : Int), xs.getD i d))) : okFold okb step s (enumI xs) ∧ I xs.length ((enumI xs).foldl step s) := by
  have hl : (enumI xs).length = xs.length := by unfold enumI; simp
  have key := fold_inv (fun (r : List (Int × τ)) s => ∃ i, i ≤ xs.length ∧ r = (enumI xs).drop i ∧ I i s) (okb := okb) (step := step) (fun x r s ⟨i, hi, hr, hI⟩ => by
    obtain ⟨g1, g2, g3⟩ := drop_cons hr.symm
    rw [hl] at g3
    have hx : x = ((i : Int), xs.getD i d) := by
      unfold enumI at g1
      rw [List.getElem?_mapIdx, List.getElem?_eq_getElem g3] at g1
      have := Option.some.inj g1
      rw [← this, List.getD_eq_getElem?_getD, List.getElem?_eq_getElem g3]
      rfl
    subst hx
    obtain ⟨k1, k2⟩ := h i s g3 hI
    exact ⟨k1, i + 1, by omega, g2.symm, k2⟩) (enumI xs) s ⟨0, Nat.zero_le _, rfl, h0⟩
  obtain ⟨k1, i, hi, hr, hI⟩ := key
  have : i = xs.length := by
    have := congrArg List.length hr
    rw [List.length_drop, hl] at this
    simp at this
    omega
  subst this
  exact ⟨k1, hI⟩
theorem mem_put' {α : Type} {kvs : List (Str × α)} {k : Str} {x : α} {p : Str × α} (h : p ∈ putD kvs k x) : p = (k, x) ∨ p ∈ kvs := by
  unfold putD at h
  split at h
  · obtain ⟨q, h1, h2⟩ := List.mem_map.mp h
    split at h2
    · rename_i e; exact .inl (by rw [← h2, e])
    · exact .inr (by rw [← h2]; exact h1)
  · rcases List.mem_append.mp h with h | h
    · exact .inr h
    · exact .inl (List.mem_singleton.mp h)
/-! rows compared with themselves -/
theorem deq_refl_dc (d : Dc Rat) (h : (d.kvs.map Prod.fst).Nodup) : deq d d = true := eqD_refl (fun x => decide_eq_true rfl) h
theorem deq_refl_l {α : Type} [Dat α] [DEq α] : ∀ xs : List α, (∀ x ∈ xs, DEq.eqv x x = true) → deq xs xs = true := fun xs h => by
  show eqL xs xs = true
  induction xs with
  | nil => rfl
  | cons x r ih =>
    show (DEq.eqv x x && eqL r r) = true
    rw [h x List.mem_cons_self, ih fun y hy => h y (List.mem_cons_of_mem _ hy)]; rfl
theorem deq_refl_row {one : T5 (Dc Rat) Str Rat Int Int} (h : (one.a.kvs.map Prod.fst).Nodup) : DEq.eqv one one = true := by
  show (DEq.eqv one.a one.a && (decide (one.b = one.b) && (decide (one.c = one.c) && (decide (one.d = one.d) && decide (one.e = one.e))))) = true
  rw [show DEq.eqv one.a one.a = true from deq_refl_dc one.a h]
  simp
end R
set_option maxHeartbeats 1000000
set_option autoImplicit false
namespace G
open PySem PySem.Spec PyProof.Rows L2 R
theorem okt_cell (s : List Int) (k : Int) (h : 0 ≤ k) : ok_l_cell_at s k := ⟨fun q => ⟨⟨h, of_decide_eq_true q⟩, trivial⟩, fun _ => trivial⟩
def isDn (w : Str) : Bool := [(Str.ofString "top"), (Str.ofString "height"), (Str.ofString "bottom"), (Str.ofString "centre"), (Str.ofString "drop")].any fun y => decide (y = w)
def hasA : Trm → Bool
  | .number _ => false
  | .edge w _ => !isDn w
  | .times _ t => hasA t
  | .plus s t => hasA s || hasA t
  | .minus s t => hasA s || hasA t
def hasD : Trm → Bool
  | .number _ => false
  | .edge w _ => isDn w
  | .times _ t => hasD t
  | .plus s t => hasD s || hasD t
  | .minus s t => hasD s || hasD t
def WA (a d : Bool) : List Str := cond a (cond d [(Str.ofString "across"), (Str.ofString "down")] [(Str.ofString "across")]) (cond d [(Str.ofString "down")] [])
theorem perm_WA (a b c d : Bool) : (WA (a || c) (b || d)).Perm (RS8.setL (WA a b ++ WA c d)) := by
  revert a b c d
  decide +kernel
theorem rise_WA (a b : Bool) : sortedS (WA a b) = true := by
  revert a b
  decide +kernel
theorem sort_WA (a b c d : Bool) : sortU2 (WA a b) (WA c d) = WA (a || c) (b || d) := (sortS_is (perm_WA a b c d) (rise_WA _ _)).symm
theorem len_WA (a b : Bool) : (WA a b).length ≤ 2 := by
  revert a b
  decide +kernel
theorem set_WA (a b c d : Bool) : decide ((1 : Int) < ((RS8.setL (WA a b ++ WA c d)).length : Int)) = ((a || c) && (b || d)) := by
  revert a b c d
  decide +kernel
theorem any_WA (a b c d : Bool) : ((WA a b ++ WA c d).any fun y => decide (y = (Str.ofString "down"))) = (b || d) := by
  revert a b c d
  decide +kernel
theorem p_ways : ∀ t : Trm, ok_Trm_ways t ∧ m_Trm_ways t = WA (hasA t) (hasD t)
  | .number _ => ⟨trivial, rfl⟩
  | .edge w n => by
    refine ⟨⟨fun _ => trivial, fun _ => trivial⟩, ?_⟩
    show cond (isDn w) _ _ = WA (!isDn w) (isDn w)
    cases isDn w <;> rfl
  | .times _ t => ⟨⟨(p_ways t).1, trivial⟩, (p_ways t).2⟩
  | .plus s t => by
    obtain ⟨s1, s2⟩ := p_ways s
    obtain ⟨t1, t2⟩ := p_ways t
    refine ⟨⟨s1, t1, by rw [s2]; exact len_WA _ _, by rw [t2]; exact len_WA _ _, trivial⟩, ?_⟩
    show sortU2 (m_Trm_ways s) (m_Trm_ways t) = _
    rw [s2, t2, sort_WA]
    rfl
  | .minus s t => by
    obtain ⟨s1, s2⟩ := p_ways s
    obtain ⟨t1, t2⟩ := p_ways t
    refine ⟨⟨s1, t1, by rw [s2]; exact len_WA _ _, by rw [t2]; exact len_WA _ _, trivial⟩, ?_⟩
    show sortU2 (m_Trm_ways s) (m_Trm_ways t) = _
    rw [s2, t2, sort_WA]
    rfl
def mixd (n f : Trm) : Bool := (hasA n || hasA f) && (hasD n || hasD f)
theorem p_init (n f : Trm) (r w : Int) : m_Wish___init__ n f r w = cond (mixd n f) (.error (.one "Mixed")) (.ok ()) := by
  unfold m_Wish___init__ mixd
  rw [(p_ways n).2, (p_ways f).2, set_WA]
theorem k_init (n f : Trm) (r w : Int) (hn : n.depth < 12) (hf : f.depth < 12) : ok_Wish___init__ n f r w := by
  unfold ok_Wish___init__
  exact ⟨hn, (p_ways n).1, hf, (p_ways f).1, by rw [(p_ways n).2]; exact len_WA _ _, by rw [(p_ways f).2]; exact len_WA _ _, fun _ => trivial, fun _ => trivial⟩
def dirS (d : Bool) : Str := cond d (Str.ofString "down") (Str.ofString "across")
theorem p_way {n f : Trm} (hn : n.depth < 12) (hf : f.depth < 12) (x : Wsh) (e1 : x.near = n) (e2 : x.far = f) : ok_Wsh_way x ∧ m_Wsh_way x = dirS (hasD n || hasD f) := by
  have key : n.depth < 12 ∧ ok_Trm_ways n ∧ f.depth < 12 ∧ ok_Trm_ways f ∧ (m_Trm_ways n).length + (m_Trm_ways f).length ≤ 100000 ∧ (((((m_Trm_ways n) ++ (m_Trm_ways f)).any fun y => decide (y = (Str.ofString "down"))) = true → True) ∧ ((((m_Trm_ways n) ++ (m_Trm_ways f)).any fun y => decide (y = (Str.ofString "down"))) = false → True)) := by
    refine ⟨hn, (p_ways n).1, hf, (p_ways f).1, ?_, fun _ => trivial, fun _ => trivial⟩
    rw [(p_ways n).2, (p_ways f).2]
    have := len_WA (hasA n) (hasD n)
    have := len_WA (hasA f) (hasD f)
    omega
  have e3 : (cond (((m_Trm_ways n) ++ (m_Trm_ways f)).any fun y => decide (y = (Str.ofString "down"))) (Str.ofString "down") (Str.ofString "across")) = dirS (hasD n || hasD f) := by
    rw [(p_ways n).2, (p_ways f).2, any_WA]
    rfl
  cases x <;> (subst e1; subst e2; exact ⟨key, e3⟩)
theorem k_alone : ok_l_alone (.one "Mixed") ∧ m_l_alone (.one "Mixed") = true := by
  constructor
  · unfold ok_l_alone
    refine ⟨rfl, ⟨_, rfl⟩, fun _ => rfl, fun _ => ⟨_, rfl⟩, fun _ => trivial, fun _ => ⟨rfl, ⟨_, rfl⟩, trivial⟩⟩
  · rfl
def dueS (n f : Trm) : Str := cond (mixd n f) (Str.ofString "mixed") (dirS (hasD n || hasD f))
theorem p_try {n f : Trm} {α : Type} {m : Except Exn (Option Wsh × Str)} (x : Wsh) (h : m = ((cond (mixd n f) (.error (.one "Mixed")) (.ok ()) : Except Exn Unit).bind fun _ => (.ok x : Except Exn Wsh)).bind (fun w => (.ok (some w, Str.ofString "other")))) : m = cond (mixd n f) (.error (.one "Mixed")) (.ok (some x, Str.ofString "other")) := by
  rw [h]
  cases mixd n f <;> rfl
theorem p_made (k : Int) (n f : Trm) (hn : n.depth < 12) (hf : f.depth < 12) : ok_l_made k n f ∧ m_l_made k n f = dueS n f := by
  obtain ⟨x, e1, e2, ex⟩ : ∃ x : Wsh, x.near = n ∧ x.far = f ∧ ((cond (decide (k = (0 : Int))) (((m_Wish___init__ n f (2 : Int) (5 : Int)).bind fun _ => (.ok (Wsh.just n f (2 : Int) (5 : Int)) : Except Exn Wsh)).bind (fun wish_4 => (.ok ((some wish_4), (Str.ofString "other"))))) (cond (decide (k = (1 : Int))) (((m_Wish___init__ n f (0 : Int) (1 : Int)).bind fun _ => (.ok (Wsh.least n f (0 : Int) (1 : Int)) : Except Exn Wsh)).bind (fun wish_7 => (.ok ((some wish_7), (Str.ofString "other"))))) (((m_Wish___init__ n f (4 : Int) (1000000 : Int)).bind fun _ => (.ok (Wsh.most n f (4 : Int) (1000000 : Int)) : Except Exn Wsh)).bind (fun wish_10 => (.ok ((some wish_10), (Str.ofString "other"))))))) : Except Exn (Option Wsh × Str)) = cond (mixd n f) (.error (.one "Mixed")) (.ok (some x, Str.ofString "other")) := by
    simp only [p_init]
    by_cases h0 : k = 0
    · exact ⟨Wsh.just n f 2 5, rfl, rfl, by rw [decide_eq_true h0]; cases mixd n f <;> rfl⟩
    · by_cases h1 : k = 1
      · exact ⟨Wsh.least n f 0 1, rfl, rfl, by rw [decide_eq_false h0, decide_eq_true h1]; cases mixd n f <;> rfl⟩
      · exact ⟨Wsh.most n f 4 1000000, rfl, rfl, by rw [decide_eq_false h0, decide_eq_false h1]; cases mixd n f <;> rfl⟩
  obtain ⟨w1, w2⟩ := p_way hn hf x e1 e2
  unfold ok_l_made m_l_made
  dsimp only
  rw [ex]
  cases hm : mixd n f with
  | true =>
    refine ⟨⟨fun e h => ?_, ⟨fun _ => ⟨k_init n f _ _ hn hf, fun _ _ => trivial⟩, fun _ => ⟨fun _ => ⟨k_init n f _ _ hn hf, fun _ _ => trivial⟩, fun _ => ⟨k_init n f _ _ hn hf, fun _ _ => trivial⟩⟩⟩, fun e h => ?_, fun h => (by cases h), fun _ => trivial, trivial⟩, ?_⟩
    · have h : Except.error (Exn.one "Mixed") = Except.error e := h
      cases h
      exact ⟨rfl, rfl⟩
    · have h : Except.error (Exn.one "Mixed") = Except.error e := h
      cases h
      refine ⟨k_alone.1, ?_, trivial⟩
      rw [k_alone.2]
      exact ⟨by decide, by decide⟩
    · unfold dueS
      rw [hm]
      rfl
  | false =>
    refine ⟨⟨fun e h => ?_, ⟨fun _ => ⟨k_init n f _ _ hn hf, fun _ _ => trivial⟩, fun _ => ⟨fun _ => ⟨k_init n f _ _ hn hf, fun _ _ => trivial⟩, fun _ => ⟨k_init n f _ _ hn hf, fun _ _ => trivial⟩⟩⟩, fun e h => ?_, fun _ => ⟨rfl, w1, trivial⟩, fun _ => trivial, trivial⟩, ?_⟩
    · cases h
    · cases h
    · unfold dueS
      rw [hm]
      exact w2
/-! the law's terms -/
theorem p_leaf (c w : Int) (h0 : 0 ≤ w) (h1 : w < 3) : ok_l_leaf c w ∧ (m_l_leaf c w).1.depth = 0 ∧ ((m_l_leaf c w).2 = Str.ofString "" → hasA (m_l_leaf c w).1 = false ∧ hasD (m_l_leaf c w).1 = false) ∧ ((m_l_leaf c w).2 ≠ Str.ofString "" → hasA (m_l_leaf c w).1 = (!isDn (m_l_leaf c w).2) ∧ hasD (m_l_leaf c w).1 = isDn (m_l_leaf c w).2) := by
  unfold ok_l_leaf m_l_leaf
  dsimp only
  by_cases hq : ((decide (w = (2 : Int))) || (decide ((c % (4 : Int)) = (0 : Int)))) = true
  · rw [hq]
    refine ⟨⟨fun _ => ⟨⟨by decide, by simp⟩, trivial⟩, fun z => Bool.noConfusion z⟩, rfl, fun _ => ⟨rfl, rfl⟩, fun z => absurd rfl z⟩
  · have hq : ((decide (w = (2 : Int))) || (decide ((c % (4 : Int)) = (0 : Int)))) = false := by simpa using hq
    rw [hq]
    have hw : w = 0 ∨ w = 1 := by
      have : w ≠ 2 := fun z => by rw [decide_eq_true z] at hq; simp at hq
      omega
    obtain ⟨j, hj, ej⟩ : ∃ j : Nat, j < 5 ∧ c / 4 % 5 = (j : Int) := ⟨(c / 4 % 5).toNat, by omega, by omega⟩
    rw [ej]
    refine ⟨⟨fun z => Bool.noConfusion z, fun _ => ⟨⟨h0, by show w < 2; omega⟩, ⟨by omega, ?_⟩, ⟨by omega, by show _ < (3 : Int); omega⟩, trivial⟩⟩, ?_⟩
    · rcases hw with rfl | rfl
      · show (j : Int) < 5
        omega
      · show (j : Int) < 5
        omega
    · have : j = 0 ∨ j = 1 ∨ j = 2 ∨ j = 3 ∨ j = 4 := by omega
      rcases hw with rfl | rfl <;> rcases this with rfl | rfl | rfl | rfl | rfl <;> first | exact ⟨rfl, fun z => absurd (show Str.ofString "left" = Str.ofString "" from z) (by decide), fun _ => ⟨rfl, rfl⟩⟩ | exact ⟨rfl, fun z => absurd (show Str.ofString "width" = Str.ofString "" from z) (by decide), fun _ => ⟨rfl, rfl⟩⟩ | exact ⟨rfl, fun z => absurd (show Str.ofString "right" = Str.ofString "" from z) (by decide), fun _ => ⟨rfl, rfl⟩⟩ | exact ⟨rfl, fun z => absurd (show Str.ofString "middle" = Str.ofString "" from z) (by decide), fun _ => ⟨rfl, rfl⟩⟩ | exact ⟨rfl, fun z => absurd (show Str.ofString "gap" = Str.ofString "" from z) (by decide), fun _ => ⟨rfl, rfl⟩⟩ | exact ⟨rfl, fun z => absurd (show Str.ofString "top" = Str.ofString "" from z) (by decide), fun _ => ⟨rfl, rfl⟩⟩ | exact ⟨rfl, fun z => absurd (show Str.ofString "height" = Str.ofString "" from z) (by decide), fun _ => ⟨rfl, rfl⟩⟩ | exact ⟨rfl, fun z => absurd (show Str.ofString "bottom" = Str.ofString "" from z) (by decide), fun _ => ⟨rfl, rfl⟩⟩ | exact ⟨rfl, fun z => absurd (show Str.ofString "centre" = Str.ofString "" from z) (by decide), fun _ => ⟨rfl, rfl⟩⟩ | exact ⟨rfl, fun z => absurd (show Str.ofString "drop" = Str.ofString "" from z) (by decide), fun _ => ⟨rfl, rfl⟩⟩
def anyA (ws : List Str) : Bool := ws.any fun w => !isDn w
def anyD (ws : List Str) : Bool := ws.any isDn
def Good (i : Nat) (s : List Str × Trm) : Prop := anyA s.1 = hasA s.2 ∧ anyD s.1 = hasD s.2 ∧ s.2.depth ≤ 2 * i ∧ s.1.length ≤ i
theorem p_term (cs : List Int) (w o : Int) (h0 : 0 ≤ w) (h1 : w < 3) (hl : cs.length ≤ 5) : ok_l_term cs w o ∧ anyA (m_l_term cs w o).2 = hasA (m_l_term cs w o).1 ∧ anyD (m_l_term cs w o).2 = hasD (m_l_term cs w o).1 ∧ (m_l_term cs w o).1.depth < 12 ∧ (m_l_term cs w o).2.length ≤ 5 := by
  have F := fold_enum (okb := okb_l_term_3 w o) (step := st_l_term_3 w o) Good cs (0 : Int) (s := (([] : List Str), Trm.number (3 : Rat))) ⟨rfl, rfl, by show (0 : Nat) ≤ 0; omega, by show (0 : Nat) ≤ 0; omega⟩ (fun i s hi ⟨g1, g2, g3, g4⟩ => by
    obtain ⟨ws, t⟩ := s
    have g1 : anyA ws = hasA t := g1
    have g2 : anyD ws = hasD t := g2
    have g3 : t.depth ≤ 2 * i := g3
    have g4 : ws.length ≤ i := g4
    unfold okb_l_term_3 st_l_term_3
    dsimp only
    generalize hu : cond ((decide ((i : Int) = o)) && (decide (w < (2 : Int)))) ((1 : Int) - w) w = u
    have hu0 : 0 ≤ u ∧ u < 3 := by
      rw [← hu]
      by_cases hc : (decide ((i : Int) = o) && decide (w < (2 : Int))) = true
      · rw [hc]
        have : w < 2 := by
          rw [Bool.and_eq_true] at hc
          exact of_decide_eq_true hc.2
        show 0 ≤ 1 - w ∧ 1 - w < 3
        omega
      · have hc : (decide ((i : Int) = o) && decide (w < (2 : Int))) = false := by simpa using hc
        rw [hc]
        exact ⟨h0, h1⟩
    generalize hcell : List.getD cs i (0 : Int) = c
    obtain ⟨p1, p2, p3, p4⟩ := p_leaf (c / 4) u hu0.1 hu0.2
    generalize m_l_leaf (c / 4) u = lf at p2 p3 p4 ⊢
    obtain ⟨leaf, wd⟩ := lf
    dsimp only at p2 p3 p4 ⊢
    have hnew : ∀ ws' : List Str, ws' = cond (!decide (wd = (Str.ofString ""))) (ws ++ [wd]) ws → (anyA ws' = (hasA t || hasA leaf)) ∧ (anyD ws' = (hasD t || hasD leaf)) ∧ ws'.length ≤ i + 1 := fun ws' e => by
      by_cases hw : wd = Str.ofString ""
      · rw [decide_eq_true hw] at e
        have e : ws' = ws := e
        obtain ⟨q1, q2⟩ := p3 hw
        rw [e, q1, q2, Bool.or_false, Bool.or_false]
        exact ⟨g1, g2, by omega⟩
      · rw [decide_eq_false hw] at e
        have e : ws' = ws ++ [wd] := e
        obtain ⟨q1, q2⟩ := p4 hw
        rw [e, q1, q2]
        refine ⟨?_, ?_, by simp; omega⟩
        · rw [← g1]
          unfold anyA
          rw [List.any_append]
          simp
        · rw [← g2]
          unfold anyD
          rw [List.any_append]
          simp
    obtain ⟨n1, n2, n3⟩ := hnew _ rfl
    refine ⟨⟨fun _ => trivial, fun _ => trivial, p1, fun _ => ⟨by omega, trivial⟩, fun _ => trivial, ⟨by omega, by show _ < (4 : Int); omega⟩, trivial⟩, ?_⟩
    obtain ⟨j, hj, ej⟩ : ∃ j : Nat, j < 4 ∧ c % 4 = (j : Int) := ⟨(c % 4).toNat, by omega, by omega⟩
    rw [ej]
    have dl : ∀ a b : Nat, a ≤ 2 * i → b = 0 → max a b + 1 ≤ 2 * (i + 1) := fun a b _ _ => by omega
    have : j = 0 ∨ j = 1 ∨ j = 2 ∨ j = 3 := by omega
    rcases this with rfl | rfl | rfl | rfl
    · exact ⟨n1, n2, by show max t.depth leaf.depth + 1 ≤ _; omega, n3⟩
    · exact ⟨n1.trans (Bool.or_comm _ _), n2.trans (Bool.or_comm _ _), by show max leaf.depth t.depth + 1 ≤ _; omega, n3⟩
    · exact ⟨n1.trans (Bool.or_comm _ _), n2.trans (Bool.or_comm _ _), by show max leaf.depth t.depth + 1 + 1 ≤ _; omega, n3⟩
    · exact ⟨n1.trans (Bool.or_comm _ _), n2.trans (Bool.or_comm _ _), by show max leaf.depth t.depth + 1 ≤ _; omega, n3⟩)
  obtain ⟨F1, F2⟩ := F
  unfold ok_l_term m_l_term
  dsimp only
  generalize List.foldl (st_l_term_3 w o) (([] : List Str), Trm.number (3 : Rat)) (enumI cs) = s at F2 ⊢
  obtain ⟨f1, f2, f3, f4⟩ := F2
  exact ⟨⟨F1, trivial⟩, f1, f2, by omega, by omega⟩
theorem due_eq (ws : List Str) : (cond ((!deq (List.filter isDn ws) ([] : List Str)) && (decide (((List.filter isDn ws).length : Int) < (ws.length : Int)))) (Str.ofString "mixed") (cond (!deq (List.filter isDn ws) ([] : List Str)) (Str.ofString "down") (Str.ofString "across"))) = cond (anyA ws && anyD ws) (Str.ofString "mixed") (dirS (anyD ws)) := by
  have e1 : (!deq (List.filter isDn ws) ([] : List Str)) = anyD ws := by
    unfold anyD
    induction ws with
    | nil => rfl
    | cons w ws ih =>
      rw [List.filter_cons, List.any_cons]
      cases hw : isDn w with
      | true => rfl
      | false =>
        rw [Bool.false_or, ← ih]
        rfl
  have e2 : decide (((List.filter isDn ws).length : Int) < (ws.length : Int)) = anyA ws := by
    unfold anyA
    rw [Bool.eq_iff_iff, decide_eq_true_iff, List.any_eq_true]
    have hx := List.length_filter_lt_length_iff_exists (p := isDn) (l := ws)
    constructor
    · intro h
      obtain ⟨x, hx, hq⟩ := hx.mp (by omega)
      exact ⟨x, hx, by simpa using hq⟩
    · rintro ⟨x, h1, hq⟩
      have := hx.mpr ⟨x, h1, by simpa using hq⟩
      omega
  rw [e1, e2, Bool.and_comm]
  rfl
theorem plain_law (ns : List Int) (h : ns.length ≤ 63) : ok_law ns ∧ m_law ns = true := by
  have hc0 := okt_cell ns 0 (by decide)
  have hc1 := okt_cell ns 1 (by decide)
  unfold ok_law m_law
  dsimp only
  generalize m_l_cell_at ns 0 = c0
  generalize m_l_cell_at ns 1 = c1
  generalize ho : cond (decide (c1 % (4 : Int) = (1 : Int))) (c1 / (4 : Int) % (3 : Int)) (c0 % (3 : Int)) = ot
  have ho0 : 0 ≤ ot ∧ ot < 3 := by
    rw [← ho]
    cases decide (c1 % (4 : Int) = (1 : Int))
    · show 0 ≤ c0 % 3 ∧ c0 % 3 < 3
      omega
    · show 0 ≤ c1 / 4 % 3 ∧ c1 / 4 % 3 < 3
      omega
  generalize cond (decide (c1 % (4 : Int) = (2 : Int))) (c1 / (4 : Int) % (5 : Int)) (-1 : Int) = od
  have l1 : (cutL ns (some (2 : Int)) (some (7 : Int))).length ≤ 5 := by
    rw [show (2 : Int) = ((2 : Nat) : Int) from rfl, show (7 : Int) = ((7 : Nat) : Int) from rfl, cutL_ab]
    exact Nat.le_trans (List.length_take_le _ _) (by decide)
  have l2 : (cutL ns (some (7 : Int)) (some (12 : Int))).length ≤ 5 := by
    rw [show (12 : Int) = ((12 : Nat) : Int) from rfl, show (7 : Int) = ((7 : Nat) : Int) from rfl, cutL_ab]
    exact Nat.le_trans (List.length_take_le _ _) (by decide)
  obtain ⟨k1, a1, d1, p1, q1⟩ := p_term (cutL ns (some (2 : Int)) (some (7 : Int))) (c0 % 3) od (by omega) (by omega) l1
  obtain ⟨k2, a2, d2, p2, q2⟩ := p_term (cutL ns (some (7 : Int)) (some (12 : Int))) ot (-1) ho0.1 ho0.2 l2
  generalize m_l_term (cutL ns (some (2 : Int)) (some (7 : Int))) (c0 % 3) od = r1 at a1 d1 p1 q1 ⊢
  generalize m_l_term (cutL ns (some (7 : Int)) (some (12 : Int))) ot (-1) = r2 at a2 d2 p2 q2 ⊢
  obtain ⟨nt, w1⟩ := r1
  obtain ⟨ft, w2⟩ := r2
  dsimp only at a1 d1 p1 q1 a2 d2 p2 q2 ⊢
  refine ⟨⟨hc0, hc1, fun _ => ⟨hc1, trivial⟩, fun _ => trivial, hc1, fun _ => ⟨hc1, trivial⟩, fun _ => trivial, k1, k2, by omega, ?_, fun _ => trivial, fun _ => trivial, fun _ => trivial, fun _ => trivial, fun x _ _ => (p_made x nt ft p1 p2).1, by decide, trivial⟩, ?_⟩
  · rw [List.length_append]; omega
  · have ed := due_eq (w1 ++ w2)
    have e3 : anyA (w1 ++ w2) = (hasA nt || hasA ft) := by rw [← a1, ← a2]; exact List.any_append
    have e4 : anyD (w1 ++ w2) = (hasD nt || hasD ft) := by rw [← d1, ← d2]; exact List.any_append
    rw [e3, e4] at ed
    have em : (List.filter (fun (x28 : Str) => ([(Str.ofString "top"), (Str.ofString "height"), (Str.ofString "bottom"), (Str.ofString "centre"), (Str.ofString "drop")].any fun y => decide (y = x28))) (w1 ++ w2)).map (fun (x28 : Str) => x28) = List.filter isDn (w1 ++ w2) := by
      rw [List.map_id']
      rfl
    rw [em, ed]
    have er : rangeI (3 : Int) = [0, 1, 2] := by decide
    rw [er]
    show deq [m_l_made 0 nt ft, m_l_made 1 nt ft, m_l_made 2 nt ft] _ = true
    rw [(p_made 0 nt ft p1 p2).2, (p_made 1 nt ft p1 p2).2, (p_made 2 nt ft p1 p2).2]
    exact deq_ls _
end G
set_option pp.maxSteps 400
set_option maxHeartbeats 40000000
set_option autoImplicit false
namespace G
open PySem PySem.Spec PyProof.Rows L2 R
theorem kit1 {K : PySem.W.Frag} {C D : Addr} {b : Bool} (y : PySem.W.hasDictIn K C = true) (t : PySem.W.typeIn K (.ref C) = some (.type "type")) (s0 : PySem.W.subIn K (.ref C) (.ref C) = some true) (s1 : PySem.W.subIn K (.ref D) (.ref C) = some b) : PySem.W.kitOne K (.ref D) (.ref C) = some b := by
  unfold PySem.W.kitOne
  by_cases h : D = C
  · subst h
    rw [s0] at s1
    rw [if_pos (by simp)]
    exact s1
  · rw [if_neg (by simpa using h)]
    obtain ⟨cd, hc, _⟩ := PySem.W.any_some y
    have e2 : ((PySem.W.clsIn K C).isSome && PySem.W.typeIn K (.ref C) == some (.type "type")) = true := by rw [hc, t] <;> rfl
    show (if ((PySem.W.clsIn K C).isSome && PySem.W.typeIn K (.ref C) == some (.type "type")) = true then PySem.W.subIn K (.ref D) (.ref C) else none) = some b
    rw [if_pos e2]
    exact s1
theorem kit2 {K : PySem.W.Frag} {D : Addr} {T : String} {b : Bool} (m : PySem.W.kitMeta T = true) (s : PySem.W.subIn K (.ref D) (.type T) = some b) : PySem.W.kitOne K (.ref D) (.type T) = some b := by
  unfold PySem.W.kitOne
  rw [if_neg (by simp)]
  show (if PySem.W.kitMeta T = true then PySem.W.subIn K (.ref D) (.type T) else none) = some b
  rw [if_pos m]
  exact s
theorem all_mk {l : PySem.W.OpenLaw} {w : World} {K : PySem.W.Frag} {h : Heap} {mg : Str → Option Value} {fa f_l_cell_at f_l_leaf f_l_term f_l_alone f_l_made f_law C_FrameError C_Mixed C_NoName C_NoPane C_NoRank C_NoWish C_Number C_Edge C_Times C_Plus C_Minus C_Just C_AtLeast C_AtMost C_Wish f_Term_ways f_Edge_ways f_Times_ways f_Pair_ways f_Wish_way f_Number___init__ f_Edge___init__ f_Times___init__ f_Pair___init__ f_Wish___init__ : Addr} (X : K.In h) (G : h.Ns mainGlobals mg) (hfa : mg "law" = some (.ref fa))
    (e_Number : PySem.W.nsIn K mainGlobals "Number" = some (some (.ref C_Number)))
    (e_Edge : PySem.W.nsIn K mainGlobals "Edge" = some (some (.ref C_Edge)))
    (e_Times : PySem.W.nsIn K mainGlobals "Times" = some (some (.ref C_Times)))
    (e_Plus : PySem.W.nsIn K mainGlobals "Plus" = some (some (.ref C_Plus)))
    (e_Minus : PySem.W.nsIn K mainGlobals "Minus" = some (some (.ref C_Minus)))
    (e_Just : PySem.W.nsIn K mainGlobals "Just" = some (some (.ref C_Just)))
    (e_AtLeast : PySem.W.nsIn K mainGlobals "AtLeast" = some (some (.ref C_AtLeast)))
    (e_AtMost : PySem.W.nsIn K mainGlobals "AtMost" = some (some (.ref C_AtMost)))
    (e_Wish : PySem.W.nsIn K mainGlobals "Wish" = some (some (.ref C_Wish)))
    (mk2_Number : PySem.W.findIn K (.ref C_Number) "__init__" = some (some (.ref f_Number___init__)))
    (mk2_Edge : PySem.W.findIn K (.ref C_Edge) "__init__" = some (some (.ref f_Edge___init__)))
    (mk2_Times : PySem.W.findIn K (.ref C_Times) "__init__" = some (some (.ref f_Times___init__)))
    (mk2_Plus : PySem.W.findIn K (.ref C_Plus) "__init__" = some (some (.ref f_Pair___init__)))
    (mk2_Minus : PySem.W.findIn K (.ref C_Minus) "__init__" = some (some (.ref f_Pair___init__)))
    (mk2_Just : PySem.W.findIn K (.ref C_Just) "__init__" = some (some (.ref f_Wish___init__)))
    (mk2_AtLeast : PySem.W.findIn K (.ref C_AtLeast) "__init__" = some (some (.ref f_Wish___init__)))
    (mk2_AtMost : PySem.W.findIn K (.ref C_AtMost) "__init__" = some (some (.ref f_Wish___init__)))
    (fi_Number_ways : PySem.W.findIn K (.ref C_Number) "ways" = some (some (.ref f_Term_ways)))
    (fi_Edge_ways : PySem.W.findIn K (.ref C_Edge) "ways" = some (some (.ref f_Edge_ways)))
    (fi_Times_ways : PySem.W.findIn K (.ref C_Times) "ways" = some (some (.ref f_Times_ways)))
    (fi_Plus_ways : PySem.W.findIn K (.ref C_Plus) "ways" = some (some (.ref f_Pair_ways)))
    (fi_Minus_ways : PySem.W.findIn K (.ref C_Minus) "ways" = some (some (.ref f_Pair_ways)))
    (fi_Just_way : PySem.W.findIn K (.ref C_Just) "way" = some (some (.ref f_Wish_way)))
    (fi_AtLeast_way : PySem.W.findIn K (.ref C_AtLeast) "way" = some (some (.ref f_Wish_way)))
    (fi_AtMost_way : PySem.W.findIn K (.ref C_AtMost) "way" = some (some (.ref f_Wish_way)))
    {od_0 an_0 : Option Addr} {sl_0 : Array (Option Value)} {oc_0 kV_0 dc_0 pm_0 cd_0 ct_0 : Value}
    (a_l_cell_at : PySem.W.nsIn K mainGlobals "_law_cell_at" = some (some (.ref f_l_cell_at))) (l_l_cell_at : K.lookup f_l_cell_at = some ⟨oc_0, od_0, .func (PySem.W.fnOf "_law_cell_at" "_law_cell_at" (defArgs s_l_cell_at) (defBody s_l_cell_at) (defScope s_l_cell_at) .none kV_0 dc_0 pm_0 an_0 cd_0 ct_0), sl_0⟩) (c_l_cell_at : PySem.W.codeIn K cd_0 "_law_cell_at" = true) (k_l_cell_at : PySem.W.keepIn K (.ref f_l_cell_at) = true)
    {od_1 an_1 : Option Addr} {sl_1 : Array (Option Value)} {oc_1 kV_1 dc_1 pm_1 cd_1 ct_1 : Value}
    (a_l_leaf : PySem.W.nsIn K mainGlobals "_law_leaf" = some (some (.ref f_l_leaf))) (l_l_leaf : K.lookup f_l_leaf = some ⟨oc_1, od_1, .func (PySem.W.fnOf "_law_leaf" "_law_leaf" (defArgs s_l_leaf) (defBody s_l_leaf) (defScope s_l_leaf) .none kV_1 dc_1 pm_1 an_1 cd_1 ct_1), sl_1⟩) (c_l_leaf : PySem.W.codeIn K cd_1 "_law_leaf" = true) (k_l_leaf : PySem.W.keepIn K (.ref f_l_leaf) = true)
    {od_2 an_2 : Option Addr} {sl_2 : Array (Option Value)} {oc_2 kV_2 dc_2 pm_2 cd_2 ct_2 : Value}
    (a_l_term : PySem.W.nsIn K mainGlobals "_law_term" = some (some (.ref f_l_term))) (l_l_term : K.lookup f_l_term = some ⟨oc_2, od_2, .func (PySem.W.fnOf "_law_term" "_law_term" (defArgs s_l_term) (defBody s_l_term) (defScope s_l_term) .none kV_2 dc_2 pm_2 an_2 cd_2 ct_2), sl_2⟩) (c_l_term : PySem.W.codeIn K cd_2 "_law_term" = true) (k_l_term : PySem.W.keepIn K (.ref f_l_term) = true)
    {od_3 an_3 : Option Addr} {sl_3 : Array (Option Value)} {oc_3 kV_3 dc_3 pm_3 cd_3 ct_3 : Value}
    (a_l_alone : PySem.W.nsIn K mainGlobals "_law_alone" = some (some (.ref f_l_alone))) (l_l_alone : K.lookup f_l_alone = some ⟨oc_3, od_3, .func (PySem.W.fnOf "_law_alone" "_law_alone" (defArgs s_l_alone) (defBody s_l_alone) (defScope s_l_alone) .none kV_3 dc_3 pm_3 an_3 cd_3 ct_3), sl_3⟩) (c_l_alone : PySem.W.codeIn K cd_3 "_law_alone" = true) (k_l_alone : PySem.W.keepIn K (.ref f_l_alone) = true)
    {od_4 an_4 : Option Addr} {sl_4 : Array (Option Value)} {oc_4 kV_4 dc_4 pm_4 cd_4 ct_4 : Value}
    (a_l_made : PySem.W.nsIn K mainGlobals "_law_made" = some (some (.ref f_l_made))) (l_l_made : K.lookup f_l_made = some ⟨oc_4, od_4, .func (PySem.W.fnOf "_law_made" "_law_made" (defArgs s_l_made) (defBody s_l_made) (defScope s_l_made) .none kV_4 dc_4 pm_4 an_4 cd_4 ct_4), sl_4⟩) (c_l_made : PySem.W.codeIn K cd_4 "_law_made" = true) (k_l_made : PySem.W.keepIn K (.ref f_l_made) = true)
    {od_5 an_5 : Option Addr} {sl_5 : Array (Option Value)} {oc_5 kV_5 dc_5 pm_5 cd_5 ct_5 : Value}
    (a_law : PySem.W.nsIn K mainGlobals "law" = some (some (.ref f_law))) (l_law : K.lookup f_law = some ⟨oc_5, od_5, .func (PySem.W.fnOf "law" "law" (defArgs s_law) (defBody s_law) (defScope s_law) .none kV_5 dc_5 pm_5 an_5 cd_5 ct_5), sl_5⟩) (c_law : PySem.W.codeIn K cd_5 "law" = true) (k_law : PySem.W.keepIn K (.ref f_law) = true)
    (z_enumerate : PySem.W.nsIn K mainGlobals "enumerate" = some none)
    (z_int : PySem.W.nsIn K mainGlobals "int" = some none)
    (z_isinstance : PySem.W.nsIn K mainGlobals "isinstance" = some none)
    (z_len : PySem.W.nsIn K mainGlobals "len" = some none)
    (z_range : PySem.W.nsIn K mainGlobals "range" = some none)
    (z_set : PySem.W.nsIn K mainGlobals "set" = some none)
    (z_sorted : PySem.W.nsIn K mainGlobals "sorted" = some none)
    {t0_DOWN t1_DOWN t2_DOWN t3_DOWN t4_DOWN : Tok}
    {a_gDOWN : Addr} {d_gDOWN : Option Addr} {z_gDOWN : Nat} {sl_gDOWN : Array (Option Value)}
    (g1_DOWN : PySem.W.nsIn K mainGlobals "DOWN" = some (some (.ref a_gDOWN))) (g2_DOWN : K.lookup a_gDOWN = some ⟨.type "tuple", d_gDOWN, .seq (List.toArray [.str (Str.ofString "top") t0_DOWN, .str (Str.ofString "height") t1_DOWN, .str (Str.ofString "bottom") t2_DOWN, .str (Str.ofString "centre") t3_DOWN, .str (Str.ofString "drop") t4_DOWN]) z_gDOWN, sl_gDOWN⟩)
    (e_FrameError : PySem.W.nsIn K mainGlobals "FrameError" = some (some (.ref C_FrameError)))
    (e_Mixed : PySem.W.nsIn K mainGlobals "Mixed" = some (some (.ref C_Mixed)))
    (e_NoName : PySem.W.nsIn K mainGlobals "NoName" = some (some (.ref C_NoName)))
    (e_NoPane : PySem.W.nsIn K mainGlobals "NoPane" = some (some (.ref C_NoPane)))
    (e_NoRank : PySem.W.nsIn K mainGlobals "NoRank" = some (some (.ref C_NoRank)))
    (e_NoWish : PySem.W.nsIn K mainGlobals "NoWish" = some (some (.ref C_NoWish)))
    (x1_Mixed : PySem.W.excIn K C_Mixed [.type "ValueError", .type "Exception", .type "BaseException", .type "object"] "ValueError.__new__" = true) (x2_Mixed : PySem.W.keepIn K (.ref C_Mixed) = true)
    (x3_FrameError : PySem.W.subIn K (.ref C_FrameError) (.type "BaseException") = some true) (x4_FrameError : PySem.W.typeIn K (.ref C_FrameError) = some (.type "type"))
    (x3_Mixed : PySem.W.subIn K (.ref C_Mixed) (.type "BaseException") = some true) (x4_Mixed : PySem.W.typeIn K (.ref C_Mixed) = some (.type "type"))
    (x3_NoName : PySem.W.subIn K (.ref C_NoName) (.type "BaseException") = some true) (x4_NoName : PySem.W.typeIn K (.ref C_NoName) = some (.type "type"))
    (x3_NoPane : PySem.W.subIn K (.ref C_NoPane) (.type "BaseException") = some true) (x4_NoPane : PySem.W.typeIn K (.ref C_NoPane) = some (.type "type"))
    (x3_NoRank : PySem.W.subIn K (.ref C_NoRank) (.type "BaseException") = some true) (x4_NoRank : PySem.W.typeIn K (.ref C_NoRank) = some (.type "type"))
    (x3_NoWish : PySem.W.subIn K (.ref C_NoWish) (.type "BaseException") = some true) (x4_NoWish : PySem.W.typeIn K (.ref C_NoWish) = some (.type "type"))
    (y_FrameError : PySem.W.hasDictIn K C_FrameError = true)
    (y_FrameError_FrameError : PySem.W.subIn K (.ref C_FrameError) (.ref C_FrameError) = some true)
    (y_FrameError_NoWish : PySem.W.subIn K (.ref C_NoWish) (.ref C_FrameError) = some true)
    (y_FrameError_Mixed : PySem.W.subIn K (.ref C_Mixed) (.ref C_FrameError) = some true)
    (y_FrameError_NoRank : PySem.W.subIn K (.ref C_NoRank) (.ref C_FrameError) = some true)
    (y_FrameError_NoName : PySem.W.subIn K (.ref C_NoName) (.ref C_FrameError) = some true)
    (y_FrameError_NoPane : PySem.W.subIn K (.ref C_NoPane) (.ref C_FrameError) = some true)
    (y_Mixed : PySem.W.hasDictIn K C_Mixed = true)
    (y_Mixed_FrameError : PySem.W.subIn K (.ref C_FrameError) (.ref C_Mixed) = some false)
    (y_Mixed_NoWish : PySem.W.subIn K (.ref C_NoWish) (.ref C_Mixed) = some false)
    (y_Mixed_Mixed : PySem.W.subIn K (.ref C_Mixed) (.ref C_Mixed) = some true)
    (y_Mixed_NoRank : PySem.W.subIn K (.ref C_NoRank) (.ref C_Mixed) = some false)
    (y_Mixed_NoName : PySem.W.subIn K (.ref C_NoName) (.ref C_Mixed) = some false)
    (y_Mixed_NoPane : PySem.W.subIn K (.ref C_NoPane) (.ref C_Mixed) = some false)
    (y_NoName : PySem.W.hasDictIn K C_NoName = true)
    (y_NoName_FrameError : PySem.W.subIn K (.ref C_FrameError) (.ref C_NoName) = some false)
    (y_NoName_NoWish : PySem.W.subIn K (.ref C_NoWish) (.ref C_NoName) = some false)
    (y_NoName_Mixed : PySem.W.subIn K (.ref C_Mixed) (.ref C_NoName) = some false)
    (y_NoName_NoRank : PySem.W.subIn K (.ref C_NoRank) (.ref C_NoName) = some false)
    (y_NoName_NoName : PySem.W.subIn K (.ref C_NoName) (.ref C_NoName) = some true)
    (y_NoName_NoPane : PySem.W.subIn K (.ref C_NoPane) (.ref C_NoName) = some false)
    (y_NoPane : PySem.W.hasDictIn K C_NoPane = true)
    (y_NoPane_FrameError : PySem.W.subIn K (.ref C_FrameError) (.ref C_NoPane) = some false)
    (y_NoPane_NoWish : PySem.W.subIn K (.ref C_NoWish) (.ref C_NoPane) = some false)
    (y_NoPane_Mixed : PySem.W.subIn K (.ref C_Mixed) (.ref C_NoPane) = some false)
    (y_NoPane_NoRank : PySem.W.subIn K (.ref C_NoRank) (.ref C_NoPane) = some false)
    (y_NoPane_NoName : PySem.W.subIn K (.ref C_NoName) (.ref C_NoPane) = some false)
    (y_NoPane_NoPane : PySem.W.subIn K (.ref C_NoPane) (.ref C_NoPane) = some true)
    (y_NoRank : PySem.W.hasDictIn K C_NoRank = true)
    (y_NoRank_FrameError : PySem.W.subIn K (.ref C_FrameError) (.ref C_NoRank) = some false)
    (y_NoRank_NoWish : PySem.W.subIn K (.ref C_NoWish) (.ref C_NoRank) = some false)
    (y_NoRank_Mixed : PySem.W.subIn K (.ref C_Mixed) (.ref C_NoRank) = some false)
    (y_NoRank_NoRank : PySem.W.subIn K (.ref C_NoRank) (.ref C_NoRank) = some true)
    (y_NoRank_NoName : PySem.W.subIn K (.ref C_NoName) (.ref C_NoRank) = some false)
    (y_NoRank_NoPane : PySem.W.subIn K (.ref C_NoPane) (.ref C_NoRank) = some false)
    (y_NoWish : PySem.W.hasDictIn K C_NoWish = true)
    (y_NoWish_FrameError : PySem.W.subIn K (.ref C_FrameError) (.ref C_NoWish) = some false)
    (y_NoWish_NoWish : PySem.W.subIn K (.ref C_NoWish) (.ref C_NoWish) = some true)
    (y_NoWish_Mixed : PySem.W.subIn K (.ref C_Mixed) (.ref C_NoWish) = some false)
    (y_NoWish_NoRank : PySem.W.subIn K (.ref C_NoRank) (.ref C_NoWish) = some false)
    (y_NoWish_NoName : PySem.W.subIn K (.ref C_NoName) (.ref C_NoWish) = some false)
    (y_NoWish_NoPane : PySem.W.subIn K (.ref C_NoPane) (.ref C_NoWish) = some false)
    (z_ValueError : PySem.W.nsIn K mainGlobals "ValueError" = some none)
    (y_ValueError_FrameError : PySem.W.subIn K (.ref C_FrameError) (.type "ValueError") = some true)
    (y_ValueError_NoWish : PySem.W.subIn K (.ref C_NoWish) (.type "ValueError") = some true)
    (y_ValueError_Mixed : PySem.W.subIn K (.ref C_Mixed) (.type "ValueError") = some true)
    (y_ValueError_NoRank : PySem.W.subIn K (.ref C_NoRank) (.type "ValueError") = some true)
    (y_ValueError_NoName : PySem.W.subIn K (.ref C_NoName) (.type "ValueError") = some true)
    (y_ValueError_NoPane : PySem.W.subIn K (.ref C_NoPane) (.type "ValueError") = some true)
    (qn_ : PySem.W.specialIn K (.builtin "object.__class__") "__get__" = some (some (.builtin "getset_descriptor.__get__"))) (qt_ : PySem.W.takesIn K (.builtin "object.__class__") = some true)
    (q1_FrameError : PySem.W.findIn K (.ref C_FrameError) "__getattribute__" = some (some (.builtin "BaseException.__getattribute__"))) (q2_FrameError : PySem.W.findIn K (.ref C_FrameError) "__getattr__" = some none) (q3_FrameError : PySem.W.subIn K (.ref C_FrameError) (.type "BaseException") = some true) (q4_FrameError : PySem.W.hasDictIn K C_FrameError = true) (q5_FrameError : PySem.W.findIn K (.ref C_FrameError) "__class__" = some (some (.builtin "object.__class__"))) (q6_FrameError : PySem.W.mroIn K C_FrameError (.type "object") = some true)
    (q1_NoWish : PySem.W.findIn K (.ref C_NoWish) "__getattribute__" = some (some (.builtin "BaseException.__getattribute__"))) (q2_NoWish : PySem.W.findIn K (.ref C_NoWish) "__getattr__" = some none) (q3_NoWish : PySem.W.subIn K (.ref C_NoWish) (.type "BaseException") = some true) (q4_NoWish : PySem.W.hasDictIn K C_NoWish = true) (q5_NoWish : PySem.W.findIn K (.ref C_NoWish) "__class__" = some (some (.builtin "object.__class__"))) (q6_NoWish : PySem.W.mroIn K C_NoWish (.type "object") = some true)
    (q1_Mixed : PySem.W.findIn K (.ref C_Mixed) "__getattribute__" = some (some (.builtin "BaseException.__getattribute__"))) (q2_Mixed : PySem.W.findIn K (.ref C_Mixed) "__getattr__" = some none) (q3_Mixed : PySem.W.subIn K (.ref C_Mixed) (.type "BaseException") = some true) (q4_Mixed : PySem.W.hasDictIn K C_Mixed = true) (q5_Mixed : PySem.W.findIn K (.ref C_Mixed) "__class__" = some (some (.builtin "object.__class__"))) (q6_Mixed : PySem.W.mroIn K C_Mixed (.type "object") = some true)
    (q1_NoRank : PySem.W.findIn K (.ref C_NoRank) "__getattribute__" = some (some (.builtin "BaseException.__getattribute__"))) (q2_NoRank : PySem.W.findIn K (.ref C_NoRank) "__getattr__" = some none) (q3_NoRank : PySem.W.subIn K (.ref C_NoRank) (.type "BaseException") = some true) (q4_NoRank : PySem.W.hasDictIn K C_NoRank = true) (q5_NoRank : PySem.W.findIn K (.ref C_NoRank) "__class__" = some (some (.builtin "object.__class__"))) (q6_NoRank : PySem.W.mroIn K C_NoRank (.type "object") = some true)
    (q1_NoName : PySem.W.findIn K (.ref C_NoName) "__getattribute__" = some (some (.builtin "BaseException.__getattribute__"))) (q2_NoName : PySem.W.findIn K (.ref C_NoName) "__getattr__" = some none) (q3_NoName : PySem.W.subIn K (.ref C_NoName) (.type "BaseException") = some true) (q4_NoName : PySem.W.hasDictIn K C_NoName = true) (q5_NoName : PySem.W.findIn K (.ref C_NoName) "__class__" = some (some (.builtin "object.__class__"))) (q6_NoName : PySem.W.mroIn K C_NoName (.type "object") = some true)
    (q1_NoPane : PySem.W.findIn K (.ref C_NoPane) "__getattribute__" = some (some (.builtin "BaseException.__getattribute__"))) (q2_NoPane : PySem.W.findIn K (.ref C_NoPane) "__getattr__" = some none) (q3_NoPane : PySem.W.subIn K (.ref C_NoPane) (.type "BaseException") = some true) (q4_NoPane : PySem.W.hasDictIn K C_NoPane = true) (q5_NoPane : PySem.W.findIn K (.ref C_NoPane) "__class__" = some (some (.builtin "object.__class__"))) (q6_NoPane : PySem.W.mroIn K C_NoPane (.type "object") = some true)
    {od_m0 an_m0 : Option Addr} {sl_m0 : Array (Option Value)} {oc_m0 kV_m0 dc_m0 pm_m0 cd_m0 ct_m0 : Value}
    (l_Term_ways : K.lookup f_Term_ways = some ⟨oc_m0, od_m0, .func (PySem.W.fnOf "ways" "Term.ways" (defArgs s_Term_ways) (defBody s_Term_ways) (defScope s_Term_ways) .none kV_m0 dc_m0 pm_m0 an_m0 cd_m0 ct_m0), sl_m0⟩) (c_Term_ways : PySem.W.codeIn K cd_m0 "Term.ways" = true) (k_Term_ways : PySem.W.keepIn K (.ref f_Term_ways) = true) (n_Term_ways : PySem.W.isFn K (.ref f_Term_ways) = true)
    {od_m1 an_m1 : Option Addr} {sl_m1 : Array (Option Value)} {oc_m1 kV_m1 dc_m1 pm_m1 cd_m1 ct_m1 : Value}
    (l_Edge_ways : K.lookup f_Edge_ways = some ⟨oc_m1, od_m1, .func (PySem.W.fnOf "ways" "Edge.ways" (defArgs s_Edge_ways) (defBody s_Edge_ways) (defScope s_Edge_ways) .none kV_m1 dc_m1 pm_m1 an_m1 cd_m1 ct_m1), sl_m1⟩) (c_Edge_ways : PySem.W.codeIn K cd_m1 "Edge.ways" = true) (k_Edge_ways : PySem.W.keepIn K (.ref f_Edge_ways) = true) (n_Edge_ways : PySem.W.isFn K (.ref f_Edge_ways) = true)
    {od_m2 an_m2 : Option Addr} {sl_m2 : Array (Option Value)} {oc_m2 kV_m2 dc_m2 pm_m2 cd_m2 ct_m2 : Value}
    (l_Times_ways : K.lookup f_Times_ways = some ⟨oc_m2, od_m2, .func (PySem.W.fnOf "ways" "Times.ways" (defArgs s_Times_ways) (defBody s_Times_ways) (defScope s_Times_ways) .none kV_m2 dc_m2 pm_m2 an_m2 cd_m2 ct_m2), sl_m2⟩) (c_Times_ways : PySem.W.codeIn K cd_m2 "Times.ways" = true) (k_Times_ways : PySem.W.keepIn K (.ref f_Times_ways) = true) (n_Times_ways : PySem.W.isFn K (.ref f_Times_ways) = true)
    {od_m3 an_m3 : Option Addr} {sl_m3 : Array (Option Value)} {oc_m3 kV_m3 dc_m3 pm_m3 cd_m3 ct_m3 : Value}
    (l_Pair_ways : K.lookup f_Pair_ways = some ⟨oc_m3, od_m3, .func (PySem.W.fnOf "ways" "Pair.ways" (defArgs s_Pair_ways) (defBody s_Pair_ways) (defScope s_Pair_ways) .none kV_m3 dc_m3 pm_m3 an_m3 cd_m3 ct_m3), sl_m3⟩) (c_Pair_ways : PySem.W.codeIn K cd_m3 "Pair.ways" = true) (k_Pair_ways : PySem.W.keepIn K (.ref f_Pair_ways) = true) (n_Pair_ways : PySem.W.isFn K (.ref f_Pair_ways) = true)
    {od_m4 an_m4 : Option Addr} {sl_m4 : Array (Option Value)} {oc_m4 kV_m4 dc_m4 pm_m4 cd_m4 ct_m4 : Value}
    (l_Wish_way : K.lookup f_Wish_way = some ⟨oc_m4, od_m4, .func (PySem.W.fnOf "way" "Wish.way" (defArgs s_Wish_way) (defBody s_Wish_way) (defScope s_Wish_way) .none kV_m4 dc_m4 pm_m4 an_m4 cd_m4 ct_m4), sl_m4⟩) (c_Wish_way : PySem.W.codeIn K cd_m4 "Wish.way" = true) (k_Wish_way : PySem.W.keepIn K (.ref f_Wish_way) = true) (n_Wish_way : PySem.W.isFn K (.ref f_Wish_way) = true)
    {od_m5 an_m5 : Option Addr} {sl_m5 : Array (Option Value)} {oc_m5 kV_m5 dc_m5 pm_m5 cd_m5 ct_m5 : Value}
    (l_Number___init__ : K.lookup f_Number___init__ = some ⟨oc_m5, od_m5, .func (PySem.W.fnOf "__init__" "Number.__init__" (defArgs s_Number___init__) (defBody s_Number___init__) (defScope s_Number___init__) .none kV_m5 dc_m5 pm_m5 an_m5 cd_m5 ct_m5), sl_m5⟩) (c_Number___init__ : PySem.W.codeIn K cd_m5 "Number.__init__" = true) (k_Number___init__ : PySem.W.keepIn K (.ref f_Number___init__) = true) (n_Number___init__ : PySem.W.isFn K (.ref f_Number___init__) = true)
    {od_m6 an_m6 : Option Addr} {sl_m6 : Array (Option Value)} {oc_m6 kV_m6 dc_m6 pm_m6 cd_m6 ct_m6 : Value}
    (l_Edge___init__ : K.lookup f_Edge___init__ = some ⟨oc_m6, od_m6, .func (PySem.W.fnOf "__init__" "Edge.__init__" (defArgs s_Edge___init__) (defBody s_Edge___init__) (defScope s_Edge___init__) .none kV_m6 dc_m6 pm_m6 an_m6 cd_m6 ct_m6), sl_m6⟩) (c_Edge___init__ : PySem.W.codeIn K cd_m6 "Edge.__init__" = true) (k_Edge___init__ : PySem.W.keepIn K (.ref f_Edge___init__) = true) (n_Edge___init__ : PySem.W.isFn K (.ref f_Edge___init__) = true)
    {od_m7 an_m7 : Option Addr} {sl_m7 : Array (Option Value)} {oc_m7 kV_m7 dc_m7 pm_m7 cd_m7 ct_m7 : Value}
    (l_Times___init__ : K.lookup f_Times___init__ = some ⟨oc_m7, od_m7, .func (PySem.W.fnOf "__init__" "Times.__init__" (defArgs s_Times___init__) (defBody s_Times___init__) (defScope s_Times___init__) .none kV_m7 dc_m7 pm_m7 an_m7 cd_m7 ct_m7), sl_m7⟩) (c_Times___init__ : PySem.W.codeIn K cd_m7 "Times.__init__" = true) (k_Times___init__ : PySem.W.keepIn K (.ref f_Times___init__) = true) (n_Times___init__ : PySem.W.isFn K (.ref f_Times___init__) = true)
    {od_m8 an_m8 : Option Addr} {sl_m8 : Array (Option Value)} {oc_m8 kV_m8 dc_m8 pm_m8 cd_m8 ct_m8 : Value}
    (l_Pair___init__ : K.lookup f_Pair___init__ = some ⟨oc_m8, od_m8, .func (PySem.W.fnOf "__init__" "Pair.__init__" (defArgs s_Pair___init__) (defBody s_Pair___init__) (defScope s_Pair___init__) .none kV_m8 dc_m8 pm_m8 an_m8 cd_m8 ct_m8), sl_m8⟩) (c_Pair___init__ : PySem.W.codeIn K cd_m8 "Pair.__init__" = true) (k_Pair___init__ : PySem.W.keepIn K (.ref f_Pair___init__) = true) (n_Pair___init__ : PySem.W.isFn K (.ref f_Pair___init__) = true)
    {od_m9 an_m9 : Option Addr} {sl_m9 : Array (Option Value)} {oc_m9 kV_m9 dc_m9 pm_m9 cd_m9 ct_m9 : Value}
    (l_Wish___init__ : K.lookup f_Wish___init__ = some ⟨oc_m9, od_m9, .func (PySem.W.fnOf "__init__" "Wish.__init__" (defArgs s_Wish___init__) (defBody s_Wish___init__) (defScope s_Wish___init__) .none kV_m9 dc_m9 pm_m9 an_m9 cd_m9 ct_m9), sl_m9⟩) (c_Wish___init__ : PySem.W.codeIn K cd_m9 "Wish.__init__" = true) (k_Wish___init__ : PySem.W.keepIn K (.ref f_Wish___init__) = true) (n_Wish___init__ : PySem.W.isFn K (.ref f_Wish___init__) = true)
    (cl1_Number : PySem.W.plainGet K C_Number Str.empty = true) (cl2_Number : PySem.W.hasDictIn K C_Number = true) (cl3_Number : PySem.W.plainOver K C_Number = true) (cl4_Number : PySem.W.findIn K (.ref C_Number) "__setattr__" = some (some (.builtin "object.__setattr__"))) (mk1_Number : PySem.W.makesIn K C_Number = true) (mk3_Number : PySem.W.keepIn K (.ref C_Number) = true)
    (cl1_Edge : PySem.W.plainGet K C_Edge Str.empty = true) (cl2_Edge : PySem.W.hasDictIn K C_Edge = true) (cl3_Edge : PySem.W.plainOver K C_Edge = true) (cl4_Edge : PySem.W.findIn K (.ref C_Edge) "__setattr__" = some (some (.builtin "object.__setattr__"))) (mk1_Edge : PySem.W.makesIn K C_Edge = true) (mk3_Edge : PySem.W.keepIn K (.ref C_Edge) = true)
    (cl1_Times : PySem.W.plainGet K C_Times Str.empty = true) (cl2_Times : PySem.W.hasDictIn K C_Times = true) (cl3_Times : PySem.W.plainOver K C_Times = true) (cl4_Times : PySem.W.findIn K (.ref C_Times) "__setattr__" = some (some (.builtin "object.__setattr__"))) (mk1_Times : PySem.W.makesIn K C_Times = true) (mk3_Times : PySem.W.keepIn K (.ref C_Times) = true)
    (cl1_Plus : PySem.W.plainGet K C_Plus Str.empty = true) (cl2_Plus : PySem.W.hasDictIn K C_Plus = true) (cl3_Plus : PySem.W.plainOver K C_Plus = true) (cl4_Plus : PySem.W.findIn K (.ref C_Plus) "__setattr__" = some (some (.builtin "object.__setattr__"))) (mk1_Plus : PySem.W.makesIn K C_Plus = true) (mk3_Plus : PySem.W.keepIn K (.ref C_Plus) = true)
    (cl1_Minus : PySem.W.plainGet K C_Minus Str.empty = true) (cl2_Minus : PySem.W.hasDictIn K C_Minus = true) (cl3_Minus : PySem.W.plainOver K C_Minus = true) (cl4_Minus : PySem.W.findIn K (.ref C_Minus) "__setattr__" = some (some (.builtin "object.__setattr__"))) (mk1_Minus : PySem.W.makesIn K C_Minus = true) (mk3_Minus : PySem.W.keepIn K (.ref C_Minus) = true)
    (cl1_Just : PySem.W.plainGet K C_Just Str.empty = true) (cl2_Just : PySem.W.hasDictIn K C_Just = true) (cl3_Just : PySem.W.plainOver K C_Just = true) (cl4_Just : PySem.W.findIn K (.ref C_Just) "__setattr__" = some (some (.builtin "object.__setattr__"))) (mk1_Just : PySem.W.makesIn K C_Just = true) (mk3_Just : PySem.W.keepIn K (.ref C_Just) = true)
    (cl1_AtLeast : PySem.W.plainGet K C_AtLeast Str.empty = true) (cl2_AtLeast : PySem.W.hasDictIn K C_AtLeast = true) (cl3_AtLeast : PySem.W.plainOver K C_AtLeast = true) (cl4_AtLeast : PySem.W.findIn K (.ref C_AtLeast) "__setattr__" = some (some (.builtin "object.__setattr__"))) (mk1_AtLeast : PySem.W.makesIn K C_AtLeast = true) (mk3_AtLeast : PySem.W.keepIn K (.ref C_AtLeast) = true)
    (cl1_AtMost : PySem.W.plainGet K C_AtMost Str.empty = true) (cl2_AtMost : PySem.W.hasDictIn K C_AtMost = true) (cl3_AtMost : PySem.W.plainOver K C_AtMost = true) (cl4_AtMost : PySem.W.findIn K (.ref C_AtMost) "__setattr__" = some (some (.builtin "object.__setattr__"))) (mk1_AtMost : PySem.W.makesIn K C_AtMost = true) (mk3_AtMost : PySem.W.keepIn K (.ref C_AtMost) = true)
    (nf_AtLeast_far : PySem.W.findIn K (.ref C_AtLeast) "far" = some none)
    (nf_AtLeast_near : PySem.W.findIn K (.ref C_AtLeast) "near" = some none)
    (nf_AtLeast_rank : PySem.W.findIn K (.ref C_AtLeast) "rank" = some none)
    (nf_AtLeast_weight : PySem.W.findIn K (.ref C_AtLeast) "weight" = some none)
    (nf_AtMost_far : PySem.W.findIn K (.ref C_AtMost) "far" = some none)
    (nf_AtMost_near : PySem.W.findIn K (.ref C_AtMost) "near" = some none)
    (nf_AtMost_rank : PySem.W.findIn K (.ref C_AtMost) "rank" = some none)
    (nf_AtMost_weight : PySem.W.findIn K (.ref C_AtMost) "weight" = some none)
    (nf_Edge_name : PySem.W.findIn K (.ref C_Edge) "name" = some none)
    (nf_Edge_word : PySem.W.findIn K (.ref C_Edge) "word" = some none)
    (nf_Just_far : PySem.W.findIn K (.ref C_Just) "far" = some none)
    (nf_Just_near : PySem.W.findIn K (.ref C_Just) "near" = some none)
    (nf_Just_rank : PySem.W.findIn K (.ref C_Just) "rank" = some none)
    (nf_Just_weight : PySem.W.findIn K (.ref C_Just) "weight" = some none)
    (nf_Minus_one : PySem.W.findIn K (.ref C_Minus) "one" = some none)
    (nf_Minus_other : PySem.W.findIn K (.ref C_Minus) "other" = some none)
    (nf_Number_number : PySem.W.findIn K (.ref C_Number) "number" = some none)
    (nf_Plus_one : PySem.W.findIn K (.ref C_Plus) "one" = some none)
    (nf_Plus_other : PySem.W.findIn K (.ref C_Plus) "other" = some none)
    (nf_Times_inner : PySem.W.findIn K (.ref C_Times) "inner" = some none)
    (nf_Times_number : PySem.W.findIn K (.ref C_Times) "number" = some none)
    (ic1_AtLeast : PySem.W.findIn K (.ref C_AtLeast) "__class__" = some (some (.builtin "object.__class__"))) (ic2_AtLeast : PySem.W.mroIn K C_AtLeast (.type "object") = some true)
    (ic1_AtMost : PySem.W.findIn K (.ref C_AtMost) "__class__" = some (some (.builtin "object.__class__"))) (ic2_AtMost : PySem.W.mroIn K C_AtMost (.type "object") = some true)
    (ic1_Just : PySem.W.findIn K (.ref C_Just) "__class__" = some (some (.builtin "object.__class__"))) (ic2_Just : PySem.W.mroIn K C_Just (.type "object") = some true)
    (id1_Wish : PySem.W.hasDictIn K C_Wish = true) (id2_Wish : PySem.W.typeIn K (.ref C_Wish) = some (.type "type")) (id3_Wish : PySem.W.subIn K (.ref C_Wish) (.ref C_Wish) = some true)
    (ij_AtLeast_Wish : PySem.W.subIn K (.ref C_AtLeast) (.ref C_Wish) = some true)
    (ij_AtMost_Wish : PySem.W.subIn K (.ref C_AtMost) (.ref C_Wish) = some true)
    (ij_Just_Wish : PySem.W.subIn K (.ref C_Just) (.ref C_Wish) = some true)
    (in_Wish : PySem.W.subIn K (.type "NoneType") (.ref C_Wish) = some false)
    : ∃ fd : FuncData, (∀ (s : Shared) (v : Value), BindsTo s fd ⟨[v], []⟩ [("_law_script", v)]) ∧ ∀ base : Heap, K.In base → base.Ns mainGlobals mg → FnOk l.prog w K mg base (L2.CX l.prog w) 17 fa fd ["_law_script"] (spLaw K) := by
  have e := hfa.symm.trans (PySem.W.mg_of X G a_law)
  cases e
  have T : Top K mg := {
    here := trivial
    b_enumerate := PySem.W.mg_none_of X G z_enumerate
    b_int := PySem.W.mg_none_of X G z_int
    b_isinstance := PySem.W.mg_none_of X G z_isinstance
    b_len := PySem.W.mg_none_of X G z_len
    b_range := PySem.W.mg_none_of X G z_range
    b_set := PySem.W.mg_none_of X G z_set
    b_sorted := PySem.W.mg_none_of X G z_sorted
    x_Mixed := ⟨C_Mixed, PySem.W.mg_of X G e_Mixed, x1_Mixed, x2_Mixed, x3_Mixed, x4_Mixed⟩
    g_DOWN := gc_tps (PySem.W.mg_of X G g1_DOWN) g2_DOWN (.cons ⟨_, rfl⟩ (.cons ⟨_, rfl⟩ (.cons ⟨_, rfl⟩ (.cons ⟨_, rfl⟩ (.cons ⟨_, rfl⟩ .nil))))) (Nat.le_of_ble_eq_true rfl)
    c_Mixed := catc_mk (PySem.W.mg_of X G e_Mixed) x3_Mixed y_Mixed x4_Mixed (by
      intro n hn
      simp only [List.mem_cons, List.not_mem_nil, or_false] at hn
      rcases hn with rfl | rfl | rfl | rfl | rfl | rfl
      · exact ⟨C_FrameError, PySem.W.mg_of X G e_FrameError, y_Mixed_FrameError⟩
      · exact ⟨C_NoWish, PySem.W.mg_of X G e_NoWish, y_Mixed_NoWish⟩
      · exact ⟨C_Mixed, PySem.W.mg_of X G e_Mixed, y_Mixed_Mixed⟩
      · exact ⟨C_NoRank, PySem.W.mg_of X G e_NoRank, y_Mixed_NoRank⟩
      · exact ⟨C_NoName, PySem.W.mg_of X G e_NoName, y_Mixed_NoName⟩
      · exact ⟨C_NoPane, PySem.W.mg_of X G e_NoPane, y_Mixed_NoPane⟩)
    i_FrameError := ⟨C_FrameError, PySem.W.mg_of X G e_FrameError, by
      intro n hn
      simp only [List.mem_cons, List.not_mem_nil, or_false] at hn
      rcases hn with rfl | rfl | rfl | rfl | rfl | rfl
      · exact ⟨C_FrameError, PySem.W.mg_of X G e_FrameError, ⟨q1_FrameError, q2_FrameError, q3_FrameError, q4_FrameError, q5_FrameError, qn_, qt_, q6_FrameError⟩, kit1 y_FrameError x4_FrameError y_FrameError_FrameError y_FrameError_FrameError⟩
      · exact ⟨C_NoWish, PySem.W.mg_of X G e_NoWish, ⟨q1_NoWish, q2_NoWish, q3_NoWish, q4_NoWish, q5_NoWish, qn_, qt_, q6_NoWish⟩, kit1 y_FrameError x4_FrameError y_FrameError_FrameError y_FrameError_NoWish⟩
      · exact ⟨C_Mixed, PySem.W.mg_of X G e_Mixed, ⟨q1_Mixed, q2_Mixed, q3_Mixed, q4_Mixed, q5_Mixed, qn_, qt_, q6_Mixed⟩, kit1 y_FrameError x4_FrameError y_FrameError_FrameError y_FrameError_Mixed⟩
      · exact ⟨C_NoRank, PySem.W.mg_of X G e_NoRank, ⟨q1_NoRank, q2_NoRank, q3_NoRank, q4_NoRank, q5_NoRank, qn_, qt_, q6_NoRank⟩, kit1 y_FrameError x4_FrameError y_FrameError_FrameError y_FrameError_NoRank⟩
      · exact ⟨C_NoName, PySem.W.mg_of X G e_NoName, ⟨q1_NoName, q2_NoName, q3_NoName, q4_NoName, q5_NoName, qn_, qt_, q6_NoName⟩, kit1 y_FrameError x4_FrameError y_FrameError_FrameError y_FrameError_NoName⟩
      · exact ⟨C_NoPane, PySem.W.mg_of X G e_NoPane, ⟨q1_NoPane, q2_NoPane, q3_NoPane, q4_NoPane, q5_NoPane, qn_, qt_, q6_NoPane⟩, kit1 y_FrameError x4_FrameError y_FrameError_FrameError y_FrameError_NoPane⟩⟩
    i_NoName := ⟨C_NoName, PySem.W.mg_of X G e_NoName, by
      intro n hn
      simp only [List.mem_cons, List.not_mem_nil, or_false] at hn
      rcases hn with rfl | rfl | rfl | rfl | rfl | rfl
      · exact ⟨C_FrameError, PySem.W.mg_of X G e_FrameError, ⟨q1_FrameError, q2_FrameError, q3_FrameError, q4_FrameError, q5_FrameError, qn_, qt_, q6_FrameError⟩, kit1 y_NoName x4_NoName y_NoName_NoName y_NoName_FrameError⟩
      · exact ⟨C_NoWish, PySem.W.mg_of X G e_NoWish, ⟨q1_NoWish, q2_NoWish, q3_NoWish, q4_NoWish, q5_NoWish, qn_, qt_, q6_NoWish⟩, kit1 y_NoName x4_NoName y_NoName_NoName y_NoName_NoWish⟩
      · exact ⟨C_Mixed, PySem.W.mg_of X G e_Mixed, ⟨q1_Mixed, q2_Mixed, q3_Mixed, q4_Mixed, q5_Mixed, qn_, qt_, q6_Mixed⟩, kit1 y_NoName x4_NoName y_NoName_NoName y_NoName_Mixed⟩
      · exact ⟨C_NoRank, PySem.W.mg_of X G e_NoRank, ⟨q1_NoRank, q2_NoRank, q3_NoRank, q4_NoRank, q5_NoRank, qn_, qt_, q6_NoRank⟩, kit1 y_NoName x4_NoName y_NoName_NoName y_NoName_NoRank⟩
      · exact ⟨C_NoName, PySem.W.mg_of X G e_NoName, ⟨q1_NoName, q2_NoName, q3_NoName, q4_NoName, q5_NoName, qn_, qt_, q6_NoName⟩, kit1 y_NoName x4_NoName y_NoName_NoName y_NoName_NoName⟩
      · exact ⟨C_NoPane, PySem.W.mg_of X G e_NoPane, ⟨q1_NoPane, q2_NoPane, q3_NoPane, q4_NoPane, q5_NoPane, qn_, qt_, q6_NoPane⟩, kit1 y_NoName x4_NoName y_NoName_NoName y_NoName_NoPane⟩⟩
    i_NoPane := ⟨C_NoPane, PySem.W.mg_of X G e_NoPane, by
      intro n hn
      simp only [List.mem_cons, List.not_mem_nil, or_false] at hn
      rcases hn with rfl | rfl | rfl | rfl | rfl | rfl
      · exact ⟨C_FrameError, PySem.W.mg_of X G e_FrameError, ⟨q1_FrameError, q2_FrameError, q3_FrameError, q4_FrameError, q5_FrameError, qn_, qt_, q6_FrameError⟩, kit1 y_NoPane x4_NoPane y_NoPane_NoPane y_NoPane_FrameError⟩
      · exact ⟨C_NoWish, PySem.W.mg_of X G e_NoWish, ⟨q1_NoWish, q2_NoWish, q3_NoWish, q4_NoWish, q5_NoWish, qn_, qt_, q6_NoWish⟩, kit1 y_NoPane x4_NoPane y_NoPane_NoPane y_NoPane_NoWish⟩
      · exact ⟨C_Mixed, PySem.W.mg_of X G e_Mixed, ⟨q1_Mixed, q2_Mixed, q3_Mixed, q4_Mixed, q5_Mixed, qn_, qt_, q6_Mixed⟩, kit1 y_NoPane x4_NoPane y_NoPane_NoPane y_NoPane_Mixed⟩
      · exact ⟨C_NoRank, PySem.W.mg_of X G e_NoRank, ⟨q1_NoRank, q2_NoRank, q3_NoRank, q4_NoRank, q5_NoRank, qn_, qt_, q6_NoRank⟩, kit1 y_NoPane x4_NoPane y_NoPane_NoPane y_NoPane_NoRank⟩
      · exact ⟨C_NoName, PySem.W.mg_of X G e_NoName, ⟨q1_NoName, q2_NoName, q3_NoName, q4_NoName, q5_NoName, qn_, qt_, q6_NoName⟩, kit1 y_NoPane x4_NoPane y_NoPane_NoPane y_NoPane_NoName⟩
      · exact ⟨C_NoPane, PySem.W.mg_of X G e_NoPane, ⟨q1_NoPane, q2_NoPane, q3_NoPane, q4_NoPane, q5_NoPane, qn_, qt_, q6_NoPane⟩, kit1 y_NoPane x4_NoPane y_NoPane_NoPane y_NoPane_NoPane⟩⟩
    i_NoRank := ⟨C_NoRank, PySem.W.mg_of X G e_NoRank, by
      intro n hn
      simp only [List.mem_cons, List.not_mem_nil, or_false] at hn
      rcases hn with rfl | rfl | rfl | rfl | rfl | rfl
      · exact ⟨C_FrameError, PySem.W.mg_of X G e_FrameError, ⟨q1_FrameError, q2_FrameError, q3_FrameError, q4_FrameError, q5_FrameError, qn_, qt_, q6_FrameError⟩, kit1 y_NoRank x4_NoRank y_NoRank_NoRank y_NoRank_FrameError⟩
      · exact ⟨C_NoWish, PySem.W.mg_of X G e_NoWish, ⟨q1_NoWish, q2_NoWish, q3_NoWish, q4_NoWish, q5_NoWish, qn_, qt_, q6_NoWish⟩, kit1 y_NoRank x4_NoRank y_NoRank_NoRank y_NoRank_NoWish⟩
      · exact ⟨C_Mixed, PySem.W.mg_of X G e_Mixed, ⟨q1_Mixed, q2_Mixed, q3_Mixed, q4_Mixed, q5_Mixed, qn_, qt_, q6_Mixed⟩, kit1 y_NoRank x4_NoRank y_NoRank_NoRank y_NoRank_Mixed⟩
      · exact ⟨C_NoRank, PySem.W.mg_of X G e_NoRank, ⟨q1_NoRank, q2_NoRank, q3_NoRank, q4_NoRank, q5_NoRank, qn_, qt_, q6_NoRank⟩, kit1 y_NoRank x4_NoRank y_NoRank_NoRank y_NoRank_NoRank⟩
      · exact ⟨C_NoName, PySem.W.mg_of X G e_NoName, ⟨q1_NoName, q2_NoName, q3_NoName, q4_NoName, q5_NoName, qn_, qt_, q6_NoName⟩, kit1 y_NoRank x4_NoRank y_NoRank_NoRank y_NoRank_NoName⟩
      · exact ⟨C_NoPane, PySem.W.mg_of X G e_NoPane, ⟨q1_NoPane, q2_NoPane, q3_NoPane, q4_NoPane, q5_NoPane, qn_, qt_, q6_NoPane⟩, kit1 y_NoRank x4_NoRank y_NoRank_NoRank y_NoRank_NoPane⟩⟩
    i_NoWish := ⟨C_NoWish, PySem.W.mg_of X G e_NoWish, by
      intro n hn
      simp only [List.mem_cons, List.not_mem_nil, or_false] at hn
      rcases hn with rfl | rfl | rfl | rfl | rfl | rfl
      · exact ⟨C_FrameError, PySem.W.mg_of X G e_FrameError, ⟨q1_FrameError, q2_FrameError, q3_FrameError, q4_FrameError, q5_FrameError, qn_, qt_, q6_FrameError⟩, kit1 y_NoWish x4_NoWish y_NoWish_NoWish y_NoWish_FrameError⟩
      · exact ⟨C_NoWish, PySem.W.mg_of X G e_NoWish, ⟨q1_NoWish, q2_NoWish, q3_NoWish, q4_NoWish, q5_NoWish, qn_, qt_, q6_NoWish⟩, kit1 y_NoWish x4_NoWish y_NoWish_NoWish y_NoWish_NoWish⟩
      · exact ⟨C_Mixed, PySem.W.mg_of X G e_Mixed, ⟨q1_Mixed, q2_Mixed, q3_Mixed, q4_Mixed, q5_Mixed, qn_, qt_, q6_Mixed⟩, kit1 y_NoWish x4_NoWish y_NoWish_NoWish y_NoWish_Mixed⟩
      · exact ⟨C_NoRank, PySem.W.mg_of X G e_NoRank, ⟨q1_NoRank, q2_NoRank, q3_NoRank, q4_NoRank, q5_NoRank, qn_, qt_, q6_NoRank⟩, kit1 y_NoWish x4_NoWish y_NoWish_NoWish y_NoWish_NoRank⟩
      · exact ⟨C_NoName, PySem.W.mg_of X G e_NoName, ⟨q1_NoName, q2_NoName, q3_NoName, q4_NoName, q5_NoName, qn_, qt_, q6_NoName⟩, kit1 y_NoWish x4_NoWish y_NoWish_NoWish y_NoWish_NoName⟩
      · exact ⟨C_NoPane, PySem.W.mg_of X G e_NoPane, ⟨q1_NoPane, q2_NoPane, q3_NoPane, q4_NoPane, q5_NoPane, qn_, qt_, q6_NoPane⟩, kit1 y_NoWish x4_NoWish y_NoWish_NoWish y_NoWish_NoPane⟩⟩
    ib_ValueError := ⟨PySem.W.mg_none_of X G z_ValueError, by
      intro n hn
      simp only [List.mem_cons, List.not_mem_nil, or_false] at hn
      rcases hn with rfl | rfl | rfl | rfl | rfl | rfl
      · exact ⟨C_FrameError, PySem.W.mg_of X G e_FrameError, ⟨q1_FrameError, q2_FrameError, q3_FrameError, q4_FrameError, q5_FrameError, qn_, qt_, q6_FrameError⟩, kit2 (by decide +kernel) y_ValueError_FrameError⟩
      · exact ⟨C_NoWish, PySem.W.mg_of X G e_NoWish, ⟨q1_NoWish, q2_NoWish, q3_NoWish, q4_NoWish, q5_NoWish, qn_, qt_, q6_NoWish⟩, kit2 (by decide +kernel) y_ValueError_NoWish⟩
      · exact ⟨C_Mixed, PySem.W.mg_of X G e_Mixed, ⟨q1_Mixed, q2_Mixed, q3_Mixed, q4_Mixed, q5_Mixed, qn_, qt_, q6_Mixed⟩, kit2 (by decide +kernel) y_ValueError_Mixed⟩
      · exact ⟨C_NoRank, PySem.W.mg_of X G e_NoRank, ⟨q1_NoRank, q2_NoRank, q3_NoRank, q4_NoRank, q5_NoRank, qn_, qt_, q6_NoRank⟩, kit2 (by decide +kernel) y_ValueError_NoRank⟩
      · exact ⟨C_NoName, PySem.W.mg_of X G e_NoName, ⟨q1_NoName, q2_NoName, q3_NoName, q4_NoName, q5_NoName, qn_, qt_, q6_NoName⟩, kit2 (by decide +kernel) y_ValueError_NoName⟩
      · exact ⟨C_NoPane, PySem.W.mg_of X G e_NoPane, ⟨q1_NoPane, q2_NoPane, q3_NoPane, q4_NoPane, q5_NoPane, qn_, qt_, q6_NoPane⟩, kit2 (by decide +kernel) y_ValueError_NoPane⟩⟩
    fl_AtLeast_far := ⟨C_AtLeast, e_AtLeast, ⟨cl1_AtLeast, cl2_AtLeast, cl3_AtLeast, cl4_AtLeast⟩, nf_AtLeast_far⟩
    fl_AtLeast_near := ⟨C_AtLeast, e_AtLeast, ⟨cl1_AtLeast, cl2_AtLeast, cl3_AtLeast, cl4_AtLeast⟩, nf_AtLeast_near⟩
    fl_AtLeast_rank := ⟨C_AtLeast, e_AtLeast, ⟨cl1_AtLeast, cl2_AtLeast, cl3_AtLeast, cl4_AtLeast⟩, nf_AtLeast_rank⟩
    fl_AtLeast_weight := ⟨C_AtLeast, e_AtLeast, ⟨cl1_AtLeast, cl2_AtLeast, cl3_AtLeast, cl4_AtLeast⟩, nf_AtLeast_weight⟩
    fl_AtMost_far := ⟨C_AtMost, e_AtMost, ⟨cl1_AtMost, cl2_AtMost, cl3_AtMost, cl4_AtMost⟩, nf_AtMost_far⟩
    fl_AtMost_near := ⟨C_AtMost, e_AtMost, ⟨cl1_AtMost, cl2_AtMost, cl3_AtMost, cl4_AtMost⟩, nf_AtMost_near⟩
    fl_AtMost_rank := ⟨C_AtMost, e_AtMost, ⟨cl1_AtMost, cl2_AtMost, cl3_AtMost, cl4_AtMost⟩, nf_AtMost_rank⟩
    fl_AtMost_weight := ⟨C_AtMost, e_AtMost, ⟨cl1_AtMost, cl2_AtMost, cl3_AtMost, cl4_AtMost⟩, nf_AtMost_weight⟩
    fl_Edge_name := ⟨C_Edge, e_Edge, ⟨cl1_Edge, cl2_Edge, cl3_Edge, cl4_Edge⟩, nf_Edge_name⟩
    fl_Edge_word := ⟨C_Edge, e_Edge, ⟨cl1_Edge, cl2_Edge, cl3_Edge, cl4_Edge⟩, nf_Edge_word⟩
    fl_Just_far := ⟨C_Just, e_Just, ⟨cl1_Just, cl2_Just, cl3_Just, cl4_Just⟩, nf_Just_far⟩
    fl_Just_near := ⟨C_Just, e_Just, ⟨cl1_Just, cl2_Just, cl3_Just, cl4_Just⟩, nf_Just_near⟩
    fl_Just_rank := ⟨C_Just, e_Just, ⟨cl1_Just, cl2_Just, cl3_Just, cl4_Just⟩, nf_Just_rank⟩
    fl_Just_weight := ⟨C_Just, e_Just, ⟨cl1_Just, cl2_Just, cl3_Just, cl4_Just⟩, nf_Just_weight⟩
    fl_Minus_one := ⟨C_Minus, e_Minus, ⟨cl1_Minus, cl2_Minus, cl3_Minus, cl4_Minus⟩, nf_Minus_one⟩
    fl_Minus_other := ⟨C_Minus, e_Minus, ⟨cl1_Minus, cl2_Minus, cl3_Minus, cl4_Minus⟩, nf_Minus_other⟩
    fl_Number_number := ⟨C_Number, e_Number, ⟨cl1_Number, cl2_Number, cl3_Number, cl4_Number⟩, nf_Number_number⟩
    fl_Plus_one := ⟨C_Plus, e_Plus, ⟨cl1_Plus, cl2_Plus, cl3_Plus, cl4_Plus⟩, nf_Plus_one⟩
    fl_Plus_other := ⟨C_Plus, e_Plus, ⟨cl1_Plus, cl2_Plus, cl3_Plus, cl4_Plus⟩, nf_Plus_other⟩
    fl_Times_inner := ⟨C_Times, e_Times, ⟨cl1_Times, cl2_Times, cl3_Times, cl4_Times⟩, nf_Times_inner⟩
    fl_Times_number := ⟨C_Times, e_Times, ⟨cl1_Times, cl2_Times, cl3_Times, cl4_Times⟩, nf_Times_number⟩
    is_AtLeast_Wish := ⟨C_AtLeast, C_Wish, e_AtLeast, PySem.W.mg_of X G e_Wish, ⟨cl1_AtLeast, cl2_AtLeast, cl3_AtLeast, cl4_AtLeast⟩, ic1_AtLeast, qn_, qt_, ic2_AtLeast, R.kitR id1_Wish id2_Wish id3_Wish ij_AtLeast_Wish⟩
    is_AtMost_Wish := ⟨C_AtMost, C_Wish, e_AtMost, PySem.W.mg_of X G e_Wish, ⟨cl1_AtMost, cl2_AtMost, cl3_AtMost, cl4_AtMost⟩, ic1_AtMost, qn_, qt_, ic2_AtMost, R.kitR id1_Wish id2_Wish id3_Wish ij_AtMost_Wish⟩
    is_Just_Wish := ⟨C_Just, C_Wish, e_Just, PySem.W.mg_of X G e_Wish, ⟨cl1_Just, cl2_Just, cl3_Just, cl4_Just⟩, ic1_Just, qn_, qt_, ic2_Just, R.kitR id1_Wish id2_Wish id3_Wish ij_Just_Wish⟩
    no_Wish := ⟨C_Wish, PySem.W.mg_of X G e_Wish, R.kitN id1_Wish id2_Wish in_Wish⟩
  }
  have F_Term_ways := fun_mk (st := s_Term_ways) l_Term_ways c_Term_ways k_Term_ways
  have b_Term_ways := F_Term_ways.binds (ps := ["self"]) fun _ _ _ _ _ _ us hl => match us, hl with | [_], _ => rfl
  have F_Edge_ways := fun_mk (st := s_Edge_ways) l_Edge_ways c_Edge_ways k_Edge_ways
  have b_Edge_ways := F_Edge_ways.binds (ps := ["self"]) fun _ _ _ _ _ _ us hl => match us, hl with | [_], _ => rfl
  have F_Times_ways := fun_mk (st := s_Times_ways) l_Times_ways c_Times_ways k_Times_ways
  have b_Times_ways := F_Times_ways.binds (ps := ["self"]) fun _ _ _ _ _ _ us hl => match us, hl with | [_], _ => rfl
  have F_Pair_ways := fun_mk (st := s_Pair_ways) l_Pair_ways c_Pair_ways k_Pair_ways
  have b_Pair_ways := F_Pair_ways.binds (ps := ["self"]) fun _ _ _ _ _ _ us hl => match us, hl with | [_], _ => rfl
  have F_Wish_way := fun_mk (st := s_Wish_way) l_Wish_way c_Wish_way k_Wish_way
  have b_Wish_way := F_Wish_way.binds (ps := ["self"]) fun _ _ _ _ _ _ us hl => match us, hl with | [_], _ => rfl
  have F_Number___init__ := fun_mk (st := s_Number___init__) l_Number___init__ c_Number___init__ k_Number___init__
  have b_Number___init__ := F_Number___init__.binds (ps := ["self", "number"]) fun _ _ _ _ _ _ us hl => match us, hl with | [_, _], _ => rfl
  have F_Edge___init__ := fun_mk (st := s_Edge___init__) l_Edge___init__ c_Edge___init__ k_Edge___init__
  have b_Edge___init__ := F_Edge___init__.binds (ps := ["self", "word", "name"]) fun _ _ _ _ _ _ us hl => match us, hl with | [_, _, _], _ => rfl
  have F_Times___init__ := fun_mk (st := s_Times___init__) l_Times___init__ c_Times___init__ k_Times___init__
  have b_Times___init__ := F_Times___init__.binds (ps := ["self", "number", "inner"]) fun _ _ _ _ _ _ us hl => match us, hl with | [_, _, _], _ => rfl
  have F_Pair___init__ := fun_mk (st := s_Pair___init__) l_Pair___init__ c_Pair___init__ k_Pair___init__
  have b_Pair___init__ := F_Pair___init__.binds (ps := ["self", "one", "other"]) fun _ _ _ _ _ _ us hl => match us, hl with | [_, _, _], _ => rfl
  have F_Wish___init__ := fun_mk (st := s_Wish___init__) l_Wish___init__ c_Wish___init__ k_Wish___init__
  have b_Wish___init__ := F_Wish___init__.binds (ps := ["self", "near", "far", "rank", "weight"]) fun _ _ _ _ _ _ us hl => match us, hl with | [_, _, _, _, _], _ => rfl
  have F_l_cell_at := fun_mk (st := s_l_cell_at) l_l_cell_at c_l_cell_at k_l_cell_at
  have b_l_cell_at := F_l_cell_at.binds (ps := ["_law_script", "_law_k"]) fun _ _ _ _ _ _ us hl => match us, hl with | [_, _], _ => rfl
  have F_l_leaf := fun_mk (st := s_l_leaf) l_l_leaf c_l_leaf k_l_leaf
  have b_l_leaf := F_l_leaf.binds (ps := ["_law_cell", "_law_way"]) fun _ _ _ _ _ _ us hl => match us, hl with | [_, _], _ => rfl
  have F_l_term := fun_mk (st := s_l_term) l_l_term c_l_term k_l_term
  have b_l_term := F_l_term.binds (ps := ["_law_cells", "_law_way", "_law_odd"]) fun _ _ _ _ _ _ us hl => match us, hl with | [_, _, _], _ => rfl
  have F_l_alone := fun_mk (st := s_l_alone) l_l_alone c_l_alone k_l_alone
  have b_l_alone := F_l_alone.binds (ps := ["_law_e"]) fun _ _ _ _ _ _ us hl => match us, hl with | [_], _ => rfl
  have F_l_made := fun_mk (st := s_l_made) l_l_made c_l_made k_l_made
  have b_l_made := F_l_made.binds (ps := ["_law_kind", "_law_near", "_law_far"]) fun _ _ _ _ _ _ us hl => match us, hl with | [_, _, _], _ => rfl
  have F_law := fun_mk (st := s_law) l_law c_law k_law
  refine ⟨PySem.W.fnOf "law" "law" (defArgs s_law) (defBody s_law) (defScope s_law) .none kV_5 dc_5 pm_5 an_5 cd_5 ct_5, fun s v => .of_eq rfl, fun base _ _ => ?_⟩
  have d_l_cell_at : DefOk l.prog w K mg base "_law_cell_at" 1 ["_law_script", "_law_k"] [] (spP K mg 2 ph_l_cell_at) := ⟨_, _, [], w_l_cell_at F_l_cell_at T, PySem.W.mg_of X G a_l_cell_at, k_l_cell_at, b_l_cell_at, .nil⟩
  have d_l_alone : HotDef l.prog w K mg base "_law_alone" 1 ["_law_e"] (spH K mg 1 (ph_l_alone K mg)) := ⟨_, _, w_l_alone F_l_alone T, PySem.W.mg_of X G a_l_alone, k_l_alone, b_l_alone⟩
  have M_Trm_ways : ∀ d : Nat, ∀ t : Trm, t.depth < d → MthOk l.prog w K mg base (Rec.cls t) "ways" (0 + d) ["self"] (spP K mg 1 (ph_Trm_ways d (Rec.cls t))) := by
    intro d
    induction d with
    | zero => intro t h; omega
    | succ d ih =>
      intro t _
      cases t with
      | number _ => exact ⟨C_Number, f_Term_ways, _, e_Number, ⟨cl1_Number, cl2_Number, cl3_Number, cl4_Number⟩, ⟨fi_Number_ways, n_Term_ways, k_Term_ways⟩, w_Term_ways F_Term_ways T d ih "Number" rfl, b_Term_ways⟩
      | edge _ _ => exact ⟨C_Edge, f_Edge_ways, _, e_Edge, ⟨cl1_Edge, cl2_Edge, cl3_Edge, cl4_Edge⟩, ⟨fi_Edge_ways, n_Edge_ways, k_Edge_ways⟩, w_Edge_ways F_Edge_ways T d ih "Edge" rfl, b_Edge_ways⟩
      | times _ _ => exact ⟨C_Times, f_Times_ways, _, e_Times, ⟨cl1_Times, cl2_Times, cl3_Times, cl4_Times⟩, ⟨fi_Times_ways, n_Times_ways, k_Times_ways⟩, w_Times_ways F_Times_ways T d ih "Times" rfl, b_Times_ways⟩
      | plus _ _ => exact ⟨C_Plus, f_Pair_ways, _, e_Plus, ⟨cl1_Plus, cl2_Plus, cl3_Plus, cl4_Plus⟩, ⟨fi_Plus_ways, n_Pair_ways, k_Pair_ways⟩, w_Pair_ways F_Pair_ways T d ih "Plus" (.inl rfl), b_Pair_ways⟩
      | minus _ _ => exact ⟨C_Minus, f_Pair_ways, _, e_Minus, ⟨cl1_Minus, cl2_Minus, cl3_Minus, cl4_Minus⟩, ⟨fi_Minus_ways, n_Pair_ways, k_Pair_ways⟩, w_Pair_ways F_Pair_ways T d ih "Minus" (.inr rfl), b_Pair_ways⟩
  have d_Trm_ways : ∀ t : Trm, t.depth < 12 → MthOk l.prog w K mg base (Rec.cls t) "ways" (0 + 12) ["self"] (spP K mg 1 (ph_Trm_ways 12 (Rec.cls t))) := M_Trm_ways 12
  have k_Number : MkOk l.prog w K mg base "Number" 1 ["self", "number"] (spI K mg 2 ph_Number___init__) := ⟨C_Number, f_Number___init__, _, e_Number, PySem.W.mg_of X G e_Number, ⟨mk1_Number, mk2_Number, n_Number___init__, mk3_Number⟩, w_Number___init__ F_Number___init__ T, b_Number___init__⟩
  have k_Edge : MkOk l.prog w K mg base "Edge" 1 ["self", "word", "name"] (spI K mg 3 ph_Edge___init__) := ⟨C_Edge, f_Edge___init__, _, e_Edge, PySem.W.mg_of X G e_Edge, ⟨mk1_Edge, mk2_Edge, n_Edge___init__, mk3_Edge⟩, w_Edge___init__ F_Edge___init__ T, b_Edge___init__⟩
  have k_Times : MkOk l.prog w K mg base "Times" 1 ["self", "number", "inner"] (spI K mg 3 ph_Times___init__) := ⟨C_Times, f_Times___init__, _, e_Times, PySem.W.mg_of X G e_Times, ⟨mk1_Times, mk2_Times, n_Times___init__, mk3_Times⟩, w_Times___init__ F_Times___init__ T, b_Times___init__⟩
  have k_Plus : MkOk l.prog w K mg base "Plus" 1 ["self", "one", "other"] (spI K mg 3 ph_Pair___init__) := ⟨C_Plus, f_Pair___init__, _, e_Plus, PySem.W.mg_of X G e_Plus, ⟨mk1_Plus, mk2_Plus, n_Pair___init__, mk3_Plus⟩, w_Pair___init__ F_Pair___init__ T, b_Pair___init__⟩
  have k_Minus : MkOk l.prog w K mg base "Minus" 1 ["self", "one", "other"] (spI K mg 3 ph_Pair___init__) := ⟨C_Minus, f_Pair___init__, _, e_Minus, PySem.W.mg_of X G e_Minus, ⟨mk1_Minus, mk2_Minus, n_Pair___init__, mk3_Minus⟩, w_Pair___init__ F_Pair___init__ T, b_Pair___init__⟩
  have d_l_leaf : DefOk l.prog w K mg base "_law_leaf" 3 ["_law_cell", "_law_way"] [] (spP K mg 2 ph_l_leaf) := ⟨_, _, [], w_l_leaf F_l_leaf T k_Edge k_Number, PySem.W.mg_of X G a_l_leaf, k_l_leaf, b_l_leaf, .nil⟩
  have d_l_term : DefOk l.prog w K mg base "_law_term" 4 ["_law_cells", "_law_way", "_law_odd"] [] (spP K mg 3 ph_l_term) := ⟨_, _, [], w_l_term F_l_term T d_l_leaf k_Minus k_Number k_Plus k_Times, PySem.W.mg_of X G a_l_term, k_l_term, b_l_term, .nil⟩
  have d_Wsh_way : ∀ t : Wsh, MthOk l.prog w K mg base (Rec.cls t) "way" 14 ["self"] (spP K mg 1 (ph_Wsh_way (Rec.cls t))) := by
    intro t
    cases t with
    | just _ _ _ _ => exact ⟨C_Just, f_Wish_way, _, e_Just, ⟨cl1_Just, cl2_Just, cl3_Just, cl4_Just⟩, ⟨fi_Just_way, n_Wish_way, k_Wish_way⟩, w_Wish_way F_Wish_way T d_Trm_ways "Just" (.inl rfl), b_Wish_way⟩
    | least _ _ _ _ => exact ⟨C_AtLeast, f_Wish_way, _, e_AtLeast, ⟨cl1_AtLeast, cl2_AtLeast, cl3_AtLeast, cl4_AtLeast⟩, ⟨fi_AtLeast_way, n_Wish_way, k_Wish_way⟩, w_Wish_way F_Wish_way T d_Trm_ways "AtLeast" (.inr (.inl rfl)), b_Wish_way⟩
    | most _ _ _ _ => exact ⟨C_AtMost, f_Wish_way, _, e_AtMost, ⟨cl1_AtMost, cl2_AtMost, cl3_AtMost, cl4_AtMost⟩, ⟨fi_AtMost_way, n_Wish_way, k_Wish_way⟩, w_Wish_way F_Wish_way T d_Trm_ways "AtMost" (.inr (.inr rfl)), b_Wish_way⟩
  have k_Just : MkOk l.prog w K mg base "Just" 14 ["self", "near", "far", "rank", "weight"] (spI K mg 5 ph_Wish___init__) := ⟨C_Just, f_Wish___init__, _, e_Just, PySem.W.mg_of X G e_Just, ⟨mk1_Just, mk2_Just, n_Wish___init__, mk3_Just⟩, w_Wish___init__ F_Wish___init__ T d_Trm_ways, b_Wish___init__⟩
  have k_AtLeast : MkOk l.prog w K mg base "AtLeast" 14 ["self", "near", "far", "rank", "weight"] (spI K mg 5 ph_Wish___init__) := ⟨C_AtLeast, f_Wish___init__, _, e_AtLeast, PySem.W.mg_of X G e_AtLeast, ⟨mk1_AtLeast, mk2_AtLeast, n_Wish___init__, mk3_AtLeast⟩, w_Wish___init__ F_Wish___init__ T d_Trm_ways, b_Wish___init__⟩
  have k_AtMost : MkOk l.prog w K mg base "AtMost" 14 ["self", "near", "far", "rank", "weight"] (spI K mg 5 ph_Wish___init__) := ⟨C_AtMost, f_Wish___init__, _, e_AtMost, PySem.W.mg_of X G e_AtMost, ⟨mk1_AtMost, mk2_AtMost, n_Wish___init__, mk3_AtMost⟩, w_Wish___init__ F_Wish___init__ T d_Trm_ways, b_Wish___init__⟩
  have d_l_made : DefOk l.prog w K mg base "_law_made" 16 ["_law_kind", "_law_near", "_law_far"] [] (spP K mg 3 ph_l_made) := ⟨_, _, [], w_l_made F_l_made T d_l_alone k_AtLeast k_AtMost k_Just d_Wsh_way, PySem.W.mg_of X G a_l_made, k_l_made, b_l_made, .nil⟩
  exact (w_law (P := l.prog) (w := w) (base := base) F_law T d_l_term d_l_cell_at d_l_made).imp (law_end fun ns hn => ⟨ns, rfl, (plain_law ns hn).1, (plain_law ns hn).2⟩)
end G
open PySem PySem.W PyProof.Rows
set_option maxRecDepth 100000 in
set_option maxHeartbeats 0 in
theorem PySem.Challenge.cw_springframe_k13_across_and_down_holds : PySem.Challenge.rw_springframe_k13_across_and_down.Holds := by
  w_on; o_law; k_head; (case hw => w_witness2)
  k_fill
  refine L2.walk_of (l := PySem.Challenge.rw_springframe_k13_across_and_down) (n := 63) (k := 17) (x := "_law_script") (CX := fun w => L2.CX PySem.Challenge.rw_springframe_k13_across_and_down.prog w) (sp := fun w => R.spLaw _) rfl (by decide) rfl ⟨rfl, by decide, by decide⟩ (fun w h Y => PySem.W.kIn_of Y) ?F (fun _ _ a ns hl _ hS => ⟨a, ns, rfl, hS, hl, fun _ _ e => e⟩) (fun _ _ _ _ _ h => R.cx_end h)
  case F =>
    intro w mg fa h KX GG hmg
    refine' _root_.G.all_mk KX GG hmg ?e_Number ?e_Edge ?e_Times ?e_Plus ?e_Minus ?e_Just ?e_AtLeast ?e_AtMost ?e_Wish ?mk2_Number ?mk2_Edge ?mk2_Times ?mk2_Plus ?mk2_Minus ?mk2_Just ?mk2_AtLeast ?mk2_AtMost ?fi_Number_ways ?fi_Edge_ways ?fi_Times_ways ?fi_Plus_ways ?fi_Minus_ways ?fi_Just_way ?fi_AtLeast_way ?fi_AtMost_way ?a_l_cell_at ?l_l_cell_at ?c_l_cell_at ?k_l_cell_at ?a_l_leaf ?l_l_leaf ?c_l_leaf ?k_l_leaf ?a_l_term ?l_l_term ?c_l_term ?k_l_term ?a_l_alone ?l_l_alone ?c_l_alone ?k_l_alone ?a_l_made ?l_l_made ?c_l_made ?k_l_made ?a_law ?l_law ?c_law ?k_law ?z_enumerate ?z_int ?z_isinstance ?z_len ?z_range ?z_set ?z_sorted ?g1_DOWN ?g2_DOWN ?e_FrameError ?e_Mixed ?e_NoName ?e_NoPane ?e_NoRank ?e_NoWish ?x1_Mixed ?x2_Mixed ?x3_FrameError ?x4_FrameError ?x3_Mixed ?x4_Mixed ?x3_NoName ?x4_NoName ?x3_NoPane ?x4_NoPane ?x3_NoRank ?x4_NoRank ?x3_NoWish ?x4_NoWish ?y_FrameError ?y_FrameError_FrameError ?y_FrameError_NoWish ?y_FrameError_Mixed ?y_FrameError_NoRank ?y_FrameError_NoName ?y_FrameError_NoPane ?y_Mixed ?y_Mixed_FrameError ?y_Mixed_NoWish ?y_Mixed_Mixed ?y_Mixed_NoRank ?y_Mixed_NoName ?y_Mixed_NoPane ?y_NoName ?y_NoName_FrameError ?y_NoName_NoWish ?y_NoName_Mixed ?y_NoName_NoRank ?y_NoName_NoName ?y_NoName_NoPane ?y_NoPane ?y_NoPane_FrameError ?y_NoPane_NoWish ?y_NoPane_Mixed ?y_NoPane_NoRank ?y_NoPane_NoName ?y_NoPane_NoPane ?y_NoRank ?y_NoRank_FrameError ?y_NoRank_NoWish ?y_NoRank_Mixed ?y_NoRank_NoRank ?y_NoRank_NoName ?y_NoRank_NoPane ?y_NoWish ?y_NoWish_FrameError ?y_NoWish_NoWish ?y_NoWish_Mixed ?y_NoWish_NoRank ?y_NoWish_NoName ?y_NoWish_NoPane ?z_ValueError ?y_ValueError_FrameError ?y_ValueError_NoWish ?y_ValueError_Mixed ?y_ValueError_NoRank ?y_ValueError_NoName ?y_ValueError_NoPane ?qn_ ?qt_ ?q1_FrameError ?q2_FrameError ?q3_FrameError ?q4_FrameError ?q5_FrameError ?q6_FrameError ?q1_NoWish ?q2_NoWish ?q3_NoWish ?q4_NoWish ?q5_NoWish ?q6_NoWish ?q1_Mixed ?q2_Mixed ?q3_Mixed ?q4_Mixed ?q5_Mixed ?q6_Mixed ?q1_NoRank ?q2_NoRank ?q3_NoRank ?q4_NoRank ?q5_NoRank ?q6_NoRank ?q1_NoName ?q2_NoName ?q3_NoName ?q4_NoName ?q5_NoName ?q6_NoName ?q1_NoPane ?q2_NoPane ?q3_NoPane ?q4_NoPane ?q5_NoPane ?q6_NoPane ?l_Term_ways ?c_Term_ways ?k_Term_ways ?n_Term_ways ?l_Edge_ways ?c_Edge_ways ?k_Edge_ways ?n_Edge_ways ?l_Times_ways ?c_Times_ways ?k_Times_ways ?n_Times_ways ?l_Pair_ways ?c_Pair_ways ?k_Pair_ways ?n_Pair_ways ?l_Wish_way ?c_Wish_way ?k_Wish_way ?n_Wish_way ?l_Number___init__ ?c_Number___init__ ?k_Number___init__ ?n_Number___init__ ?l_Edge___init__ ?c_Edge___init__ ?k_Edge___init__ ?n_Edge___init__ ?l_Times___init__ ?c_Times___init__ ?k_Times___init__ ?n_Times___init__ ?l_Pair___init__ ?c_Pair___init__ ?k_Pair___init__ ?n_Pair___init__ ?l_Wish___init__ ?c_Wish___init__ ?k_Wish___init__ ?n_Wish___init__ ?cl1_Number ?cl2_Number ?cl3_Number ?cl4_Number ?mk1_Number ?mk3_Number ?cl1_Edge ?cl2_Edge ?cl3_Edge ?cl4_Edge ?mk1_Edge ?mk3_Edge ?cl1_Times ?cl2_Times ?cl3_Times ?cl4_Times ?mk1_Times ?mk3_Times ?cl1_Plus ?cl2_Plus ?cl3_Plus ?cl4_Plus ?mk1_Plus ?mk3_Plus ?cl1_Minus ?cl2_Minus ?cl3_Minus ?cl4_Minus ?mk1_Minus ?mk3_Minus ?cl1_Just ?cl2_Just ?cl3_Just ?cl4_Just ?mk1_Just ?mk3_Just ?cl1_AtLeast ?cl2_AtLeast ?cl3_AtLeast ?cl4_AtLeast ?mk1_AtLeast ?mk3_AtLeast ?cl1_AtMost ?cl2_AtMost ?cl3_AtMost ?cl4_AtMost ?mk1_AtMost ?mk3_AtMost ?nf_AtLeast_far ?nf_AtLeast_near ?nf_AtLeast_rank ?nf_AtLeast_weight ?nf_AtMost_far ?nf_AtMost_near ?nf_AtMost_rank ?nf_AtMost_weight ?nf_Edge_name ?nf_Edge_word ?nf_Just_far ?nf_Just_near ?nf_Just_rank ?nf_Just_weight ?nf_Minus_one ?nf_Minus_other ?nf_Number_number ?nf_Plus_one ?nf_Plus_other ?nf_Times_inner ?nf_Times_number ?ic1_AtLeast ?ic2_AtLeast ?ic1_AtMost ?ic2_AtMost ?ic1_Just ?ic2_Just ?id1_Wish ?id2_Wish ?id3_Wish ?ij_AtLeast_Wish ?ij_AtMost_Wish ?ij_Just_Wish ?in_Wish
    (case e_Number => k_is)
    (case e_Edge => k_is)
    (case e_Times => k_is)
    (case e_Plus => k_is)
    (case e_Minus => k_is)
    (case e_Just => k_is)
    (case e_AtLeast => k_is)
    (case e_AtMost => k_is)
    (case e_Wish => k_is)
    (case mk2_Number => k_is)
    (case mk2_Edge => k_is)
    (case mk2_Times => k_is)
    (case mk2_Plus => k_is)
    (case mk2_Minus => k_is)
    (case mk2_Just => k_is)
    (case mk2_AtLeast => k_is)
    (case mk2_AtMost => k_is)
    (case fi_Number_ways => k_is)
    (case fi_Edge_ways => k_is)
    (case fi_Times_ways => k_is)
    (case fi_Plus_ways => k_is)
    (case fi_Minus_ways => k_is)
    (case fi_Just_way => k_is)
    (case fi_AtLeast_way => k_is)
    (case fi_AtMost_way => k_is)
    (case a_l_cell_at => k_is)
    (case l_l_cell_at => k_is)
    (case c_l_cell_at => k_is)
    (case k_l_cell_at => k_is)
    (case a_l_leaf => k_is)
    (case l_l_leaf => k_is)
    (case c_l_leaf => k_is)
    (case k_l_leaf => k_is)
    (case a_l_term => k_is)
    (case l_l_term => k_is)
    (case c_l_term => k_is)
    (case k_l_term => k_is)
    (case a_l_alone => k_is)
    (case l_l_alone => k_is)
    (case c_l_alone => k_is)
    (case k_l_alone => k_is)
    (case a_l_made => k_is)
    (case l_l_made => k_is)
    (case c_l_made => k_is)
    (case k_l_made => k_is)
    (case a_law => k_is)
    (case l_law => k_is)
    (case c_law => k_is)
    (case k_law => k_is)
    (case z_enumerate => k_is)
    (case z_int => k_is)
    (case z_isinstance => k_is)
    (case z_len => k_is)
    (case z_range => k_is)
    (case z_set => k_is)
    (case z_sorted => k_is)
    (case g1_DOWN => k_is)
    (case g2_DOWN => k_is)
    (case e_FrameError => k_is)
    (case e_Mixed => k_is)
    (case e_NoName => k_is)
    (case e_NoPane => k_is)
    (case e_NoRank => k_is)
    (case e_NoWish => k_is)
    (case x1_Mixed => k_exc)
    (case x2_Mixed => k_is)
    (case x3_FrameError => k_is)
    (case x4_FrameError => k_is)
    (case x3_Mixed => k_is)
    (case x4_Mixed => k_is)
    (case x3_NoName => k_is)
    (case x4_NoName => k_is)
    (case x3_NoPane => k_is)
    (case x4_NoPane => k_is)
    (case x3_NoRank => k_is)
    (case x4_NoRank => k_is)
    (case x3_NoWish => k_is)
    (case x4_NoWish => k_is)
    (case y_FrameError => k_is)
    (case y_FrameError_FrameError => (first | rfl | k_is))
    (case y_FrameError_NoWish => k_is)
    (case y_FrameError_Mixed => k_is)
    (case y_FrameError_NoRank => k_is)
    (case y_FrameError_NoName => k_is)
    (case y_FrameError_NoPane => k_is)
    (case y_Mixed => k_is)
    (case y_Mixed_FrameError => k_is)
    (case y_Mixed_NoWish => k_is)
    (case y_Mixed_Mixed => (first | rfl | k_is))
    (case y_Mixed_NoRank => k_is)
    (case y_Mixed_NoName => k_is)
    (case y_Mixed_NoPane => k_is)
    (case y_NoName => k_is)
    (case y_NoName_FrameError => k_is)
    (case y_NoName_NoWish => k_is)
    (case y_NoName_Mixed => k_is)
    (case y_NoName_NoRank => k_is)
    (case y_NoName_NoName => (first | rfl | k_is))
    (case y_NoName_NoPane => k_is)
    (case y_NoPane => k_is)
    (case y_NoPane_FrameError => k_is)
    (case y_NoPane_NoWish => k_is)
    (case y_NoPane_Mixed => k_is)
    (case y_NoPane_NoRank => k_is)
    (case y_NoPane_NoName => k_is)
    (case y_NoPane_NoPane => (first | rfl | k_is))
    (case y_NoRank => k_is)
    (case y_NoRank_FrameError => k_is)
    (case y_NoRank_NoWish => k_is)
    (case y_NoRank_Mixed => k_is)
    (case y_NoRank_NoRank => (first | rfl | k_is))
    (case y_NoRank_NoName => k_is)
    (case y_NoRank_NoPane => k_is)
    (case y_NoWish => k_is)
    (case y_NoWish_FrameError => k_is)
    (case y_NoWish_NoWish => (first | rfl | k_is))
    (case y_NoWish_Mixed => k_is)
    (case y_NoWish_NoRank => k_is)
    (case y_NoWish_NoName => k_is)
    (case y_NoWish_NoPane => k_is)
    (case z_ValueError => k_is)
    (case y_ValueError_FrameError => k_is)
    (case y_ValueError_NoWish => k_is)
    (case y_ValueError_Mixed => k_is)
    (case y_ValueError_NoRank => k_is)
    (case y_ValueError_NoName => k_is)
    (case y_ValueError_NoPane => k_is)
    (case qn_ => k_is)
    (case qt_ => k_is)
    (case q1_FrameError => k_is)
    (case q2_FrameError => k_is)
    (case q3_FrameError => k_is)
    (case q4_FrameError => k_is)
    (case q5_FrameError => k_is)
    (case q6_FrameError => k_is)
    (case q1_NoWish => k_is)
    (case q2_NoWish => k_is)
    (case q3_NoWish => k_is)
    (case q4_NoWish => k_is)
    (case q5_NoWish => k_is)
    (case q6_NoWish => k_is)
    (case q1_Mixed => k_is)
    (case q2_Mixed => k_is)
    (case q3_Mixed => k_is)
    (case q4_Mixed => k_is)
    (case q5_Mixed => k_is)
    (case q6_Mixed => k_is)
    (case q1_NoRank => k_is)
    (case q2_NoRank => k_is)
    (case q3_NoRank => k_is)
    (case q4_NoRank => k_is)
    (case q5_NoRank => k_is)
    (case q6_NoRank => k_is)
    (case q1_NoName => k_is)
    (case q2_NoName => k_is)
    (case q3_NoName => k_is)
    (case q4_NoName => k_is)
    (case q5_NoName => k_is)
    (case q6_NoName => k_is)
    (case q1_NoPane => k_is)
    (case q2_NoPane => k_is)
    (case q3_NoPane => k_is)
    (case q4_NoPane => k_is)
    (case q5_NoPane => k_is)
    (case q6_NoPane => k_is)
    (case l_Term_ways => k_is)
    (case c_Term_ways => k_is)
    (case k_Term_ways => k_is)
    (case n_Term_ways => k_is)
    (case l_Edge_ways => k_is)
    (case c_Edge_ways => k_is)
    (case k_Edge_ways => k_is)
    (case n_Edge_ways => k_is)
    (case l_Times_ways => k_is)
    (case c_Times_ways => k_is)
    (case k_Times_ways => k_is)
    (case n_Times_ways => k_is)
    (case l_Pair_ways => k_is)
    (case c_Pair_ways => k_is)
    (case k_Pair_ways => k_is)
    (case n_Pair_ways => k_is)
    (case l_Wish_way => k_is)
    (case c_Wish_way => k_is)
    (case k_Wish_way => k_is)
    (case n_Wish_way => k_is)
    (case l_Number___init__ => k_is)
    (case c_Number___init__ => k_is)
    (case k_Number___init__ => k_is)
    (case n_Number___init__ => k_is)
    (case l_Edge___init__ => k_is)
    (case c_Edge___init__ => k_is)
    (case k_Edge___init__ => k_is)
    (case n_Edge___init__ => k_is)
    (case l_Times___init__ => k_is)
    (case c_Times___init__ => k_is)
    (case k_Times___init__ => k_is)
    (case n_Times___init__ => k_is)
    (case l_Pair___init__ => k_is)
    (case c_Pair___init__ => k_is)
    (case k_Pair___init__ => k_is)
    (case n_Pair___init__ => k_is)
    (case l_Wish___init__ => k_is)
    (case c_Wish___init__ => k_is)
    (case k_Wish___init__ => k_is)
    (case n_Wish___init__ => k_is)
    (case cl1_Number => k_is)
    (case cl2_Number => k_is)
    (case cl3_Number => k_is)
    (case cl4_Number => k_is)
    (case mk1_Number => k_is)
    (case mk3_Number => k_is)
    (case cl1_Edge => k_is)
    (case cl2_Edge => k_is)
    (case cl3_Edge => k_is)
    (case cl4_Edge => k_is)
    (case mk1_Edge => k_is)
    (case mk3_Edge => k_is)
    (case cl1_Times => k_is)
    (case cl2_Times => k_is)
    (case cl3_Times => k_is)
    (case cl4_Times => k_is)
    (case mk1_Times => k_is)
    (case mk3_Times => k_is)
    (case cl1_Plus => k_is)
    (case cl2_Plus => k_is)
    (case cl3_Plus => k_is)
    (case cl4_Plus => k_is)
    (case mk1_Plus => k_is)
    (case mk3_Plus => k_is)
    (case cl1_Minus => k_is)
    (case cl2_Minus => k_is)
    (case cl3_Minus => k_is)
    (case cl4_Minus => k_is)
    (case mk1_Minus => k_is)
    (case mk3_Minus => k_is)
    (case cl1_Just => k_is)
    (case cl2_Just => k_is)
    (case cl3_Just => k_is)
    (case cl4_Just => k_is)
    (case mk1_Just => k_is)
    (case mk3_Just => k_is)
    (case cl1_AtLeast => k_is)
    (case cl2_AtLeast => k_is)
    (case cl3_AtLeast => k_is)
    (case cl4_AtLeast => k_is)
    (case mk1_AtLeast => k_is)
    (case mk3_AtLeast => k_is)
    (case cl1_AtMost => k_is)
    (case cl2_AtMost => k_is)
    (case cl3_AtMost => k_is)
    (case cl4_AtMost => k_is)
    (case mk1_AtMost => k_is)
    (case mk3_AtMost => k_is)
    (case nf_AtLeast_far => k_is)
    (case nf_AtLeast_near => k_is)
    (case nf_AtLeast_rank => k_is)
    (case nf_AtLeast_weight => k_is)
    (case nf_AtMost_far => k_is)
    (case nf_AtMost_near => k_is)
    (case nf_AtMost_rank => k_is)
    (case nf_AtMost_weight => k_is)
    (case nf_Edge_name => k_is)
    (case nf_Edge_word => k_is)
    (case nf_Just_far => k_is)
    (case nf_Just_near => k_is)
    (case nf_Just_rank => k_is)
    (case nf_Just_weight => k_is)
    (case nf_Minus_one => k_is)
    (case nf_Minus_other => k_is)
    (case nf_Number_number => k_is)
    (case nf_Plus_one => k_is)
    (case nf_Plus_other => k_is)
    (case nf_Times_inner => k_is)
    (case nf_Times_number => k_is)
    (case ic1_AtLeast => k_is)
    (case ic2_AtLeast => k_is)
    (case ic1_AtMost => k_is)
    (case ic2_AtMost => k_is)
    (case ic1_Just => k_is)
    (case ic2_Just => k_is)
    (case id1_Wish => k_is)
    (case id2_Wish => k_is)
    (case id3_Wish => (first | rfl | k_is))
    (case ij_AtLeast_Wish => (first | rfl | k_is))
    (case ij_AtMost_Wish => (first | rfl | k_is))
    (case ij_Just_Wish => (first | rfl | k_is))
    (case in_Wish => k_is)
