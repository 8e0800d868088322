import PyProof.Rows.All
import Wide.All
import OpenK.AllK
import Wide.FinOn
import HandS.ForMost
import HandS.ForExc
import HandS.Wide
import HandS.Flow
import HandS.IsInst
import HandS.More
import HandS.Conv
import HandS.Finally
import HandS.ExcIs
import HandS.ExcField
import HandS.TryMany
import HandS.Text
import HandS.Iter
import HandS.Zip
import PySem.Challenge.RW_springframe_k02_reckoned_with
set_option Elab.async false
set_option linter.all false
set_option maxRecDepth 100000
set_option maxHeartbeats 2000000
set_option autoImplicit false
/-! R: what a piece of Python does, told without a heap: slots hold data, a statement turns slots into slots. -/
namespace R
open PySem PySem.Spec PyProof.Rows L2
/-! ### heaps -/
def Ex (H H' : Hp) : Prop := ∀ a o, H a = some o → H' a = some o
def Pl : HO → Prop
  | .frz _ _ => False
  | _ => True
def Le (H H' : Hp) : Prop := ∀ a u, Pl u → Rd H a u → Rd H' a u
theorem Ex.refl (H : Hp) : Ex H H := fun _ _ h => h
theorem Ex.trans {H H1 H2 : Hp} (a : Ex H H1) (b : Ex H1 H2) : Ex H H2 := fun x o h => b x o (a x o h)
theorem Le.refl (H : Hp) : Le H H := fun _ _ _ h => h
theorem Le.trans {H H1 H2 : Hp} (a : Le H H1) (b : Le H1 H2) : Le H H2 := fun x o p h => b x o p (a x o p h)
theorem Ex.le {H H' : Hp} (e : Ex H H') : Le H H' := fun a u _ h => by
  rcases h with h | ⟨o, h⟩
  · exact .inl (e a _ h)
  · exact .inr ⟨o, e a _ h⟩
theorem Ex.new {H : Hp} {p : Addr} {o : HO} (h : H p = none) : Ex H (upd H p o) := fun a u e => by
  rw [upd_ne (ne_of_none e h)]
  exact e
theorem Ex.free {H H' : Hp} (e : Ex H H') {p : Addr} (h : H' p = none) : H p = none := by
  cases h1 : H p with
  | none => rfl
  | some o =>
    rw [e p o h1] at h
    cases h
theorem Le.lst {K : PySem.W.Frag} {H H' : Hp} {a : Addr} {xs : List V} (e : Le H H') (h : SqL K H a xs) : SqL K H' a xs := by
  rcases h with h | h
  · exact .inl (e a _ trivial h)
  · exact .inr h
theorem Le.tup {K : PySem.W.Frag} {H H' : Hp} {a : Addr} {xs : List V} (e : Le H H') (h : SqT K H a xs) : SqT K H' a xs := by
  rcases h with h | h
  · exact .inl (e a _ trivial h)
  · exact .inr h
/-- the heap without some addresses -/
noncomputable def wo (H : Hp) (U : Addr → Prop) : Hp := fun a => @ite _ (U a) (Classical.propDecidable _) none (H a)
theorem wo_in {H : Hp} {U : Addr → Prop} {a : Addr} (h : U a) : wo H U a = none := by unfold wo; rw [if_pos h]
theorem wo_out {H : Hp} {U : Addr → Prop} {a : Addr} (h : ¬ U a) : wo H U a = H a := by unfold wo; rw [if_neg h]
theorem wo_some {H : Hp} {U : Addr → Prop} {a : Addr} {o : HO} (h : wo H U a = some o) : ¬ U a ∧ H a = some o := by
  by_cases u : U a
  · rw [wo_in u] at h; cases h
  · rw [wo_out u] at h; exact ⟨u, h⟩
theorem wo_le {H : Hp} {U : Addr → Prop} : Le (wo H U) H := Ex.le fun _ _ h => (wo_some h).2
theorem wo_ex {H H' : Hp} {U : Addr → Prop} (e : Ex H H') : Ex (wo H U) (wo H' U) := fun a o h => by
  obtain ⟨u, h⟩ := wo_some h
  rw [wo_out u]
  exact e a o h
theorem wo_mono {H : Hp} {U U' : Addr → Prop} (h : ∀ a, U' a → U a) : Ex (wo H U) (wo H U') := fun a o q => by
  obtain ⟨u, q⟩ := wo_some q
  rw [wo_out fun z => u (h a z)]
  exact q
/-! ### data -/
class Dat (α : Type) where
  rep : PySem.W.Frag → Hp → V → α → Prop
  mono : ∀ {K : PySem.W.Frag} {H H' : Hp} {v : V} {x : α}, Le H H' → rep K H v x → rep K H' v x
class Own (α : Type) where
  own : PySem.W.Frag → Hp → Hp → V → List Addr → α → Prop
  frame : ∀ {K : PySem.W.Frag} {Hf Hf' H H' : Hp} {v : V} {L : List Addr} {x : α}, Le Hf Hf' → (∀ a ∈ L, H' a = H a) → own K Hf H v L x → own K Hf' H' v L x
instance : Dat Int := ⟨fun _ _ v x => v = .int x, fun _ h => h⟩
instance : Dat Bool := ⟨fun _ _ v x => v = .bl x, fun _ h => h⟩
instance : Dat Str := ⟨fun _ _ v x => v = .str x, fun _ h => h⟩
instance : Dat Unit := ⟨fun _ _ v _ => v = .non, fun _ h => h⟩
theorem Paired.imp {α β : Type} {F G : α → β → Prop} {xs : List α} {ys : List β} (h : Paired F xs ys) (f : ∀ a b, F a b → G a b) : Paired G xs ys := L2.Paired.mapP h f
def repL {α : Type} [Dat α] (K : PySem.W.Frag) (H : Hp) (vs : List V) (xs : List α) : Prop := Paired (fun u x => Dat.rep K H u x) vs xs
theorem repL.mono {α : Type} [Dat α] {K : PySem.W.Frag} {H H' : Hp} {vs : List V} {xs : List α} (e : Le H H') (h : repL K H vs xs) : repL K H' vs xs := Paired.imp h fun _ _ q => Dat.mono e q
instance {α : Type} [Dat α] : Dat (List α) where
  rep K H v xs := ∃ a vs, v = .ref a ∧ SqL K H a vs ∧ repL K H vs xs
  mono := fun e ⟨a, vs, h, l, r⟩ => ⟨a, vs, h, e.lst l, r.mono e⟩
/-- a dict with texts as keys -/
structure Dc (α : Type) where
  kvs : List (Str × α)
def repD {α : Type} [Dat α] (K : PySem.W.Frag) (H : Hp) (ws : List (Key × V)) (xs : List (Str × α)) : Prop := Paired (fun (q : Key × V) (p : Str × α) => q.1 = .inr p.1 ∧ Dat.rep K H q.2 p.2) ws xs
theorem repD.mono {α : Type} [Dat α] {K : PySem.W.Frag} {H H' : Hp} {vs : List (Key × V)} {xs : List (Str × α)} (e : Le H H') (h : repD K H vs xs) : repD K H' vs xs := Paired.imp h fun _ _ q => ⟨q.1, Dat.mono e q.2⟩
instance {α : Type} [Dat α] : Dat (Dc α) where
  rep K H v d := ∃ a ws, v = .ref a ∧ Rd H a (.dK ws) ∧ repD K H ws d.kvs
  mono := fun e ⟨a, ws, h, l, r⟩ => ⟨a, ws, h, e a _ trivial l, r.mono e⟩
/-! ### slots -/
inductive Sl : Type 1
  | any : Sl
  | dat {α : Type} [i : Dat α] (x : α) : Sl
  | own {α : Type} [i : Own α] (x : α) : Sl
abbrev Env' := List Sl
def SlOk (K : PySem.W.Frag) (Hf H : Hp) (o : Option (Option V)) (L : List Addr) : Sl → Prop
  | .any => True
  | .dat (i := i) x => ∃ v, o = some (some v) ∧ i.rep K Hf v x
  | .own (i := i) x => ∃ v, o = some (some v) ∧ i.own K Hf H v L x
def UU (O : Addr → Prop) (fp : Nat → List Addr) : Addr → Prop := fun a => O a ∨ ∃ i, a ∈ fp i
def nofp : Nat → List Addr := fun _ => []
theorem uu_no {O : Addr → Prop} : UU O nofp = O := by
  funext a
  apply propext
  constructor
  · rintro (h | ⟨i, h⟩)
    · exact h
    · cases h
  · exact .inl
structure SOk (K : PySem.W.Frag) (O : Addr → Prop) (fp : Nat → List Addr) (env : Env') (σ : L2.St) (H : Hp) : Prop where
  len : σ.length = env.length
  bnd : ∀ a, O a → ∃ o, H a = some o
  fpO : ∀ i a, a ∈ fp i → ¬ O a
  sep : ∀ i j a, a ∈ fp i → a ∈ fp j → i = j
  dom : ∀ i a, a ∈ fp i → ∃ o, H a = some o
  sl : ∀ i s, env[i]? = some s → SlOk K (wo H (UU O fp)) H (σ[i]?) (fp i) s
section
variable {K : PySem.W.Frag} {O : Addr → Prop} {fp fp' : Nat → List Addr} {env : Env'} {σ : L2.St} {H H' : Hp}
theorem SOk.bndU (S : SOk K O fp env σ H) : ∀ a, UU O fp a → ∃ o, H a = some o := fun a h => by
  rcases h with h | ⟨i, h⟩
  · exact S.bnd a h
  · exact S.dom i a h
theorem SOk.ex (S : SOk K O fp env σ H) (e : Ex H H') : SOk K O fp env σ H' where
  len := S.len
  bnd := fun a h => let ⟨o, q⟩ := S.bnd a h; ⟨o, e a o q⟩
  fpO := S.fpO
  sep := S.sep
  dom := fun i a h => let ⟨o, q⟩ := S.dom i a h; ⟨o, e a o q⟩
  sl := fun i s h => by
    have q := S.sl i s h
    cases s with
    | any => exact trivial
    | dat x =>
      obtain ⟨v, h1, h2⟩ := q
      exact ⟨v, h1, Dat.mono (wo_ex e).le h2⟩
    | own x =>
      obtain ⟨v, h1, h2⟩ := q
      refine ⟨v, h1, Own.frame (wo_ex e).le (fun a ha => ?_) h2⟩
      obtain ⟨o, q⟩ := S.dom i a ha
      rw [q, e a o q]
theorem SOk.fresh (S : SOk K O fp env σ H) {p : Addr} (h : H p = none) : ¬ UU O fp p := fun u => by
  obtain ⟨o, q⟩ := S.bndU p u
  rw [h] at q
  cases q
end
/-! ### expressions -/
/-- what an expression is worth: x, whatever the heap -/
def Ev {α : Type} [Dat α] (K : PySem.W.Frag) (t : TE) (env : Env') (x : α) : Prop :=
  ∀ O fp σ H, SOk K O fp env σ H → ∀ Q : VK, (∀ v H', Ex H H' → Dat.rep K (wo H' (UU O fp)) v x → Q v H') → t σ H Q
def EvT (K : PySem.W.Frag) (t : TT) (env : Env') (b : Bool) : Prop :=
  ∀ O fp σ H, SOk K O fp env σ H → ∀ Q : Bool → Hp → Prop, (∀ H', Ex H H' → Q b H') → t σ H Q
def ARep (K : PySem.W.Frag) (Hf : Hp) : List V → List Sl → Prop
  | [], [] => True
  | v :: vs, .dat (i := i) x :: xs => i.rep K Hf v x ∧ ARep K Hf vs xs
  | _, _ => False
theorem ARep.mono {K : PySem.W.Frag} {H H' : Hp} (e : Le H H') : ∀ {vs : List V} {xs : List Sl}, ARep K H vs xs → ARep K H' vs xs
  | [], [], _ => trivial
  | _ :: _, .dat (i := i) x :: _, h => ⟨i.mono e h.1, ARep.mono e h.2⟩
  | [], _ :: _, h => by simp [ARep] at h
  | _ :: _, [], h => by simp [ARep] at h
  | _ :: _, .any :: _, h => by simp [ARep] at h
  | _ :: _, .own (i := _) _ :: _, h => by simp [ARep] at h
/-! ### tuples -/
def repT (K : PySem.W.Frag) (H : Hp) (v : V) (cs : List Sl) : Prop := ∃ a vs, v = .ref a ∧ SqT K H a vs ∧ ARep K H vs cs
theorem repT.mono {K : PySem.W.Frag} {H H' : Hp} {v : V} {cs : List Sl} (e : Le H H') (h : repT K H v cs) : repT K H' v cs := let ⟨a, vs, h0, t, r⟩ := h; ⟨a, vs, h0, e.tup t, r.mono e⟩
instance {α β : Type} [Dat α] [Dat β] : Dat (α × β) := ⟨fun K H v p => repT K H v [.dat p.1, .dat p.2], fun e h => h.mono e⟩
/-- what is a tuple, with these parts -/
class Tup (τ : Type) [Dat τ] where
  comps : τ → List Sl
  is : ∀ (K : PySem.W.Frag) (H : Hp) (v : V) (x : τ), Dat.rep K H v x = repT K H v (comps x)
instance {α β : Type} [Dat α] [Dat β] : Tup (α × β) := ⟨fun p => [.dat p.1, .dat p.2], fun _ _ _ _ => rfl⟩
structure T3 (α β γ : Type) where
  a : α
  b : β
  c : γ
instance {α β γ : Type} [Dat α] [Dat β] [Dat γ] : Dat (T3 α β γ) := ⟨fun K H v p => repT K H v [.dat p.a, .dat p.b, .dat p.c], fun e h => h.mono e⟩
instance {α β γ : Type} [Dat α] [Dat β] [Dat γ] : Tup (T3 α β γ) := ⟨fun p => [.dat p.a, .dat p.b, .dat p.c], fun _ _ _ _ => rfl⟩
structure T4 (α β γ δ : Type) where
  a : α
  b : β
  c : γ
  d : δ
instance {α β γ δ : Type} [Dat α] [Dat β] [Dat γ] [Dat δ] : Dat (T4 α β γ δ) := ⟨fun K H v p => repT K H v [.dat p.a, .dat p.b, .dat p.c, .dat p.d], fun e h => h.mono e⟩
instance {α β γ δ : Type} [Dat α] [Dat β] [Dat γ] [Dat δ] : Tup (T4 α β γ δ) := ⟨fun p => [.dat p.a, .dat p.b, .dat p.c, .dat p.d], fun _ _ _ _ => rfl⟩
structure T5 (α β γ δ ε : Type) where
  a : α
  b : β
  c : γ
  d : δ
  e : ε
instance {α β γ δ ε : Type} [Dat α] [Dat β] [Dat γ] [Dat δ] [Dat ε] : Dat (T5 α β γ δ ε) := ⟨fun K H v p => repT K H v [.dat p.a, .dat p.b, .dat p.c, .dat p.d, .dat p.e], fun e h => h.mono e⟩
instance {α β γ δ ε : Type} [Dat α] [Dat β] [Dat γ] [Dat δ] [Dat ε] : Tup (T5 α β γ δ ε) := ⟨fun p => [.dat p.a, .dat p.b, .dat p.c, .dat p.d, .dat p.e], fun _ _ _ _ => rfl⟩
theorem ARep.length {K : PySem.W.Frag} {H : Hp} : ∀ {vs : List V} {xs : List Sl}, ARep K H vs xs → vs.length = xs.length
  | [], [], _ => rfl
  | _ :: _, .dat (i := i) x :: _, h => congrArg (· + 1) (ARep.length h.2)
  | [], _ :: _, h => by simp [ARep] at h
  | _ :: _, [], h => by simp [ARep] at h
  | _ :: _, .any :: _, h => by simp [ARep] at h
  | _ :: _, .own (i := _) _ :: _, h => by simp [ARep] at h
theorem ARep.get {α : Type} [Dat α] {K : PySem.W.Frag} {H : Hp} {x : α} : ∀ {vs : List V} {xs : List Sl} {i : Nat}, ARep K H vs xs → xs[i]? = some (.dat x) → ∃ v, vs[i]? = some v ∧ Dat.rep K H v x
  | [], [], i, _, q => by simp at q
  | v :: _, .dat (i := j) y :: _, 0, h, q => by
    have q : Sl.dat (i := j) y = Sl.dat x := by simpa using q
    cases q
    exact ⟨v, rfl, h.1⟩
  | _ :: vs, .dat (i := j) y :: xs, i + 1, h, q => by
    have := ARep.get (vs := vs) (xs := xs) (i := i) h.2 (by simpa using q)
    simpa using this
  | [], _ :: _, _, h, _ => by simp [ARep] at h
  | _ :: _, [], _, h, _ => by simp [ARep] at h
  | _ :: _, .any :: _, _, h, _ => by simp [ARep] at h
  | _ :: _, .own (i := _) _ :: _, _, h, _ => by simp [ARep] at h
def EvA (K : PySem.W.Frag) (t : TA) (env : Env') (xs : List Sl) : Prop :=
  ∀ O fp σ H, SOk K O fp env σ H → ∀ Q : List V → Hp → Prop, (∀ vs H', Ex H H' → ARep K (wo H' (UU O fp)) vs xs → Q vs H') → t σ H Q
/-- an operation on values -/
def RV {α β γ : Type} [Dat α] [Dat β] [Dat γ] (K : PySem.W.Frag) (r : R2) (x : α) (y : β) (z : γ) : Prop :=
  ∀ (U : Addr → Prop) (v1 v2 : V) (H : Hp), (∀ a, U a → ∃ o, H a = some o) → Dat.rep K (wo H U) v1 x → Dat.rep K (wo H U) v2 y → ∀ Q : VK, (∀ v H', Ex H H' → Dat.rep K (wo H' U) v z → Q v H') → r v1 v2 H Q
/-- a call on values -/
def RC {γ : Type} [Dat γ] (K : PySem.W.Frag) (r : List V → Hp → VK → Prop) (xs : List Sl) (z : γ) : Prop :=
  ∀ (U : Addr → Prop) (vs : List V) (H : Hp), (∀ a, U a → ∃ o, H a = some o) → ARep K (wo H U) vs xs → ∀ Q : VK, (∀ v H', Ex H H' → Dat.rep K (wo H' U) v z → Q v H') → r vs H Q
/-- the greatest reading -/
def tE (X : Cx) (e : Expr) : TE := fun σ H Q => ∀ pins s, Inv X pins σ H s → wpAny (model X.prog X.w) X.A (eval e X.env) (EP X pins σ Q) X.xe s
def tT (X : Cx) (e : Expr) : TT := fun σ H Q => ∀ pins s, Inv X pins σ H s → wpAny (model X.prog X.w) X.A (isTrue e X.env (eval e X.env)) (TP X pins σ Q) X.xe s
def tW (X : Cx) (e : Expr) : TT := fun σ H Q => ∀ (whole : Sem Value) pins s, Inv X pins σ H s → wpAny (model X.prog X.w) X.A (isTrue e X.env whole) (TP X pins σ Q) X.xe s
def tA (X : Cx) (es : List Expr) : TA := fun σ H Q => ∀ (pos : Pos) pins s, Inv X pins σ H s → wpAny (model X.prog X.w) X.A (spliced (backTo pos (starEach es X.env))) (AP X pins σ Q) X.xe s
def tS (X : Cx) (st : Stmt) : TS := fun D σ H => ∀ pins s, Inv X pins σ H s → wpAny (model X.prog X.w) X.A (exec st X.env) (SP X pins D) X.xe s
def tSs (X : Cx) (sts : List Stmt) : TS := fun D σ H => ∀ pins s, Inv X pins σ H s → wpAny (model X.prog X.w) X.A (execs sts X.env) (SP X pins D) X.xe s
def tG (X : Cx) (tg : Expr) : TG := fun v σ H Q => ∀ pins s u, Inv X pins σ H s → RelV v u → wpAny (model X.prog X.w) X.A (assign tg X.env u) (fun _ s' => ∃ σ' H', Inv X pins σ' H' s' ∧ Q σ' H') X.xe s
theorem mE (X : Cx) (e : Expr) : PE X e (tE X e) := ⟨fun pins s _ _ _ I h => h pins s I⟩
theorem mT (X : Cx) (e : Expr) : PT X e (tT X e) := ⟨fun pins s _ _ _ I h => h pins s I⟩
theorem mW (X : Cx) (e : Expr) : PW X e (tW X e) := ⟨fun w pins s _ _ _ I h => h w pins s I⟩
theorem mA (X : Cx) (es : List Expr) : PA X es (tA X es) := ⟨fun p pins s _ _ _ I h => h p pins s I⟩
theorem mS (X : Cx) (st : Stmt) : PS X st (tS X st) := ⟨fun pins s _ _ _ I h => h pins s I⟩
theorem mSs (X : Cx) (st : List Stmt) : PSs X st (tSs X st) := ⟨fun pins s _ _ _ I h => h pins s I⟩
def EX {α : Type} [Dat α] (X : Cx) (e : Expr) (env : Env') (x : α) : Prop := Ev X.K (tE X e) env x
def ET (X : Cx) (e : Expr) (env : Env') (b : Bool) : Prop := EvT X.K (tT X e) env b
def EW (X : Cx) (e : Expr) (env : Env') (b : Bool) : Prop := EvT X.K (tW X e) env b
def EA (X : Cx) (es : List Expr) (env : Env') (xs : List Sl) : Prop := EvA X.K (tA X es) env xs
section
variable {X : Cx} {K : PySem.W.Frag} {env : Env'} {α β γ : Type} [Dat α] [Dat β] [Dat γ] {x : α} {y : β} {z : γ} {e a b c : Expr} {es : List Expr} {t ta tb tc : TE} {pos : Pos}
theorem ex_of (p : PE X e t) (h : Ev X.K t env x) : EX X e env x := fun O fp σ H S Q q pins s I => p.run pins s σ H Q I (h O fp σ H S Q q)
theorem et_of {t : TT} {k : Bool} (p : PT X e t) (h : EvT X.K t env k) : ET X e env k := fun O fp σ H S Q q pins s I => p.run pins s σ H Q I (h O fp σ H S Q q)
theorem ew_of {t : TT} {k : Bool} (p : PW X e t) (h : EvT X.K t env k) : EW X e env k := fun O fp σ H S Q q w pins s I => p.run w pins s σ H Q I (h O fp σ H S Q q)
theorem ea_of {t : TA} {xs : List Sl} (p : PA X es t) (h : EvA X.K t env xs) : EA X es env xs := fun O fp σ H S Q q pos pins s I => p.run pos pins s σ H Q I (h O fp σ H S Q q)
theorem EX.eq {x' : α} (h : EX X e env x) (q : x = x') : EX X e env x' := q ▸ h
theorem ET.eq {k k' : Bool} (h : ET X e env k) (q : k = k') : ET X e env k' := q ▸ h
theorem ev_var {i : Nat} (h : env[i]? = some (Sl.dat x)) : Ev K (tVar i) env x := fun O fp σ H S Q q => by
  obtain ⟨v, h1, h2⟩ := S.sl i _ h
  exact ⟨v, h1, q v H (Ex.refl H) h2⟩
theorem ev_c {v : V} (h : ∀ Hf, Dat.rep K Hf v x) : Ev K (tC v) env x := fun O fp σ H S Q q => q v H (Ex.refl H) (h _)
theorem ev_op {r : R2} (ha : Ev K ta env x) (hb : Ev K tb env y) (hr : RV K r x y z) : Ev K (tOp r ta tb) env z := fun O fp σ H S Q q =>
  ha O fp σ H S _ fun v1 H1 e1 r1 => hb O fp σ H1 (S.ex e1) _ fun v2 H2 e2 r2 => hr (UU O fp) v1 v2 H2 ((S.ex e1).ex e2).bndU (Dat.mono (wo_ex e2).le r1) r2 Q fun v H' e r => q v H' ((e1.trans e2).trans e) r
theorem ex_var {i : Nat} {n : Str} {pos : Pos} (h : env[i]? = some (Sl.dat x)) (hN : X.N[i]? = some n := by rfl) (hv : Vis X.env.scope n := by first | exact Or.inl rfl | exact Or.inr (Or.inl rfl) | exact Or.inr (Or.inr rfl)) (hd : (n == ("__debug__" : Str)) = false := by decide) (hc : (n == ("__classdict__" : Str)) = false := by decide) : EX X (.Name n pos) env x :=
  ex_of (pe_var hN hv hd hc) (ev_var h)
theorem ex_int {i : Int} {j : Nat} {pos : Pos} : EX X (.Constant (.int i) j pos) env i := ex_of pe_int (ev_c fun _ => rfl)
theorem ex_bl {i : Bool} {j : Nat} {pos : Pos} : EX X (.Constant (.bool i) j pos) env i := ex_of pe_bl (ev_c fun _ => rfl)
theorem ex_str {i : Str} {j : Nat} {pos : Pos} : EX X (.Constant (.str i) j pos) env i := ex_of pe_str (ev_c fun _ => rfl)
theorem ex_non {j : Nat} {pos : Pos} : EX X (.Constant .none j pos) env () := ex_of pe_non (ev_c fun _ => rfl)
theorem ex_op {op : Operator} {r : R2} (ho : OpR X (binaryOp op) r) (ha : EX X a env x) (hb : EX X b env y) (hr : RV X.K r x y z) : EX X (.BinOp a op b pos) env z := ex_of (pe_op ho (mE X a) (mE X b)) (ev_op ha hb hr)
/-! whole numbers -/
theorem rv_I0 {g : Int → Int → V} {i j : Int} (h : ∀ Hf, Dat.rep K Hf (g i j) z) : RV K (rI0 g) i j z := fun U v1 v2 H _ r1 r2 Q q => ⟨i, j, r1, r2, q _ H (Ex.refl H) (h _)⟩
theorem rv_I {C : Int → Int → Prop} {g : Int → Int → V} {i j : Int} (hc : C i j) (h : ∀ Hf, Dat.rep K Hf (g i j) z) : RV K (rI C g) i j z := fun U v1 v2 H _ r1 r2 Q q => ⟨i, j, r1, r2, hc, q _ H (Ex.refl H) (h _)⟩
theorem ex_add {i j : Int} (ha : EX X a env i) (hb : EX X b env j) : EX X (.BinOp a .Add b pos) env (i + j) := ex_op op_add ha hb (rv_I0 fun _ => rfl)
theorem ex_sub {i j : Int} (ha : EX X a env i) (hb : EX X b env j) : EX X (.BinOp a .Sub b pos) env (i - j) := ex_op op_sub ha hb (rv_I0 fun _ => rfl)
theorem ex_mul {i j : Int} (ha : EX X a env i) (hb : EX X b env j) (h : CMul i j) : EX X (.BinOp a .Mult b pos) env (i * j) := ex_op op_mul ha hb (rv_I h fun _ => rfl)
theorem ex_mulW {i j : Int} (ha : EX X a env i) (hb : EX X b env j) (h : CMulW i j) : EX X (.BinOp a .Mult b pos) env (i * j) := ex_op op_mulW ha hb (rv_I h fun _ => rfl)
theorem ex_fdiv {i j : Int} (ha : EX X a env i) (hb : EX X b env j) (h : CDiv i j) : EX X (.BinOp a .FloorDiv b pos) env (i / j) := ex_op op_fdiv ha hb (rv_I h fun _ => rfl)
theorem ex_fdivW {i j : Int} (ha : EX X a env i) (hb : EX X b env j) (h : CDivW i j) : EX X (.BinOp a .FloorDiv b pos) env (i / j) := ex_op op_fdivW ha hb (rv_I h fun _ => rfl)
theorem ex_mod {i j : Int} (ha : EX X a env i) (hb : EX X b env j) (h : 0 < j) : EX X (.BinOp a .Mod b pos) env (i % j) := ex_op op_mod ha hb (rv_I h fun _ => rfl)
theorem ex_modN {i j : Int} (ha : EX X a env i) (hb : EX X b env j) (h : j ≠ 0) : EX X (.BinOp a .Mod b pos) env (i.fmod j) := ex_op op_modN ha hb (rv_I h fun _ => rfl)
theorem ex_pow {i j : Int} (ha : EX X a env i) (hb : EX X b env j) (h : CPow i j) : EX X (.BinOp a .Pow b pos) env (i ^ j.toNat) := ex_op op_pow ha hb (rv_I h fun _ => rfl)
theorem ex_neg {i : Int} (ha : EX X a env i) : EX X (.UnaryOp .USub a pos) env (-i) := ex_of (pe_un un_neg (mE X a)) fun O fp σ H S Q q => ha O fp σ H S _ fun v1 H1 e1 r1 => ⟨i, r1, q _ H1 e1 rfl⟩
/-! comparisons -/
theorem ex_cmp {op : CmpOp} {r : R2} (ho : OpR X (compareOp op) r) (ha : EX X a env x) (hb : EX X b env y) (hr : RV X.K r x y z) (hm : behindInMarks op b = false) : EX X (.Compare a [op] [b] pos) env z := ex_of (pe_cmpR ho (mE X a) (mE X b) hm) (ev_op ha hb hr)
theorem et_cmp {op : CmpOp} {r : R2} {k : Bool} (ho : OpR X (compareOp op) r) (ha : EX X a env x) (hb : EX X b env y) (hr : RV X.K r x y k) (hm : behindInMarks op b = false) : ET X (.Compare a [op] [b] pos) env k := et_of (pt_cmpR ho (mE X a) (mE X b) hm) fun O fp σ H S Q q => ev_op ha hb hr O fp σ H S _ fun v H' e r => ⟨k, r, q H' e⟩
theorem ex_lt {i j : Int} (ha : EX X a env i) (hb : EX X b env j) : EX X (.Compare a [.Lt] [b] pos) env (decide (i < j)) := ex_cmp op_lt ha hb (rv_I0 fun _ => rfl) (nomark _)
theorem ex_le {i j : Int} (ha : EX X a env i) (hb : EX X b env j) : EX X (.Compare a [.LtE] [b] pos) env (decide (i ≤ j)) := ex_cmp op_le ha hb (rv_I0 fun _ => rfl) (nomark _)
theorem ex_gt {i j : Int} (ha : EX X a env i) (hb : EX X b env j) : EX X (.Compare a [.Gt] [b] pos) env (decide (j < i)) := ex_cmp op_gt ha hb (rv_I0 fun _ => rfl) (nomark _)
theorem ex_ge {i j : Int} (ha : EX X a env i) (hb : EX X b env j) : EX X (.Compare a [.GtE] [b] pos) env (decide (j ≤ i)) := ex_cmp op_ge ha hb (rv_I0 fun _ => rfl) (nomark _)
theorem et_lt {i j : Int} (ha : EX X a env i) (hb : EX X b env j) : ET X (.Compare a [.Lt] [b] pos) env (decide (i < j)) := et_cmp op_lt ha hb (rv_I0 fun _ => rfl) (nomark _)
theorem et_le {i j : Int} (ha : EX X a env i) (hb : EX X b env j) : ET X (.Compare a [.LtE] [b] pos) env (decide (i ≤ j)) := et_cmp op_le ha hb (rv_I0 fun _ => rfl) (nomark _)
theorem et_gt {i j : Int} (ha : EX X a env i) (hb : EX X b env j) : ET X (.Compare a [.Gt] [b] pos) env (decide (j < i)) := et_cmp op_gt ha hb (rv_I0 fun _ => rfl) (nomark _)
theorem et_ge {i j : Int} (ha : EX X a env i) (hb : EX X b env j) : ET X (.Compare a [.GtE] [b] pos) env (decide (j ≤ i)) := et_cmp op_ge ha hb (rv_I0 fun _ => rfl) (nomark _)
/-- == of what is no object -/
class Flat (α : Type) [Dat α] [DecidableEq α] : Prop where
  sc : ∀ (K : PySem.W.Frag) (Hf Hf' : Hp) (v w : V) (x y : α), Dat.rep K Hf v x → Dat.rep K Hf' w y → scal v w = true ∧ (decide (v = w)) = decide (x = y)
instance : Flat Int := ⟨fun K Hf Hf' v w x y h1 h2 => by
  have h1 : v = .int x := h1
  have h2 : w = .int y := h2
  subst h1 h2
  refine ⟨rfl, ?_⟩
  by_cases h : x = y
  · subst h; simp
  · rw [decide_eq_false h, decide_eq_false]; intro z; exact h (V.int.inj z)⟩
instance : Flat Bool := ⟨fun K Hf Hf' v w x y h1 h2 => by
  have h1 : v = .bl x := h1
  have h2 : w = .bl y := h2
  subst h1 h2
  refine ⟨rfl, ?_⟩
  by_cases h : x = y
  · subst h; simp
  · rw [decide_eq_false h, decide_eq_false]; intro z; exact h (V.bl.inj z)⟩
instance : Flat Str := ⟨fun K Hf Hf' v w x y h1 h2 => by
  have h1 : v = .str x := h1
  have h2 : w = .str y := h2
  subst h1 h2
  refine ⟨rfl, ?_⟩
  by_cases h : x = y
  · subst h; simp
  · rw [decide_eq_false h, decide_eq_false]; intro z; exact h (V.str.inj z)⟩
theorem rv_eqF {α : Type} [Dat α] [DecidableEq α] [Flat α] {x y : α} : RV K rEq x y (decide (x = y)) := fun U v1 v2 H _ r1 r2 Q q => by
  obtain ⟨h1, h2⟩ := Flat.sc K _ _ v1 v2 x y r1 r2
  exact ⟨h1, q _ H (Ex.refl H) (show V.bl (decide (v1 = v2)) = V.bl (decide (x = y)) by rw [h2])⟩
theorem rv_neF {α : Type} [Dat α] [DecidableEq α] [Flat α] {x y : α} : RV K rNe x y (!decide (x = y)) := fun U v1 v2 H _ r1 r2 Q q => by
  obtain ⟨h1, h2⟩ := Flat.sc K _ _ v1 v2 x y r1 r2
  exact ⟨h1, q _ H (Ex.refl H) (show V.bl (!decide (v1 = v2)) = V.bl (!decide (x = y)) by rw [h2])⟩
theorem ex_eq {α : Type} [Dat α] [DecidableEq α] [Flat α] {x y : α} (ha : EX X a env x) (hb : EX X b env y) : EX X (.Compare a [.Eq] [b] pos) env (decide (x = y)) := ex_cmp op_eq ha hb rv_eqF (nomark _)
theorem ex_ne {α : Type} [Dat α] [DecidableEq α] [Flat α] {x y : α} (ha : EX X a env x) (hb : EX X b env y) : EX X (.Compare a [.NotEq] [b] pos) env (!decide (x = y)) := ex_cmp op_ne ha hb rv_neF (nomark _)
theorem et_eq {α : Type} [Dat α] [DecidableEq α] [Flat α] {x y : α} (ha : EX X a env x) (hb : EX X b env y) : ET X (.Compare a [.Eq] [b] pos) env (decide (x = y)) := et_cmp op_eq ha hb rv_eqF (nomark _)
theorem et_ne {α : Type} [Dat α] [DecidableEq α] [Flat α] {x y : α} (ha : EX X a env x) (hb : EX X b env y) : ET X (.Compare a [.NotEq] [b] pos) env (!decide (x = y)) := et_cmp op_ne ha hb rv_neF (nomark _)
/-! and, or, not, if-else -/
theorem et_val {k : Bool} (h : EX X e env k) (he : ∀ whole, isTrue e X.env whole = (do let v ← whole; standAt e.pos; holding [v] (truthy v)) := by intro _; rfl) : ET X e env k := et_of (pt_val (mE X e) he) fun O fp σ H S Q q => h O fp σ H S _ fun v H' e r => ⟨k, r, q H' e⟩
theorem ew_and1 {k : Bool} (h : ET X a env k) : EW X (.BoolOp .And [a] pos) env k := ew_of (pw_and1 (mT X a)) h
theorem ew_or1 {k : Bool} (h : ET X a env k) : EW X (.BoolOp .Or [a] pos) env k := ew_of (pw_or1 (mT X a)) h
theorem ew_and {k j : Bool} (h : ET X a env k) (hr : k = true → EW X (.BoolOp .And (b :: es) pos) env j) : EW X (.BoolOp .And (a :: b :: es) pos) env (k && j) := ew_of (pw_and (mT X a) (mW X _)) fun O fp σ H S Q q => h O fp σ H S _ fun H1 e1 => by
  cases k with
  | true =>
    show tW X _ σ H1 Q
    exact hr rfl O fp σ H1 (S.ex e1) Q fun H2 e2 => q H2 (e1.trans e2)
  | false =>
    show Q false H1
    exact q H1 e1
theorem ew_or {k j : Bool} (h : ET X a env k) (hr : k = false → EW X (.BoolOp .Or (b :: es) pos) env j) : EW X (.BoolOp .Or (a :: b :: es) pos) env (k || j) := ew_of (pw_or (mT X a) (mW X _)) fun O fp σ H S Q q => h O fp σ H S _ fun H1 e1 => by
  cases k with
  | false =>
    show tW X _ σ H1 Q
    exact hr rfl O fp σ H1 (S.ex e1) Q fun H2 e2 => q H2 (e1.trans e2)
  | true =>
    show Q true H1
    exact q H1 e1
theorem et_bool {k : Bool} (h : EW X e env k) : ET X e env k := et_of (PW.pt (mW X e)) h
theorem et_not {k : Bool} (h : ET X a env k) : ET X (.UnaryOp .Not a pos) env (!k) := et_of (pt_not (mT X a)) fun O fp σ H S Q q => h O fp σ H S _ fun H1 e1 => q H1 e1
theorem ex_one {op} (h : EX X a env x) : EX X (.BoolOp op [a] pos) env x := ex_of (pe_one (mE X a)) h
theorem ex_and {k j : Bool} (h : EX X a env k) (hr : k = true → EX X (.BoolOp .And (b :: es) pos) env j) : EX X (.BoolOp .And (a :: b :: es) pos) env (k && j) := ex_of (pe_and (mE X a) (mE X _)) fun O fp σ H S Q q => h O fp σ H S _ fun v H1 e1 r1 => ⟨k, r1, by
  cases k with
  | true =>
    show tE X _ σ H1 Q
    exact hr rfl O fp σ H1 (S.ex e1) Q fun v2 H2 e2 r2 => q v2 H2 (e1.trans e2) r2
  | false =>
    show Q (.bl false) H1
    exact q _ H1 e1 rfl⟩
theorem ex_or {k j : Bool} (h : EX X a env k) (hr : k = false → EX X (.BoolOp .Or (b :: es) pos) env j) : EX X (.BoolOp .Or (a :: b :: es) pos) env (k || j) := ex_of (pe_or (mE X a) (mE X _)) fun O fp σ H S Q q => h O fp σ H S _ fun v H1 e1 r1 => ⟨k, r1, by
  cases k with
  | false =>
    show tE X _ σ H1 Q
    exact hr rfl O fp σ H1 (S.ex e1) Q fun v2 H2 e2 r2 => q v2 H2 (e1.trans e2) r2
  | true =>
    show Q (.bl true) H1
    exact q _ H1 e1 rfl⟩
theorem ex_not {k : Bool} (h : EX X a env k) : EX X (.UnaryOp .Not a pos) env (!k) := ex_of (pe_not (mE X a)) fun O fp σ H S Q q => h O fp σ H S _ fun v H1 e1 r1 => ⟨k, r1, q _ H1 e1 rfl⟩
theorem ex_if {k : Bool} {z w : α} (h : ET X c env k) (h1 : k = true → EX X a env z) (h2 : k = false → EX X b env w) : EX X (.IfExp c a b pos) env (cond k z w) := ex_of (pe_ifExp (mT X c) (mE X a) (mE X b)) fun O fp σ H S Q q => h O fp σ H S _ fun H1 e1 => by
  cases k with
  | true =>
    show tE X a σ H1 Q
    exact h1 rfl O fp σ H1 (S.ex e1) Q fun v2 H2 e2 r2 => q v2 H2 (e1.trans e2) r2
  | false =>
    show tE X b σ H1 Q
    exact h2 rfl O fp σ H1 (S.ex e1) Q fun v2 H2 e2 r2 => q v2 H2 (e1.trans e2) r2
/-! argument lists, tuples, lists -/
theorem ea_nil : EA X [] env [] := ea_of pa_nil fun O fp σ H S Q q => q [] H (Ex.refl H) trivial
theorem ea_cons {xs : List Sl} (h : EX X e env x) (hr : EA X es env xs) (hs : starEach (e :: es) X.env = (false, eval e X.env) :: starEach es X.env := by rfl) : EA X (e :: es) env (Sl.dat x :: xs) := ea_of (pa_cons (mE X e) (mA X es) hs) fun O fp σ H S Q q => h O fp σ H S _ fun v H1 e1 r1 => hr O fp σ H1 (S.ex e1) _ fun vs H2 e2 r2 => q _ H2 (e1.trans e2) ⟨Dat.mono (wo_ex e2).le r1, r2⟩
theorem sz_of {n : Nat} (h : n ≤ 100000) : n ≤ sizeLine := Nat.le_trans h (by decide)
theorem upd_out {H : Hp} {U : Addr → Prop} {p : Addr} {o : HO} (h : ¬ U p) : wo (upd H p o) U p = some o := by rw [wo_out h, upd_same]
theorem ex_tup {τ : Type} [Dat τ] [T : Tup τ] {p : τ} {j : Nat} (h : EA X es env (T.comps p)) (hl : (T.comps p).length ≤ 100000 := by exact Nat.le_of_ble_eq_true rfl) : EX X (.Tuple es j pos) env p := ex_of (pe_tup (mA X _)) fun O fp σ H S Q q => h O fp σ H S _ fun vs H1 e1 r1 => by
  refine ⟨sz_of (by rw [r1.length]; exact hl), fun u hu => ?_⟩
  have e2 : Ex H1 (upd H1 u (.tup vs)) := Ex.new hu
  have np := (S.ex e1).fresh hu
  exact q _ _ (e1.trans e2) (by rw [T.is]; exact ⟨u, vs, rfl, .inl (.inl (upd_out np)), r1.mono (wo_ex e2).le⟩)
/-- t[k] of a tuple, k written -/
theorem ex_ixT {τ : Type} [Dat τ] [T : Tup τ] {p : τ} {k : Nat} (h : EX X a env p) (hb : EX X b env (k : Int)) (g : (T.comps p)[k]? = some (.dat x)) (hs : PlainIx b := by exact fun _ _ => rfl) : EX X (.Subscript a b pos) env x := ex_of (pe_ix ix_tup (mE X a) (mE X _) hs) (ev_op h hb fun U v1 v2 H _ r1 r2 Q q => by
  rw [T.is] at r1
  obtain ⟨p, vs, e, t, r⟩ := r1
  obtain ⟨v, hv, rv⟩ := r.get g
  exact ⟨p, vs, k, v, e, r2, wo_le.tup t, atI_nat hv, q _ H (Ex.refl H) rv⟩)
theorem ex_fst {p : α × β} {j : Nat} {pos' : Pos} (h : EX X a env p) : EX X (.Subscript a (.Constant (.int 0) j pos') pos) env p.1 := ex_ixT (k := 0) h ex_int rfl
theorem ex_snd {p : α × β} {j : Nat} {pos' : Pos} (h : EX X a env p) : EX X (.Subscript a (.Constant (.int 1) j pos') pos) env p.2 := ex_ixT (k := 1) h ex_int rfl
end
end R
set_option maxHeartbeats 2000000
set_option autoImplicit false
namespace R
open PySem PySem.Spec PyProof.Rows L2
/-! ### statements -/
/-- what is raised: a class by its name; the two with fields -/
inductive Exn where
  | one (c : Str)
  | clash (numbers : List Int) (weights : List (Int × Int))
  | stuck (way : Str) (numbers : List Int) (weights : List (Int × Int))
def ExAt (mg : Str → Option Value) (K : PySem.W.Frag) (Hf : Hp) (e : Exn) (cls : Value) (d : Option Addr) : Prop := match e with
  | .one c => mg c = some cls ∧ d = none
  | .clash ns ws => mg "Clash" = some cls ∧ ∃ dx v1 v2, d = some dx ∧ Hf dx = some (.xd [("numbers", v1), ("weights", v2)]) ∧ Dat.rep K Hf v1 ns ∧ Dat.rep K Hf v2 ws
  | .stuck w ns ws => mg "Stuck" = some cls ∧ ∃ dx v0 v1 v2, d = some dx ∧ Hf dx = some (.xd [("direction", v0), ("numbers", v1), ("weights", v2)]) ∧ Dat.rep K Hf v0 w ∧ Dat.rep K Hf v1 ns ∧ Dat.rep K Hf v2 ws
structure Po (ρ : Type) where
  N : Env' → Prop
  R : ρ → Env' → Prop
  X : Exn → Env' → Prop := fun _ _ => False
  B : Env' → Prop := fun _ => False
  C : Env' → Prop := fun _ => False
def Keep (fp : Nat → List Addr) (H : Hp) (fp' : Nat → List Addr) (H' : Hp) : Prop :=
  (∀ a o, (¬ ∃ i, a ∈ fp i) → H a = some o → H' a = some o) ∧ ∀ i a, a ∈ fp' i → (∃ j, a ∈ fp j) ∨ H a = none
section
variable {K : PySem.W.Frag} {O : Addr → Prop} {fp fp' fp1 : Nat → List Addr} {H H' H1 : Hp}
theorem Keep.refl : Keep fp H fp H := ⟨fun _ _ _ h => h, fun i a h => .inl ⟨i, h⟩⟩
theorem Keep.ex (e : Ex H H') : Keep fp H fp H' := ⟨fun a o _ h => e a o h, fun i a h => .inl ⟨i, h⟩⟩
theorem Keep.trans (a : Keep fp H fp1 H1) (b : Keep fp1 H1 fp' H') : Keep fp H fp' H' := by
  refine ⟨fun x o n h => b.1 x o (fun ⟨i, hi⟩ => ?_) (a.1 x o n h), fun i x h => ?_⟩
  · rcases a.2 i x hi with z | z
    · exact n z
    · rw [h] at z; cases z
  · rcases b.2 i x h with ⟨j, z⟩ | z
    · exact a.2 j x z
    · by_cases n : ∃ j, x ∈ fp j
      · exact .inl n
      · refine .inr ?_
        cases q : H x with
        | none => rfl
        | some o =>
          rw [a.1 x o n q] at z
          cases z
/-- what was frozen is so still -/
theorem Keep.frz (k : Keep fp H fp' H') : Ex (wo H (UU O fp)) (wo H' (UU O fp')) := fun a o h => by
  obtain ⟨n, q⟩ := wo_some h
  have n1 : ¬ O a := fun z => n (.inl z)
  have n2 : ¬ ∃ i, a ∈ fp i := fun z => n (.inr z)
  rw [wo_out]
  · exact k.1 a o n2 q
  · rintro (z | ⟨i, z⟩)
    · exact n1 z
    · rcases k.2 i a z with y | y
      · exact n2 y
      · rw [q] at y; cases y
end
structure Goes {ρ : Type} [Dat ρ] (K : PySem.W.Frag) (mg : Str → Option Value) (W : WX) (po : Po ρ) (O : Addr → Prop) (fp : Nat → List Addr) (H : Hp) (D : Ends) : Prop where
  nx : ∀ env' fp' σ' H', po.N env' → Keep fp H fp' H' → SOk K O fp' env' σ' H' → D.nx σ' H'
  rt : ∀ r env' fp' σ' v H', po.R r env' → Keep fp H fp' H' → SOk K O fp' env' σ' H' → Dat.rep K (wo H' (UU O fp')) v r → D.rt v H'
  ex : ∀ e env' fp' σ' cls d H', po.X e env' → Keep fp H fp' H' → SOk K O fp' env' σ' H' → ExAt mg K (wo H' (UU O fp')) e cls d → W cls d σ' H'
  bk : ∀ env' fp' σ' H', po.B env' → Keep fp H fp' H' → SOk K O fp' env' σ' H' → D.bk σ' H'
  ct : ∀ env' fp' σ' H', po.C env' → Keep fp H fp' H' → SOk K O fp' env' σ' H' → D.ct σ' H'
def SvS {ρ : Type} [Dat ρ] (K : PySem.W.Frag) (mg : Str → Option Value) (W : WX) (t : TS) (env : Env') (po : Po ρ) : Prop :=
  ∀ O fp σ H, SOk K O fp env σ H → ∀ D, Goes K mg W po O fp H D → t D σ H
def SX {ρ : Type} [Dat ρ] (X : Cx) (W : WX) (sts : List Stmt) (env : Env') (po : Po ρ) : Prop := SvS X.K X.mg W (tSs X sts) env po
def S1 {ρ : Type} [Dat ρ] (X : Cx) (W : WX) (st : Stmt) (env : Env') (po : Po ρ) : Prop := SvS X.K X.mg W (tS X st) env po
/-- what is known less -/
def Sub : Env' → Env' → Prop
  | [], [] => True
  | s :: a, t :: b => (t = .any ∨ s = t) ∧ Sub a b
  | _, _ => False
theorem Sub.refl : ∀ e : Env', Sub e e
  | [] => trivial
  | _ :: e => ⟨.inr rfl, Sub.refl e⟩
theorem Sub.len : ∀ {a b : Env'}, Sub a b → a.length = b.length
  | [], [], _ => rfl
  | _ :: a, _ :: b, h => congrArg (· + 1) (Sub.len (a := a) (b := b) h.2)
  | [], _ :: _, h => h.elim
  | _ :: _, [], h => h.elim
theorem Sub.get : ∀ {a b : Env'} {i : Nat} {s : Sl}, Sub a b → b[i]? = some s → s = .any ∨ a[i]? = some s
  | [], [], i, s, _, q => by simp at q
  | x :: a, y :: b, 0, s, h, q => by
    have q : y = s := by simpa using q
    subst q
    rcases h.1 with z | z
    · exact .inl z
    · exact .inr (by simp [z])
  | x :: a, y :: b, i + 1, s, h, q => by
    have := Sub.get (a := a) (b := b) (i := i) (s := s) h.2 (by simpa using q)
    simpa using this
  | [], _ :: _, _, _, h, _ => h.elim
  | _ :: _, [], _, _, h, _ => h.elim
theorem SOk.sub {K : PySem.W.Frag} {O : Addr → Prop} {fp : Nat → List Addr} {env env' : Env'} {σ : L2.St} {H : Hp} (S : SOk K O fp env σ H) (h : Sub env env') : SOk K O fp env' σ H where
  len := S.len.trans h.len
  bnd := S.bnd
  fpO := S.fpO
  sep := S.sep
  dom := S.dom
  sl := fun i s q => by
    rcases h.get q with z | z
    · subst z; exact trivial
    · exact S.sl i s z
/-- a slot gets data -/
theorem SOk.set {α : Type} [Dat α] {K : PySem.W.Frag} {O : Addr → Prop} {fp : Nat → List Addr} {env : Env'} {σ : L2.St} {H : Hp} {x : α} {v : V} (S : SOk K O fp env σ H) (i : Nat) (h : Dat.rep K (wo H (UU O fp)) v x) : SOk K O fp (env.set i (.dat x)) (σ.set i (some v)) H where
  len := by rw [List.length_set, List.length_set]; exact S.len
  bnd := S.bnd
  fpO := S.fpO
  sep := S.sep
  dom := S.dom
  sl := fun j s q => by
    by_cases e : i = j
    · subst e
      have hi : i < env.length := by
        have := (List.getElem?_eq_some_iff.mp q).1
        simpa using this
      rw [List.getElem?_set_self hi] at q
      cases q
      exact ⟨v, by rw [List.getElem?_set_self (by rw [S.len]; exact hi)], h⟩
    · rw [List.getElem?_set_ne e] at q ⊢
      exact S.sl j s q
/-- a slot is forgotten -/
theorem SOk.forget {K : PySem.W.Frag} {O : Addr → Prop} {fp : Nat → List Addr} {env : Env'} {σ : L2.St} {H : Hp} {o : Option V} (S : SOk K O fp env σ H) (i : Nat) : SOk K O fp (env.set i .any) (σ.set i o) H where
  len := by rw [List.length_set, List.length_set]; exact S.len
  bnd := S.bnd
  fpO := S.fpO
  sep := S.sep
  dom := S.dom
  sl := fun j s q => by
    by_cases e : i = j
    · subst e
      have hi : i < env.length := by
        have := (List.getElem?_eq_some_iff.mp q).1
        simpa using this
      rw [List.getElem?_set_self hi] at q
      cases q
      exact trivial
    · rw [List.getElem?_set_ne e] at q ⊢
      exact S.sl j s q
/-- targets -/
def GX {α : Type} [Dat α] (X : Cx) (tg : Expr) (x : α) (env env' : Env') : Prop :=
  ∀ O fp σ H v, SOk X.K O fp env σ H → Dat.rep X.K (wo H (UU O fp)) v x → ∀ Q : L2.St → Hp → Prop, (∀ σ', SOk X.K O fp env' σ' H → Q σ' H) → tG X tg v σ H Q
section
variable {X : Cx} {K : PySem.W.Frag} {mg : Str → Option Value} {W : WX} {env env' : Env'} {ρ α β γ : Type} [Dat ρ] [Dat α] [Dat β] [Dat γ] {po : Po ρ} {x : α} {y : β} {z : γ} {e a b c tg : Expr} {es : List Expr} {t ta tb tc : TE} {pos p2 : Pos} {st : Stmt} {sts rest thn els body : List Stmt}
section
variable {O : Addr → Prop} {fp fp' : Nat → List Addr} {H H' : Hp} {D : Ends}
theorem Goes.step (G : Goes K mg W po O fp H D) (k : Keep fp H fp' H') : Goes K mg W po O fp' H' D :=
  ⟨fun e f s h p q => G.nx e f s h p (k.trans q), fun r e f s v h p q => G.rt r e f s v h p (k.trans q), fun x e f s c d h p q => G.ex x e f s c d h p (k.trans q), fun e f s h p q => G.bk e f s h p (k.trans q), fun e f s h p q => G.ct e f s h p (k.trans q)⟩
end
theorem mG (X : Cx) (tg : Expr) : PG X tg (tG X tg) := ⟨fun pins s σ H v u Q I r h => h pins s u I r⟩
theorem gx_of {g : TG} (p : PG X tg g) (h : ∀ O fp σ H v, SOk X.K O fp env σ H → Dat.rep X.K (wo H (UU O fp)) v x → ∀ Q : L2.St → Hp → Prop, (∀ σ', SOk X.K O fp env' σ' H → Q σ' H) → g v σ H Q) : GX X tg x env env' :=
  fun O fp σ H v S r Q q pins s u I ru => p.run pins s σ H v u Q I ru (h O fp σ H v S r Q q)
theorem gx_name {i : Nat} {n : Str} {pos : Pos} (hN : X.N.Nodup) (hi : X.N[i]? = some n := by rfl) (hx : Loc X.env.scope n := by first | exact Or.inl rfl | exact Or.inr rfl) (hf : X.fn n = true ∨ X.env.scope.names.lookup n = some .local := by first | exact .inl rfl | exact .inr rfl | assumption) :
    GX X (.Name n pos) x env (env.set i (.dat x)) := gx_of (pg_name hN hi hx hf) fun O fp σ H v S r Q q => q _ (S.set i r)
def tGs (X : Cx) (es : List Expr) : TGs := fun vs σ H Q => ∀ (pins : List (Addr × Obj)) (s : Shared) (us : List Value), Inv X pins σ H s → Vals vs us → wpAny (model X.prog X.w) X.A (assignInOrder ((assignEach es X.env).map (·.2)) us) (fun _ s' => ∃ σ' H', Inv X pins σ' H' s' ∧ Q σ' H') X.xe s
theorem mGs (X : Cx) (es : List Expr) : PGs X es (tGs X es) := ⟨fun pins s σ H vs us Q I r h => h pins s us I r⟩
def GXs (X : Cx) (es : List Expr) (xs : List Sl) (env env' : Env') : Prop :=
  ∀ O fp σ H vs, SOk X.K O fp env σ H → ARep X.K (wo H (UU O fp)) vs xs → ∀ Q : L2.St → Hp → Prop, (∀ σ', SOk X.K O fp env' σ' H → Q σ' H) → tGs X es vs σ H Q
theorem gxs_nil : GXs X [] [] env env := fun O fp σ H vs S r Q q pins s us I ru => by
  match vs, r with
  | [], _ => exact pgs_nil.run pins s σ H [] us Q I ru ⟨rfl, q σ S⟩
theorem gxs_cons {xs : List Sl} {env1 env2 : Env'} (h1 : GX X a x env env1) (h2 : GXs X es xs env1 env2) (hs : (assignEach (a :: es) X.env).map (·.2) = assign a X.env :: (assignEach es X.env).map (·.2) := by rfl) : GXs X (a :: es) (.dat x :: xs) env env2 := fun O fp σ H vs S r Q q pins s us I ru => by
  match vs, r with
  | v :: vr, ⟨r1, r2⟩ => exact (pgs_cons (mG X a) (mGs X es) hs).run pins s σ H (v :: vr) us Q I ru ⟨v, vr, rfl, h1 O fp σ H v S r1 _ fun σ1 S1 => h2 O fp σ1 H vr S1 r2 Q q⟩
theorem gx_tup {τ : Type} [Dat τ] [T : Tup τ] {p : τ} {k : Nat} (hc : X.calm = true) (h : GXs X es (T.comps p) env env') (hn : (assignEach es X.env).length = (T.comps p).length := by rfl) (hst : (assignEach es X.env).findIdx? (·.1) = none := by rfl) : GX X (.Tuple es k pos) p env env' :=
  gx_of (pg_tup hc (mGs X es) hn hst) fun O fp σ H v S r Q q => by
    rw [T.is] at r
    obtain ⟨ad, vs, e, t, r1⟩ := r
    exact ⟨ad, vs, e, wo_le.tup t, r1.length, h O fp σ H vs S r1 Q q⟩
theorem sx_of {t : TS} (p : PSs X sts t) (h : SvS X.K X.mg W t env po) : SX X W sts env po := fun O fp σ H S D G pins s I => p.run pins s σ H D I (h O fp σ H S D G)
theorem s1_of {t : TS} (p : PS X st t) (h : SvS X.K X.mg W t env po) : S1 X W st env po := fun O fp σ H S D G pins s I => p.run pins s σ H D I (h O fp σ H S D G)
theorem sx_nil (h : po.N env) : SX X W [] env po := sx_of pss_nil fun O fp σ H S D G => G.nx env fp σ H h Keep.refl S
theorem sx_cons (M : Env' → Prop) (h1 : S1 X W st env { po with N := M }) (h2 : ∀ e, M e → SX X W rest e po) : SX X W (st :: rest) env po :=
  sx_of (pss_cons (mS X st) (mSs X rest)) fun O fp σ H S D G => h1 O fp σ H S _ ⟨fun e f s h m k S2 => h2 e m O f s h S2 D (G.step k), G.rt, G.ex, G.bk, G.ct⟩
/-- a statement that hands on -/
theorem sx_step {t : TS} (p : PS X st t) (h : ∀ O fp σ H, SOk X.K O fp env σ H → ∀ D : Ends, (∀ fp' σ' H', Keep fp H fp' H' → SOk X.K O fp' env' σ' H' → D.nx σ' H') → t D σ H) (h2 : SX X W rest env' po) : SX X W (st :: rest) env po :=
  sx_cons (fun e => e = env') (s1_of p fun O fp σ H S D G => h O fp σ H S D fun fp' σ' H' k S' => G.nx env' fp' σ' H' rfl k S') fun e he => he ▸ h2
theorem sx_sub (h : Sub env env') (h2 : SX X W sts env' po) : SX X W sts env po := fun O fp σ H S => h2 O fp σ H (S.sub h)
theorem SX.imp {po' : Po ρ} (h : SX X W sts env po) (n : ∀ e, po.N e → po'.N e) (r : ∀ x e, po.R x e → po'.R x e) (x : ∀ i e, po.X i e → po'.X i e) (b : ∀ e, po.B e → po'.B e) (c : ∀ e, po.C e → po'.C e) : SX X W sts env po' :=
  fun O fp σ H S D G => h O fp σ H S D ⟨fun e f s h m => G.nx e f s h (n e m), fun i e f s v h m => G.rt i e f s v h (r i e m), fun i e f s c d h m => G.ex i e f s c d h (x i e m), fun e f s h m => G.bk e f s h (b e m), fun e f s h m => G.ct e f s h (c e m)⟩
theorem sx_pass (h : SX X W rest env po) : SX X W (.Pass pos :: rest) env po := sx_step ps_pass (fun O fp σ H S D q => q fp σ H Keep.refl S) h
theorem sx_asg (he : EX X e env x) (hg : GX X tg x env env') (h : SX X W rest env' po) (hs : swapsWithSole [tg] e pos.line X.env = pure false := by rfl) (hw : swappedStores [tg] e X.env = pure none := by rfl) (h1 : (assignEach [tg] X.env).map (·.2) = [assign tg X.env] := by rfl) : SX X W (.Assign [tg] e pos :: rest) env po :=
  sx_step (ps_asg (mE X e) (mG X tg) hs hw h1) (fun O fp σ H S D q => he O fp σ H S _ fun v H1 e1 r1 => hg O fp σ H1 v (S.ex e1) r1 _ fun σ' S' => q fp σ' H1 (Keep.ex e1) S') h
theorem sx_set {i : Nat} {n : Str} (hN : X.N.Nodup) (he : EX X e env x) (h : SX X W rest (env.set i (.dat x)) po) (hi : X.N[i]? = some n := by rfl) (hx : Loc X.env.scope n := by first | exact Or.inl rfl | exact Or.inr rfl) (hs : swapsWith e (some (.Name n p2)) pos.line X.env = pure false := by rfl) (hf : X.fn n = true ∨ X.env.scope.names.lookup n = some .local := by first | exact .inl rfl | exact .inr rfl | assumption) :
    SX X W (.Assign [.Name n p2] e pos :: rest) env po :=
  sx_step (ps_set hN hi hx (mE X e) hs hf) (fun O fp σ H S D q => he O fp σ H S _ fun v H1 e1 r1 => q fp _ H1 (Keep.ex e1) ((S.ex e1).set i r1)) h
/-- a, b = e1, e2 -/
theorem sx_par {i j : Nat} {n m : Str} {px py pt : Pos} {kt k2 : Nat} {pt2 : Pos} (hc : X.calm = true) (hN : X.N.Nodup) (h : EA X [a, b] env [Sl.dat x, Sl.dat y]) (hr : SX X W rest ((env.set i (.dat x)).set j (.dat y)) po) (hij : i ≠ j := by decide)
    (hi : X.N[i]? = some n := by rfl) (hj : X.N[j]? = some m := by rfl) (lx : X.env.scope.names.lookup n = some .local := by rfl) (ly : X.env.scope.names.lookup m = some .local := by rfl) (hw : swappedStores [.Tuple [.Name n px, .Name m py] kt pt] (.Tuple [a, b] k2 pt2) X.env = pure (some [n, m]) := by rfl)
    (hs : swapsWithSole [.Tuple [.Name n px, .Name m py] kt pt] (.Tuple [a, b] k2 pt2) pos.line X.env = pure false := by rfl) (h1 : starEach [a, b] X.env = [(false, eval a X.env), (false, eval b X.env)] := by rfl) : SX X W (.Assign [.Tuple [.Name n px, .Name m py] kt pt] (.Tuple [a, b] k2 pt2) pos :: rest) env po :=
  sx_step (ps_par hc hN hi hj hij lx ly (mA X _) hw hs) (fun O fp σ H S D q => h O fp σ H S _ fun vs H1 e1 r1 => by
    match vs, r1 with
    | [v, w], ⟨h1, h2, _⟩ => exact ⟨v, w, rfl, q fp _ H1 (Keep.ex e1) (((S.ex e1).set i h1).set j h2)⟩) hr
theorem sx_ret (he : EX X e env x) {po : Po α} (h : po.R x env) : SX X W [.Return (some e) pos] env po :=
  sx_of (pss_one (ps_ret (mE X e))) fun O fp σ H S D G => he O fp σ H S _ fun v H1 e1 r1 => G.rt x env fp σ v H1 h (Keep.ex e1) (S.ex e1) r1
theorem sx_retN {po : Po Unit} (h : po.R () env) : SX X W [.Return none pos] env po :=
  sx_of (pss_one ps_retN) fun O fp σ H S D G => G.rt () env fp σ .non H h Keep.refl S rfl
theorem sx_expr (he : EX X e env x) (h : SX X W rest env po) (hs : swapsWith e none pos.line X.env = pure false := by rfl) : SX X W (.Expr e pos :: rest) env po :=
  sx_step (ps_expr (mE X e) hs) (fun O fp σ H S D q => he O fp σ H S _ fun v H1 e1 r1 => q fp σ H1 (Keep.ex e1) (S.ex e1)) h
theorem sx_break (h : po.B env) : SX X W [.Break pos] env po := sx_of (pss_one ps_break) fun O fp σ H S D G => G.bk env fp σ H h Keep.refl S
theorem sx_continue (h : po.C env) : SX X W [.Continue pos] env po := sx_of (pss_one ps_continue) fun O fp σ H S D G => G.ct env fp σ H h Keep.refl S
theorem sx_if {k : Bool} (M : Env' → Prop) (hc : ET X c env k) (h1 : k = true → SX X W thn env { po with N := M }) (h2 : k = false → SX X W els env { po with N := M }) (hr : ∀ e, M e → SX X W rest e po) : SX X W (.If c thn els pos :: rest) env po :=
  sx_cons M (s1_of (ps_if (mT X c) (mSs X thn) (mSs X els)) fun O fp σ H S D G => hc O fp σ H S _ fun H1 e1 => by
    cases k with
    | true =>
      show tSs X thn D σ H1
      exact h1 rfl O fp σ H1 (S.ex e1) D (G.step (Keep.ex e1))
    | false =>
      show tSs X els D σ H1
      exact h2 rfl O fp σ H1 (S.ex e1) D (G.step (Keep.ex e1))) hr
/-- if c: .. return -/
theorem sx_ifr {k : Bool} (hc : ET X c env k) (h1 : k = true → SX X W thn env { po with N := fun _ => False }) (hr : k = false → SX X W rest env po) : SX X W (.If c thn [] pos :: rest) env po :=
  sx_if (fun e => e = env ∧ k = false) hc (fun z => (h1 z).imp (fun _ h => h.elim) (fun _ _ h => h) (fun _ _ h => h) (fun _ h => h) (fun _ h => h)) (fun z => sx_nil ⟨rfl, z⟩) fun e ⟨he, z⟩ => by subst he; exact hr z
/-- if c: .. return / else: .. return -/
theorem sx_ife {k : Bool} (hc : ET X c env k) (h1 : k = true → SX X W thn env { po with N := fun _ => False }) (h2 : k = false → SX X W els env { po with N := fun _ => False }) : SX X W (.If c thn els pos :: rest) env po :=
  sx_if (fun _ => False) hc h1 h2 fun e h => h.elim
/-- if c: .. / else: .., the ways meet -/
theorem sx_ifj {k : Bool} (F : Bool → Env') (hc : ET X c env k) (h1 : k = true → SX X W thn env { po with N := fun e => Sub e (F true) }) (h2 : k = false → SX X W els env { po with N := fun e => Sub e (F false) }) (hr : SX X W rest (F k) po) : SX X W (.If c thn els pos :: rest) env po :=
  sx_if (fun e => Sub e (F k)) hc (fun z => by rw [z]; exact h1 z) (fun z => by rw [z]; exact h2 z) fun e h => sx_sub h hr
theorem sx_while {S : Type} (mk : S → Env') (I : S → Prop) (μ : S → Nat) (M : Env' → Prop) (s0 : S) (hp : PassesOwn (model X.prog X.w) X.A X.env X.xe) (h0 : Sub env (mk s0)) (hI : I s0)
    (hs : ∀ s, I s → ∃ k, ET X c (mk s) k ∧ (k = true → SX X W body (mk s) { po with N := fun e => ∃ s', Sub e (mk s') ∧ I s' ∧ μ s' < μ s, C := fun e => ∃ s', Sub e (mk s') ∧ I s' ∧ μ s' < μ s, B := M }) ∧ (k = false → SX X W rest (mk s) po))
    (hb : ∀ e, M e → SX X W rest e po) : SX X W (.While c body [] pos :: rest) env po :=
  sx_cons (fun e => M e ∨ ∃ s, Sub e (mk s) ∧ SX X W rest (mk s) po) (s1_of (ps_while hp (mT X c) (mSs X body)) fun O fp σ H S D G => by
    refine ⟨fun m σ' H' => ∃ s fp', m = μ s ∧ I s ∧ Keep fp H fp' H' ∧ SOk X.K O fp' (mk s) σ' H', ⟨μ s0, s0, fp, rfl, hI, Keep.refl, S.sub h0⟩, ?_⟩
    rintro m σ1 H1 ⟨s, fp1, rfl, Is, k1, S1⟩
    obtain ⟨k, ht, hy, hn⟩ := hs s Is
    refine ht O fp1 σ1 H1 S1 _ fun H2 e2 => ?_
    cases k with
    | true =>
      show ∃ N : L2.St → Hp → Prop, _ ∧ _
      refine ⟨fun σ' H' => ∃ s' fp', I s' ∧ μ s' < μ s ∧ Keep fp H fp' H' ∧ SOk X.K O fp' (mk s') σ' H', fun σ' H' ⟨s', fp', a, b, c, d⟩ => ⟨μ s', b, s', fp', rfl, a, c, d⟩, ?_⟩
      have kk : Keep fp H fp1 H2 := k1.trans (Keep.ex e2)
      refine hy rfl O fp1 σ1 H2 (S1.ex e2) _ ⟨fun e f s2 h ⟨s', sb, a, b⟩ q S' => ⟨s', f, a, b, kk.trans q, S'.sub sb⟩, fun r e f s2 v h p q => G.rt r e f s2 v h p (kk.trans q), fun x e f s2 c d h p q => G.ex x e f s2 c d h p (kk.trans q), fun e f s2 h p q S' => G.nx e f s2 h (.inl p) (kk.trans q) S', fun e f s2 h ⟨s', sb, a, b⟩ q S' => ⟨s', f, a, b, kk.trans q, S'.sub sb⟩⟩
    | false =>
      show D.nx σ1 H2
      exact G.nx (mk s) fp1 σ1 H2 (.inr ⟨s, Sub.refl _, hn rfl⟩) (k1.trans (Keep.ex e2)) (S1.ex e2)) fun e h => by
  rcases h with h | ⟨s, h, q⟩
  · exact hb e h
  · exact sx_sub h q
end
end R
set_option maxHeartbeats 2000000
set_option autoImplicit false
namespace R
open PySem PySem.Spec PyProof.Rows L2
/-! ### defs -/
/-- the promise of a def that changes nothing: args, what comes back, what is raised -/
abbrev Phi (ρ : Type) := List Sl → (ρ → Prop) → (Exn → Prop) → Prop
def spP {ρ : Type} [Dat ρ] (K : PySem.W.Frag) (mg : Str → Option Value) (n : Nat) (Φ : Phi ρ) : Sp := fun vs H Q E =>
  vs.length = n ∧ ∃ O args R Xp, Φ args R Xp ∧ SOk K O nofp args (vs.map some) H ∧
    (∀ r v H', R r → Ex H H' → Dat.rep K (wo H' O) v r → Q v H') ∧ (∀ e cls d H', Xp e → Ex H H' → ExAt mg K (wo H' O) e cls d → E cls d H')
theorem Keep.ex_of {H H' : Hp} {fp' : Nat → List Addr} (k : Keep nofp H fp' H') : Ex H H' := fun a o h => k.1 a o (fun ⟨i, z⟩ => by cases z) h
theorem SOk.pad {K : PySem.W.Frag} {O : Addr → Prop} {args : Env'} {vs : List V} {H : Hp} (S : SOk K O nofp args (vs.map some) H) (n : Nat) : SOk K O nofp (args ++ List.replicate n .any) (vs.map some ++ List.replicate n none) H where
  len := by simp [S.len] <;> simpa using S.len
  bnd := S.bnd
  fpO := S.fpO
  sep := S.sep
  dom := S.dom
  sl := fun i s q => by
    have hl : vs.length = args.length := by simpa using S.len
    by_cases h : i < args.length
    · rw [List.getElem?_append_left h] at q
      rw [List.getElem?_append_left (by simpa [hl] using h)]
      exact S.sl i s q
    · rw [List.getElem?_append_right (by omega)] at q
      have := List.mem_of_getElem? q
      rw [List.mem_replicate] at this
      rw [this.2]
      exact trivial
section
variable {P : Program} {w : World} {K : PySem.W.Frag} {mg : Str → Option Value} {base : Heap} {ρ : Type} [Dat ρ]
/-- the context of a def's body -/
abbrev cxX (P : Program) (w : World) (K : PySem.W.Frag) (mg : Str → Option Value) (base : Heap) (N : List Str) (qual : Str) (scope : Scope) (f : Addr) (cd : Value) (A : Around) (outer : List PySem.Env) (s : Shared) (H : Hp) (E : XK) : Cx := cxOf (L2.CX P w) P w K mg base N qual scope f cd A outer s H E
theorem fn_ok {x qual : Str} {st : Stmt} {f : Addr} {fd : FuncData} {N ps : List Str} {k n : Nat} {Φ : Phi ρ} (F : Fun K x qual st f fd) (S : FnScope N ps (defScope st)) (hn : ps.length = n)
    (hb : ∀ (args : Env') (Rp : ρ → Prop) (Xp : Exn → Prop), Φ args Rp Xp → args.length = n → ∀ (cdv : Value) (A : Around) (outer : List PySem.Env) (s : Shared) (H : Hp) (E : XK) (W : WX), Room k (A.deeper (envOfC qual (defScope st) s.heap.objs.size f cdv)) → Takes (cxX P w K mg base N qual (defScope st) f cdv A outer s H E) W →
      SX (cxX P w K mg base N qual (defScope st) f cdv A outer s H E) W (defBody st) (args ++ List.replicate (N.length - n) .any) { N := fun _ => ∃ r, Rp r ∧ ∀ Hf, Dat.rep K Hf .non r, R := fun r _ => Rp r, X := fun e _ => Xp e }) :
    FnOk P w K mg base (L2.CX P w) (k + 1) f fd ps (spP K mg n Φ) := by
  refine F.okX S (fun vs H Q E h => h.1.trans hn.symm) fun cdv A outer s H vs Q E hr h => ?_
  obtain ⟨hl, O, args, Rp, Xp, ph, SS, hq, he⟩ := h
  have hlen : args.length = n := by
    have := SS.len
    rw [List.length_map] at this
    omega
  refine ⟨tSs _ _, mSs _ _, ?_⟩
  have tk : Takes (cxOf (L2.CX P w) P w K mg base N qual (defScope st) f cdv A outer s H E) (fun cls d _ H => E cls d H) := takes_of rfl rfl rfl rfl
  refine hb args Rp Xp ph hlen cdv A outer s H E (fun cls d _ H => E cls d H) hr tk O nofp _ H ?_ _ ?_
  · have := SS.pad (N.length - n)
    rw [show L2.start N vs = vs.map some ++ List.replicate (N.length - n) none from by unfold L2.start; rw [hl]]
    exact this
  · refine ⟨fun e fp' σ' H' ⟨r, h1, h2⟩ kp S' => ?_, fun r e fp' σ' v H' h1 kp S' rp => ?_, fun x e fp' σ' cls d H' h1 kp S' xa => ?_, fun _ _ _ _ h => h.elim, fun _ _ _ _ h => h.elim⟩
    · exact hq r .non H' h1 kp.ex_of (h2 _)
    · exact hq r v H' h1 kp.ex_of (Dat.mono (wo_mono fun a z => .inl z).le rp)
    · refine he x cls d H' h1 kp.ex_of ?_
      have le : Ex (wo H' (UU O fp')) (wo H' O) := wo_mono fun a z => .inl z
      cases x with
      | one c => exact xa
      | clash ns ws =>
        obtain ⟨m, dx, v1, v2, a, b, c, d⟩ := xa
        exact ⟨m, dx, v1, v2, a, le _ _ b, Dat.mono le.le c, Dat.mono le.le d⟩
      | stuck y ns ws =>
        obtain ⟨m, dx, v0, v1, v2, a, b, b', c, d⟩ := xa
        exact ⟨m, dx, v0, v1, v2, a, le _ _ b, Dat.mono le.le b', Dat.mono le.le c, Dat.mono le.le d⟩
end
/-- a def that may be called by its name -/
structure DefOk (P : Program) (w : World) (K : PySem.W.Frag) (mg : Str → Option Value) (base : Heap) (n : Str) (k : Nat) (ps : List Str) (dvs : List V) (sp : Sp) : Prop where
  ex : ∃ f fd ds, FnOk P w K mg base (L2.CX P w) k f fd ps sp ∧ mg n = some (.ref f) ∧ PySem.W.keepIn K (.ref f) = true ∧ Binds K fd ps ds ∧ Vals dvs ds
/-- what may raise -/
def EXX {α : Type} [Dat α] (X : Cx) (W : WX) (e : Expr) (env : Env') (Rp : α → Prop) (Xp : Exn → Prop) : Prop :=
  ∀ O fp σ H, SOk X.K O fp env σ H → ∀ Q : VK, (∀ r v H', Rp r → Ex H H' → Dat.rep X.K (wo H' (UU O fp)) v r → Q v H') → (∀ x cls d H', Xp x → Ex H H' → ExAt X.mg X.K (wo H' (UU O fp)) x cls d → W cls d σ H') → tE X e σ H Q
theorem ARep.sok {K : PySem.W.Frag} {H : Hp} {U : Addr → Prop} (bnd : ∀ a, U a → ∃ o, H a = some o) {vs : List V} {xs : List Sl} (h : ARep K (wo H U) vs xs) : SOk K U nofp xs (vs.map some) H where
  len := by rw [List.length_map]; exact h.length
  bnd := bnd
  fpO := fun i a z => by cases z
  sep := fun i j a z => by cases z
  dom := fun i a z => by cases z
  sl := by
    rw [uu_no]
    intro i s q
    have : ∀ {vs : List V} {xs : List Sl} {i : Nat} {s : Sl}, ARep K (wo H U) vs xs → xs[i]? = some s → SlOk K (wo H U) H ((vs.map some)[i]?) (nofp i) s := by
      intro vs
      induction vs with
      | nil => intro xs i s h q; cases xs with | nil => simp at q | cons _ _ => simp [ARep] at h
      | cons v vs ih =>
        intro xs i s h q
        match xs, h with
        | .dat (i := jj) x :: xs, h =>
          cases i with
          | zero =>
            have q : Sl.dat (i := jj) x = s := by simpa using q
            subst q
            exact ⟨v, rfl, h.1⟩
          | succ i =>
            have := ih (xs := xs) (i := i) (s := s) h.2 (by simpa using q)
            simpa [nofp] using this
        | .any :: xs, h => simp [ARep] at h
        | .own (i := _) _ :: xs, h => simp [ARep] at h
        | [], h => simp [ARep] at h
    exact this h q
section
variable {X : Cx} {W : WX} {env env' : Env'} {ρ α β γ : Type} [Dat ρ] [Dat α] [Dat β] [Dat γ] {po : Po ρ} {x : α} {y : β} {z : γ} {e a b c tg : Expr} {es : List Expr} {pos p p2 : Pos} {rest : List Stmt}
theorem dvs_rep {K : PySem.W.Frag} {H : Hp} {vs dvs : List V} {xs dxs : List Sl} (h : ARep K H vs xs) (hd : ARep K H dvs dxs) : ARep K H (vs ++ dvs) (xs ++ dxs) := by
  induction vs generalizing xs with
  | nil => cases xs with | nil => exact hd | cons _ _ => simp [ARep] at h
  | cons v vs ih =>
    match xs, h with
    | .dat (i := jj) x :: xs, h => exact ⟨h.1, ih h.2⟩
    | .any :: xs, h => simp [ARep] at h
    | .own (i := _) _ :: xs, h => simp [ARep] at h
    | [], h => simp [ARep] at h
/-- f(..) of a def that raises nothing here -/
theorem ex_call {n : Str} {k m : Nat} {ps : List Str} {dvs : List V} {dxs xs : List Sl} {Φ : Phi ρ} {r : ρ} (d : DefOk X.prog X.w X.K X.mg X.base n k ps dvs (spP X.K X.mg m Φ)) (hr : Room k X.A) (ha : EA X (e :: es) env xs) (hΦ : Φ (xs ++ dxs) (fun r' => r' = r) (fun _ => False)) (hd : ∀ H, ARep X.K H dvs dxs)
    (hl : (xs ++ dxs).length = m := by rfl) (hg : Gl X n := by rfl) (hdb : (n == ("__debug__" : Str)) = false := by decide) (he : starEach (e :: es) X.env = (false, eval e X.env) :: starEach es X.env := by rfl) (hpl : (backTo pos (starEach es X.env)).any (·.1) = false := by rfl) : EX X (.Call (.Name n p) (e :: es) [] pos) env r := by
  obtain ⟨f, fd, ds, F, hm, hk, hb, hv⟩ := d.ex
  refine ex_of (pe_call F hr hg hm hk hb hv passL (mA X _) hdb he hpl) fun O fp σ H S Q q => ha O fp σ H S _ fun vs H1 e1 r1 => ?_
  have r2 := dvs_rep r1 (hd _)
  have S2 := ARep.sok (S.ex e1).bndU r2
  exact ⟨by rw [r2.length]; exact hl, UU O fp, xs ++ dxs, _, _, hΦ, S2, fun r' v H' hr' e2 rp => by subst hr'; exact q v H' (e1.trans e2) rp, fun _ _ _ _ h => h.elim⟩
/-- f(..) of a def that may raise -/
theorem exx_call {n : Str} {k m : Nat} {ps : List Str} {xs : List Sl} {Φ : Phi ρ} {Rp : ρ → Prop} {Xp : Exn → Prop} (tk : Takes X W) (d : DefOk X.prog X.w X.K X.mg X.base n k ps [] (spP X.K X.mg m Φ)) (hr : Room k X.A) (ha : EA X (e :: es) env xs) (hΦ : Φ xs Rp Xp)
    (hl : xs.length = m := by rfl) (hg : Gl X n := by rfl) (hdb : (n == ("__debug__" : Str)) = false := by decide) (he : starEach (e :: es) X.env = (false, eval e X.env) :: starEach es X.env := by rfl) (hpl : (backTo pos (starEach es X.env)).any (·.1) = false := by rfl) : EXX X W (.Call (.Name n p) (e :: es) [] pos) env Rp Xp := by
  obtain ⟨f, fd, ds, F, hm, hk, hb, hv⟩ := d.ex
  cases hv
  intro O fp σ H S Q q qx
  refine fun pins s I => (pe_callS F hr hg hm hk hb (fun σ => passAt tk σ) (mA X _) hdb he hpl).run pins s σ H Q I (ha O fp σ H S _ fun vs H1 e1 r1 => ?_)
  have S2 := ARep.sok (S.ex e1).bndU r1
  exact ⟨by rw [r1.length]; exact hl, UU O fp, xs, _, _, hΦ, S2, fun r' v H' hr' e2 rp => q r' v H' hr' (e1.trans e2) rp, fun x cls d H' hx e2 xa => qx x cls d H' hx (e1.trans e2) xa⟩
theorem EX.xx (h : EX X e env x) : EXX X W e env (fun r => r = x) (fun _ => False) := fun O fp σ H S Q q _ => h O fp σ H S Q fun v H' e r => q x v H' rfl e r
/-- x = e, e may raise -/
theorem sx_setX {i : Nat} {n : Str} {Rp : α → Prop} {Xp : Exn → Prop} (hN : X.N.Nodup) (he : EXX X W e env Rp Xp) (h : ∀ r, Rp r → SX X W rest (env.set i (.dat r)) po) (hx : ∀ x, Xp x → po.X x env) (hi : X.N[i]? = some n := by rfl) (hL : Loc X.env.scope n := by first | exact Or.inl rfl | exact Or.inr rfl) (hs : swapsWith e (some (.Name n p2)) pos.line X.env = pure false := by rfl) (hf : X.fn n = true ∨ X.env.scope.names.lookup n = some .local := by first | exact .inl rfl | exact .inr rfl | assumption) :
    SX X W (.Assign [.Name n p2] e pos :: rest) env po :=
  sx_cons (fun e' => ∃ r, Rp r ∧ e' = env.set i (.dat r)) (s1_of (ps_set hN hi hL (mE X e) hs hf) fun O fp σ H S D G => he O fp σ H S _ (fun r v H1 hr e1 r1 => G.nx _ fp _ H1 ⟨r, hr, rfl⟩ (Keep.ex e1) ((S.ex e1).set i r1)) fun x cls d H1 hx1 e1 xa => G.ex x env fp σ cls d H1 (hx x hx1) (Keep.ex e1) (S.ex e1) xa) fun e' ⟨r, hr, q⟩ => by subst q; exact h r hr
theorem sx_retX {Rp : α → Prop} {Xp : Exn → Prop} {po : Po α} (he : EXX X W e env Rp Xp) (h : ∀ r, Rp r → po.R r env) (hx : ∀ x, Xp x → po.X x env) : SX X W [.Return (some e) pos] env po :=
  sx_of (pss_one (ps_ret (mE X e))) fun O fp σ H S D G => he O fp σ H S _ (fun r v H1 hr e1 r1 => G.rt r env fp σ v H1 (h r hr) (Keep.ex e1) (S.ex e1) r1) fun x cls d H1 hx1 e1 xa => G.ex x env fp σ cls d H1 (hx x hx1) (Keep.ex e1) (S.ex e1) xa
theorem sx_exprX {Rp : α → Prop} {Xp : Exn → Prop} (he : EXX X W e env Rp Xp) (h : ∀ r, Rp r → SX X W rest env po) (hx : ∀ x, Xp x → po.X x env) (hs : swapsWith e none pos.line X.env = pure false := by rfl) : SX X W (.Expr e pos :: rest) env po :=
  sx_cons (fun e' => (∃ r, Rp r) ∧ e' = env) (s1_of (ps_expr (mE X e) hs) fun O fp σ H S D G => he O fp σ H S _ (fun r v H1 hr e1 r1 => G.nx env fp σ H1 ⟨⟨r, hr⟩, rfl⟩ (Keep.ex e1) (S.ex e1)) fun x cls d H1 hx1 e1 xa => G.ex x env fp σ cls d H1 (hx x hx1) (Keep.ex e1) (S.ex e1) xa) fun e' ⟨⟨r, hr⟩, q⟩ => by subst q; exact h r hr
/-- what the text's own error classes are, without fields -/
structure ErrC (K : PySem.W.Frag) (mg : Str → Option Value) (n : Str) : Prop where
  ex : ∃ C, mg n = some (.ref C) ∧ PySem.W.excIn K C [.type "ValueError", .type "Exception", .type "BaseException", .type "object"] "ValueError.__new__" = true ∧ PySem.W.keepIn K (.ref C) = true ∧ PySem.W.subIn K (.ref C) (.type "BaseException") = some true ∧ PySem.W.typeIn K (.ref C) = some (.type "type")
/-- raise C('..') -/
theorem sx_raise {n : Str} {m : Str} {j : Nat} {p0 : Pos} (hc : X.calm = true) (tk : Takes X W) (T : ErrC X.K X.mg n) (h : po.X (.one n) env) (hg : Gl X n := by rfl) (hdb : (n == ("__debug__" : Str)) = false := by decide) : SX X W (.Raise (some (.Call (.Name n p) [.Constant (.str m) j p2] [] p0)) none pos :: rest) env po := by
  obtain ⟨C, gC, xC, kC, bC, tC⟩ := T.ex
  exact sx_cons (fun _ => False) (s1_of (ps_raise hc tk (pmk_own PySem.F.excBase_ValueError xC gC kC (raises_own bC tC) hg hdb)) fun O fp σ H S D G => G.ex (.one n) env fp σ (.ref C) none H h Keep.refl S ⟨gC, rfl⟩) fun _ z => z.elim
/-! ### built-ins -/
theorem ex_callB {id : String} {n : Str} {r : List V → Hp → VK → Prop} {xs : List Sl} (hc : CallR X (.builtin id) r) (hm : X.mg n = none) (hv : bootBuiltins n = some (.builtin id)) (ha : EA X (e :: es) env xs) (hr : RC X.K r xs z) (hg : Gl X n := by rfl) (hn : n ≠ "__name__" := by decide) (hdb : (n == ("__debug__" : Str)) = false := by decide)
    (he : starEach (e :: es) X.env = (false, eval e X.env) :: starEach es X.env := by rfl) (hpl : (backTo pos (starEach es X.env)).any (·.1) = false := by rfl) : EX X (.Call (.Name n p) (e :: es) [] pos) env z :=
  ex_of (pe_callB hc hg hm hv (mA X _) hn hdb he hpl) fun O fp σ H S Q q => ha O fp σ H S _ fun vs H1 e1 r1 => hr (UU O fp) vs H1 (S.ex e1).bndU r1 Q fun v H2 e2 r2 => q v H2 (e1.trans e2) r2
theorem ex_callTy {id : String} {n : Str} {r : List V → Hp → VK → Prop} {xs : List Sl} (hc : CallR X (.type id) r) (hm : X.mg n = none) (hv : bootBuiltins n = some (.type id)) (ha : EA X (e :: es) env xs) (hr : RC X.K r xs z) (hg : Gl X n := by rfl) (hn : n ≠ "__name__" := by decide) (hdb : (n == ("__debug__" : Str)) = false := by decide)
    (he : starEach (e :: es) X.env = (false, eval e X.env) :: starEach es X.env := by rfl) (hpl : (backTo pos (starEach es X.env)).any (·.1) = false := by rfl) : EX X (.Call (.Name n p) (e :: es) [] pos) env z :=
  ex_of (pe_callTy hc hg hm hv (mA X _) hn hdb he hpl) fun O fp σ H S Q q => ha O fp σ H S _ fun vs H1 e1 r1 => hr (UU O fp) vs H1 (S.ex e1).bndU r1 Q fun v H2 e2 r2 => q v H2 (e1.trans e2) r2
theorem rc1 {K : PySem.W.Frag} {r : List V → Hp → VK → Prop} (h : ∀ (U : Addr → Prop) (v : V) (H : Hp), (∀ a, U a → ∃ o, H a = some o) → Dat.rep K (wo H U) v x → ∀ Q : VK, (∀ v H', Ex H H' → Dat.rep K (wo H' U) v z → Q v H') → r [v] H Q) : RC K r [.dat x] z := fun U vs H bn ar Q q => by
  match vs, ar with
  | [v], ⟨h1, _⟩ => exact h U v H bn h1 Q q
theorem rc2 {K : PySem.W.Frag} {r : List V → Hp → VK → Prop} (h : ∀ (U : Addr → Prop) (v u : V) (H : Hp), (∀ a, U a → ∃ o, H a = some o) → Dat.rep K (wo H U) v x → Dat.rep K (wo H U) u y → ∀ Q : VK, (∀ v H', Ex H H' → Dat.rep K (wo H' U) v z → Q v H') → r [v, u] H Q) : RC K r [.dat x, .dat y] z := fun U vs H bn ar Q q => by
  match vs, ar with
  | [v, u], ⟨h1, h2, _⟩ => exact h U v u H bn h1 h2 Q q
theorem ea1 (h : EX X e env x) (hs : starEach [e] X.env = (false, eval e X.env) :: starEach [] X.env := by rfl) : EA X [e] env [.dat x] := ea_cons h ea_nil hs
def absI (i : Int) : Int := if i < 0 then -i else i
theorem ex_abs {i : Int} (hm : X.mg "abs" = none) (h : EX X a env i) (he : starEach [a] X.env = (false, eval a X.env) :: starEach [] X.env := by rfl) (hpl : (backTo pos (starEach [] X.env)).any (·.1) = false := by rfl) (hg : Gl X "abs" := by rfl) : EX X (.Call (.Name "abs" p) [a] [] pos) env (absI i) :=
  ex_callB call_abs hm (by decide +kernel) (ea1 h he) (rc1 fun U v H bn r Q q => ⟨i, by rw [show v = .int i from r], q _ H (Ex.refl H) rfl⟩) hg (by decide) (by decide) he hpl
theorem ex_len {xs : List α} (hm : X.mg "len" = none) (h : EX X a env xs) (he : starEach [a] X.env = (false, eval a X.env) :: starEach [] X.env := by rfl) (hpl : (backTo pos (starEach [] X.env)).any (·.1) = false := by rfl) (hg : Gl X "len" := by rfl) : EX X (.Call (.Name "len" p) [a] [] pos) env (xs.length : Int) :=
  ex_callB call_len_seq hm PySem.boot_len (ea1 h he) (rc1 fun U v H bn r Q q => by
    obtain ⟨ad, vs, e, l, rl⟩ := r
    exact ⟨ad, vs, by rw [e], .inl (wo_le.lst l), q _ H (Ex.refl H) (show V.int _ = V.int _ by rw [Paired.length rl])⟩) hg (by decide) (by decide) he hpl
theorem ex_lenT {τ : Type} [Dat τ] [T : Tup τ] {t : τ} {n : Int} (hm : X.mg "len" = none) (h : EX X a env t) (hn : ((T.comps t).length : Int) = n := by rfl) (he : starEach [a] X.env = (false, eval a X.env) :: starEach [] X.env := by rfl) (hpl : (backTo pos (starEach [] X.env)).any (·.1) = false := by rfl) (hg : Gl X "len" := by rfl) : EX X (.Call (.Name "len" p) [a] [] pos) env n :=
  ex_callB call_len_seq hm PySem.boot_len (ea1 h he) (rc1 fun U v H bn r Q q => by
    rw [T.is] at r
    obtain ⟨ad, vs, e, l, rl⟩ := r
    exact ⟨ad, vs, by rw [e], .inr (wo_le.tup l), q _ H (Ex.refl H) (show V.int _ = V.int _ by rw [rl.length, hn])⟩) hg (by decide) (by decide) he hpl
theorem repL.get {K : PySem.W.Frag} {H : Hp} : ∀ {vs : List V} {xs : List α} {i : Nat} {x : α}, repL K H vs xs → xs[i]? = some x → ∃ v, vs[i]? = some v ∧ Dat.rep K H v x
  | _, _, i, x, .nil, q => by simp at q
  | _ :: _, y :: _, 0, x, .cons r t, q => by
    have q : y = x := by simpa using q
    subst q
    exact ⟨_, rfl, r⟩
  | _, _, i + 1, x, .cons r t, q => by
    have := repL.get (i := i) (x := x) t (by simpa using q)
    simpa using this
/-- xs[i] of a list, i from 0 on -/
theorem ex_ixL {xs : List α} {i : Int} (h : EX X a env xs) (hb : EX X b env i) (g : 0 ≤ i ∧ xs[i.toNat]? = some x) (hs : PlainIx b := by exact fun _ _ => rfl) : EX X (.Subscript a b pos) env x := ex_of (pe_ix ix_list (mE X a) (mE X _) hs) (ev_op h hb fun U v1 v2 H _ r1 r2 Q q => by
  obtain ⟨p, vs, e, t, r⟩ := r1
  obtain ⟨v, hv, rv⟩ := r.get g.2
  exact ⟨p, vs, i, v, e, r2, wo_le.lst t, by rw [← Int.toNat_of_nonneg g.1]; exact atI_nat hv, q _ H (Ex.refl H) rv⟩)
end
end R
set_option maxHeartbeats 2000000
set_option autoImplicit false
namespace R
open PySem PySem.Spec PyProof.Rows L2
/-! ### results of defs that may raise -/
def outP {ρ : Type} (Rp : ρ → Prop) (Xp : Exn → Prop) : Except Exn ρ → Prop
  | .ok r => Rp r
  | .error e => Xp e
theorem outP_self {ρ : Type} {o : Except Exn ρ} : outP (fun r => o = .ok r) (fun e => o = .error e) o := by cases o <;> rfl
theorem bind_ok {ρ σ : Type} {Rp : ρ → Prop} {Xp : Exn → Prop} {o : Except Exn σ} {x : σ} {k : σ → Except Exn ρ} (h : o = .ok x) (q : outP Rp Xp (o.bind k)) : outP Rp Xp (k x) := by subst h; exact q
theorem bind_err {ρ σ : Type} {Rp : ρ → Prop} {Xp : Exn → Prop} {o : Except Exn σ} {x : Exn} {k : σ → Except Exn ρ} (h : o = .error x) (q : outP Rp Xp (o.bind k)) : Xp x := by subst h; exact q
theorem cond_t {α : Type} {P : α → Prop} {c : Bool} {x y : α} (h : c = true) (q : P (cond c x y)) : P x := by subst h; exact q
theorem cond_f {α : Type} {P : α → Prop} {c : Bool} {x y : α} (h : c = false) (q : P (cond c x y)) : P y := by subst h; exact q
/-! ### what is walked -/
/-- from H1 on: at turn i the item xs[i], then it stops -/
def Yields {α : Type} [Dat α] (K : PySem.W.Frag) (J : It) (U : Addr → Prop) (H1 : Hp) (xs : List α) : Prop :=
  ∀ H' U', (∀ a, U' a → ∃ o, H' a = some o) → Ex (wo H1 U) (wo H' U') → ∀ i, (∀ x, xs[i]? = some x → J.go i H' ∧ ∀ v H'', J.yld i H' v H'' → Ex H' H'' ∧ Dat.rep K (wo H'' U') v x) ∧ (xs.length ≤ i → J.stop i H')
/-- the greatest reading of an iterable -/
def tI (X : Cx) (tg iter : Expr) : TI := fun σ H R => ∀ pins s, Inv X pins σ H s → wpAny (model X.prog X.w) X.A (eval iter X.env) (fun v s1 => wpAny (model X.prog X.w) X.A (pyIter v) (PIE X pins σ tg R) X.xe s1) X.xe s
theorem mI (X : Cx) (tg iter : Expr) : PI X tg iter (tI X tg iter) := ⟨fun pins s _ _ _ I h => h pins s I⟩
def IX {α : Type} [Dat α] (X : Cx) (tg iter : Expr) (env : Env') (xs : List α) : Prop :=
  ∀ O fp σ H, SOk X.K O fp env σ H → ∀ R : It → Hp → Prop, (∀ J H1, Ex H H1 → Yields X.K J (UU O fp) H1 xs → R J H1) → tI X tg iter σ H R
section
variable {X : Cx} {W : WX} {env env' : Env'} {ρ α β γ : Type} [Dat ρ] [Dat α] [Dat β] [Dat γ] {po : Po ρ} {x : α} {y : β} {z : γ} {e a b c tg iter : Expr} {es : List Expr} {pos p p2 : Pos} {rest body : List Stmt} {xs : List α}
theorem ix_of {wi : TI} (p : PI X tg iter wi) (h : ∀ O fp σ H, SOk X.K O fp env σ H → ∀ R : It → Hp → Prop, (∀ J H1, Ex H H1 → Yields X.K J (UU O fp) H1 xs → R J H1) → wi σ H R) : IX X tg iter env xs := fun O fp σ H S R r pins s I => p.run pins s σ H R I (h O fp σ H S R r)
/-- a list that stands still -/
theorem ix_list (h : EX X iter env xs) : IX X tg iter env xs := ix_of (pi_list (mE X iter)) fun O fp σ H S R r => h O fp σ H S _ fun v H1 e1 rp => by
  obtain ⟨ad, vs, e, l, rl⟩ := rp
  refine ⟨ad, e, ⟨vs, wo_le.lst l⟩, r _ H1 e1 fun H' U' bn ex i => ⟨fun x hx => ?_, fun hi => ?_⟩⟩
  · obtain ⟨v, hv, rv⟩ := rl.get hx
    have l' : SqL X.K H' ad vs := wo_le.lst (ex.le.lst l)
    refine ⟨⟨vs, v, l', hv⟩, fun u H'' ⟨q1, q2⟩ => ?_⟩
    subst q1
    have := q2 vs l'
    rw [hv] at this
    cases this
    exact ⟨Ex.refl _, Dat.mono ex.le rv⟩
  · exact ⟨vs, wo_le.lst (ex.le.lst l), by rw [Paired.length rl]; exact hi⟩
/-- range(n) -/
def rangeI (n : Int) : List Int := (List.range n.toNat).map Int.ofNat
def rangeAB (a b : Int) : List Int := (List.range (b - a).toNat).map fun (k : Nat) => a + (k : Int)
theorem yields_range {K : PySem.W.Frag} {U : Addr → Prop} {H1 : Hp} (lo : Int) (n : Nat) : Yields K (Itr lo n) U H1 ((List.range n).map fun (k : Nat) => lo + (k : Int)) := fun H' U' bn ex i => by
  refine ⟨fun x hx => ?_, fun hi => (by simpa using hi : n ≤ i)⟩
  rw [List.getElem?_map] at hx
  by_cases hi : i < n
  · rw [List.getElem?_range hi] at hx
    have hx : lo + (i : Int) = x := by simpa using hx
    exact ⟨hi, fun v H'' ⟨q1, q2⟩ => by subst q1 q2 hx; exact ⟨Ex.refl _, rfl⟩⟩
  · rw [List.getElem?_eq_none (by simpa using hi)] at hx
    cases hx
theorem rangeI_eq (n : Int) : rangeI n = (List.range n.toNat).map fun (k : Nat) => (0 : Int) + (k : Int) := by
  unfold rangeI
  refine List.map_congr_left fun k _ => ?_
  simp
theorem ix_range1 {n : Int} (hm : X.mg "range" = none) (h : EX X a env n) (hn : -(2 ^ 62) ≤ n ∧ n < 2 ^ 62) (hg : Gl X "range" := by rfl) (hs : starEach [a] X.env = [(false, eval a X.env)] := by rfl) : IX X tg (.Call (.Name "range" p) [a] [] pos) env (rangeI n) :=
  ix_of (pi_range1 hg hm (mA X _) hs) fun O fp σ H S R r => ea1 h hs O fp σ H S _ fun vs H1 e1 ar => by
    match vs, ar with
    | [v], ⟨h1, _⟩ =>
      have h1 : v = .int n := h1
      subst h1
      refine ⟨n, rfl, hn.1, hn.2, r _ H1 e1 ?_⟩
      rw [rangeI_eq]
      exact yields_range 0 n.toNat
theorem ix_range2 {n m : Int} (hm : X.mg "range" = none) (h : EX X a env n) (h' : EX X b env m) (hn : -(2 ^ 62) ≤ n ∧ n < 2 ^ 62 ∧ -(2 ^ 62) ≤ m ∧ m < 2 ^ 62) (hg : Gl X "range" := by rfl) (hs : starEach [a, b] X.env = [(false, eval a X.env), (false, eval b X.env)] := by rfl) (hs2 : starEach [b] X.env = [(false, eval b X.env)] := by rfl) : IX X tg (.Call (.Name "range" p) [a, b] [] pos) env (rangeAB n m) :=
  ix_of (pi_range2 hg hm (mA X _) hs hs2) fun O fp σ H S R r => ea_cons h (ea_cons h' ea_nil hs2) (by rw [hs, hs2]) O fp σ H S _ fun vs H1 e1 ar => by
    match vs, ar with
    | [v, u], ⟨h1, h2, _⟩ =>
      have h1 : v = .int n := h1
      have h2 : u = .int m := h2
      subst h1 h2
      exact ⟨n, m, rfl, hn, r _ H1 e1 (yields_range n (m - n).toNat)⟩
/-! ### for -/
def okFold {S τ : Type} (okb : S → τ → Prop) (step : S → τ → S) : S → List τ → Prop
  | _, [] => True
  | s, x :: xs => okb s x ∧ okFold okb step (step s x) xs
theorem drop_cons {τ : Type} {xs : List τ} {i : Nat} {x : τ} {r : List τ} (h : xs.drop i = x :: r) : xs[i]? = some x ∧ xs.drop (i + 1) = r ∧ i < xs.length := by
  have hi : i < xs.length := by
    by_cases q : i < xs.length
    · exact q
    · rw [List.drop_eq_nil_of_le (by omega)] at h; cases h
  rw [List.drop_eq_getElem_cons hi] at h
  injection h with h1 h2
  exact ⟨by rw [List.getElem?_eq_getElem hi, h1], h2, hi⟩
/-- the heart of the for rule, at one state -/
theorem for_core {S : Type} (u : S → Env') (I : List α → S → Prop) (M : Env' → Prop) (s0 : S) {O : Addr → Prop} {fp : Nat → List Addr} {σ : L2.St} {H : Hp} {D : Ends} (S' : SOk X.K O fp env σ H) (hi : ∀ R : It → Hp → Prop, (∀ J H1, Ex H H1 → Yields X.K J (UU O fp) H1 xs → R J H1) → tI X tg iter σ H R) (h0 : Sub env (u s0)) (hI : I xs s0)
    (hb : ∀ x r s, I (x :: r) s → ∃ e1, GX X tg x (u s) e1 ∧ SX X W body e1 { po with N := fun e => ∃ s', Sub e (u s') ∧ I r s', C := fun e => ∃ s', Sub e (u s') ∧ I r s', B := M })
    (G : Goes X.K X.mg W { po with N := fun e => M e ∨ ∃ s, Sub e (u s) ∧ I [] s } O fp H D) : tFor (tI X tg iter) (tG X tg) (tSs X body) D σ H := by
    refine hi _ fun J H1 e1 yl => ?_
    refine ⟨fun i m σ' H' => ∃ s fp', m = xs.length - i ∧ i ≤ xs.length ∧ I (xs.drop i) s ∧ Keep fp H1 fp' H' ∧ SOk X.K O fp' (u s) σ' H', ⟨xs.length, s0, fp, by simp, Nat.zero_le _, hI, Keep.refl, (S'.ex e1).sub h0⟩, ?_⟩
    rintro i m σ1 H2 ⟨s, fp1, rfl, hle, Is, k1, S1⟩
    obtain ⟨y1, y2⟩ := yl H2 (UU O fp1) S1.bndU k1.frz i
    cases hr : xs.drop i with
    | nil =>
      have : xs.length ≤ i := by
        have := congrArg List.length hr
        simp at this
        omega
      rw [hr] at Is
      exact .inl ⟨y2 this, G.nx (u s) fp1 σ1 H2 (.inr ⟨s, Sub.refl _, Is⟩) ((Keep.ex e1).trans k1) S1⟩
    | cons x r =>
      obtain ⟨gx, gr, gl⟩ := drop_cons hr
      obtain ⟨go, yy⟩ := y1 x gx
      rw [hr] at Is
      obtain ⟨en, hg, hbd⟩ := hb x r s Is
      refine .inr ⟨go, fun σ' H' => ∃ s' fp', I r s' ∧ Keep fp H1 fp' H' ∧ SOk X.K O fp' (u s') σ' H', fun σ' H' ⟨s', fp', a, b, c⟩ => ⟨xs.length - (i + 1), by omega, s', fp', rfl, gl, by rw [gr]; exact a, b, c⟩, fun v H3 yv => ?_⟩
      obtain ⟨e3, rv⟩ := yy v H3 yv
      refine hg O fp1 σ1 H3 v (S1.ex e3) rv _ fun σ4 S4 => ?_
      have kk : Keep fp H1 fp1 H3 := k1.trans (Keep.ex e3)
      have kh : Keep fp H fp1 H3 := (Keep.ex e1).trans kk
      exact hbd O fp1 σ4 H3 S4 _ ⟨fun e f s2 h ⟨s', sb, a⟩ q S' => ⟨s', f, a, kk.trans q, S'.sub sb⟩, fun r e f s2 v h p q => G.rt r e f s2 v h p (kh.trans q), fun x e f s2 c d h p q => G.ex x e f s2 c d h p (kh.trans q), fun e f s2 h p q S' => G.nx e f s2 h (.inl p) (kh.trans q) S', fun e f s2 h ⟨s', sb, a⟩ q S' => ⟨s', f, a, kk.trans q, S'.sub sb⟩⟩
/-- the for rule: I of what is still to come and the state -/
theorem sx_for {S : Type} (u : S → Env') (I : List α → S → Prop) (M : Env' → Prop) (s0 : S) (hc : X.calm = true) (hp : PassesOwn (model X.prog X.w) X.A X.env X.xe) (hi : IX X tg iter env xs) (h0 : Sub env (u s0)) (hI : I xs s0)
    (hb : ∀ x r s, I (x :: r) s → ∃ e1, GX X tg x (u s) e1 ∧ SX X W body e1 { po with N := fun e => ∃ s', Sub e (u s') ∧ I r s', C := fun e => ∃ s', Sub e (u s') ∧ I r s', B := M })
    (hd : ∀ s, I [] s → SX X W rest (u s) po) (hM : ∀ e, M e → SX X W rest e po) (hs : ∀ x, foldedSetIterable iter X.env x = pure x := by intro _; rfl) : SX X W (.For tg iter body [] pos :: rest) env po :=
  sx_cons (fun e => M e ∨ ∃ s, Sub e (u s) ∧ I [] s) (s1_of (ps_for hp hc (mI X tg iter) (mG X tg) (mSs X body) hs) fun O fp σ H S' D G => for_core u I M s0 S' (hi O fp σ H S') h0 hI hb G) fun e h => by
  rcases h with h | ⟨s, h, q⟩
  · exact hM e h
  · exact sx_sub h (hd s q)
/-- a loop that runs through: a fold -/
theorem sx_forF {S : Type} (u : S → Env') (step : S → α → S) (okb : S → α → Prop) (s0 : S) (hc : X.calm = true) (hp : PassesOwn (model X.prog X.w) X.A X.env X.xe) (hi : IX X tg iter env xs) (h0 : Sub env (u s0)) (hk : okFold okb step s0 xs)
    (hb : ∀ x s, okb s x → ∃ e1, GX X tg x (u s) e1 ∧ SX X W body e1 { po with N := fun e => Sub e (u (step s x)), C := fun e => Sub e (u (step s x)), B := fun _ => False })
    (hd : SX X W rest (u (xs.foldl step s0)) po) (hs : ∀ x, foldedSetIterable iter X.env x = pure x := by intro _; rfl) : SX X W (.For tg iter body [] pos :: rest) env po :=
  sx_for u (fun r s => okFold okb step s r ∧ r.foldl step s = xs.foldl step s0) (fun _ => False) s0 hc hp hi h0 ⟨hk, rfl⟩ (fun x r s ⟨⟨h1, h2⟩, h3⟩ => by
    obtain ⟨e1, g, b⟩ := hb x s h1
    exact ⟨e1, g, b.imp (fun e h => ⟨step s x, h, h2, h3⟩) (fun _ _ h => h) (fun _ _ h => h) (fun _ h => h) (fun e h => ⟨step s x, h, h2, h3⟩)⟩) (fun s ⟨_, h⟩ => by
    have h : s = xs.foldl step s0 := h
    subst h
    exact hd) (fun _ h => h.elim) hs
/-- a turn's end -/
inductive Stp (S ρ : Type) where
  | go (s : S)
  | brk (s : S)
  | ret (r : ρ)
def runL {S ρ τ : Type} (step : S → τ → Stp S ρ) : S → List τ → Stp S ρ
  | s, [] => .go s
  | s, x :: xs => match step s x with
    | .go s' => runL step s' xs
    | .brk s' => .brk s'
    | .ret r => .ret r
def okRun {S ρ τ : Type} (okb : S → τ → Prop) (step : S → τ → Stp S ρ) : S → List τ → Prop
  | _, [] => True
  | s, x :: xs => okb s x ∧ match step s x with
    | .go s' => okRun okb step s' xs
    | _ => True
/-- behind a loop -/
def Stp.fin {S ρ τ : Type} (k : S → τ) (h : ρ → τ) : Stp S ρ → τ
  | .go s => k s
  | .brk s => k s
  | .ret r => h r
/-- a loop that may be left: T what a way out is worth, in the def's own result -/
theorem sx_forR {S T : Type} (u : S → Env') (step : S → α → Stp S T) (okb : S → α → Prop) (s0 : S) (hc : X.calm = true) (hp : PassesOwn (model X.prog X.w) X.A X.env X.xe) (hi : IX X tg iter env xs) (h0 : Sub env (u s0)) (hk : okRun okb step s0 xs)
    (hb : ∀ x r s, okb s x → (∃ s1, runL step s1 xs = runL step s1 xs) → (runL step s (x :: r) = runL step s0 xs) → ∃ e1, GX X tg x (u s) e1 ∧ SX X W body e1 { po with N := fun e => ∃ s', step s x = .go s' ∧ Sub e (u s'), C := fun e => ∃ s', step s x = .go s' ∧ Sub e (u s'), B := fun e => ∃ s', step s x = .brk s' ∧ Sub e (u s') })
    (hd : ∀ s, (runL step s0 xs = .go s ∨ runL step s0 xs = .brk s) → SX X W rest (u s) po) (hs : ∀ x, foldedSetIterable iter X.env x = pure x := by intro _; rfl) : SX X W (.For tg iter body [] pos :: rest) env po :=
  sx_for u (fun r s => okRun okb step s r ∧ runL step s r = runL step s0 xs) (fun e => ∃ s, Sub e (u s) ∧ runL step s0 xs = .brk s) s0 hc hp hi h0 ⟨hk, rfl⟩ (fun x r s ⟨⟨h1, h2⟩, h3⟩ => by
    obtain ⟨e1, g, b⟩ := hb x r s h1 ⟨s, rfl⟩ h3
    have go : ∀ e, (∃ s', step s x = .go s' ∧ Sub e (u s')) → ∃ s', Sub e (u s') ∧ okRun okb step s' r ∧ runL step s' r = runL step s0 xs := fun e ⟨s', q, sb⟩ => by
      rw [q] at h2
      have h4 : runL step s (x :: r) = runL step s' r := by
        show (match step s x with | .go s' => runL step s' r | .brk s' => .brk s' | .ret r => .ret r) = _
        rw [q]
      exact ⟨s', sb, h2, h4.symm.trans h3⟩
    refine ⟨e1, g, b.imp go (fun _ _ h => h) (fun _ _ h => h) (fun e ⟨s', q, sb⟩ => ⟨s', sb, ?_⟩) go⟩
    rw [← h3]
    show (match step s x with | .go s' => runL step s' r | .brk s' => .brk s' | .ret r => .ret r) = _
    rw [q]) (fun s ⟨_, h⟩ => hd s (.inl h.symm)) (fun e ⟨s, sb, q⟩ => sx_sub sb (hd s (.inr q))) hs
/-- the same, the slots told as changes of what stands -/
theorem sx_forF' {S : Type} (uu : S → Env' → Env') (step : S → α → S) (okb : S → α → Prop) (s0 : S) (hc : X.calm = true) (hp : PassesOwn (model X.prog X.w) X.A X.env X.xe) (hi : IX X tg iter env xs) (h0 : Sub env (uu s0 env)) (hk : okFold okb step s0 xs)
    (hb : ∀ x s, okb s x → ∃ e1, GX X tg x (uu s env) e1 ∧ SX X W body e1 { po with N := fun e => Sub e (uu (step s x) env), C := fun e => Sub e (uu (step s x) env), B := fun _ => False })
    (hd : SX X W rest (uu (xs.foldl step s0) env) po) (hs : ∀ x, foldedSetIterable iter X.env x = pure x := by intro _; rfl) : SX X W (.For tg iter body [] pos :: rest) env po := sx_forF (fun s => uu s env) step okb s0 hc hp hi h0 hk hb hd hs
theorem sx_forR' {S T : Type} (uu : S → Env' → Env') (step : S → α → Stp S T) (okb : S → α → Prop) (s0 : S) (hc : X.calm = true) (hp : PassesOwn (model X.prog X.w) X.A X.env X.xe) (hi : IX X tg iter env xs) (h0 : Sub env (uu s0 env)) (hk : okRun okb step s0 xs)
    (hb : ∀ x r s, okb s x → (runL step s (x :: r) = runL step s0 xs) → ∃ e1, GX X tg x (uu s env) e1 ∧ SX X W body e1 { po with N := fun e => ∃ s', step s x = .go s' ∧ Sub e (uu s' env), C := fun e => ∃ s', step s x = .go s' ∧ Sub e (uu s' env), B := fun e => ∃ s', step s x = .brk s' ∧ Sub e (uu s' env) })
    (hd : ∀ s, (runL step s0 xs = .go s ∨ runL step s0 xs = .brk s) → SX X W rest (uu s env) po) (hs : ∀ x, foldedSetIterable iter X.env x = pure x := by intro _; rfl) : SX X W (.For tg iter body [] pos :: rest) env po := sx_forR (fun s => uu s env) step okb s0 hc hp hi h0 hk (fun x r s h1 _ h2 => hb x r s h1 h2) hd hs
theorem sx_ifj' {k : Bool} {c : Expr} {thn els : List Stmt} {S : Type} (uu : S → Env' → Env') (p1 p0 : S) (hc : ET X c env k) (h1 : k = true → SX X W thn env { po with N := fun e => Sub e (uu p1 env) }) (h2 : k = false → SX X W els env { po with N := fun e => Sub e (uu p0 env) }) (hr : SX X W rest (uu (cond k p1 p0) env) po) : SX X W (.If c thn els pos :: rest) env po :=
  sx_ifj (fun b => uu (cond b p1 p0) env) hc h1 h2 hr
/-- what the whole loop comes to, where a turn ends it -/
theorem run_ret {S ρ τ : Type} {step : S → τ → Stp S ρ} {s : S} {x : τ} {xs : List τ} {o : Stp S ρ} {r : ρ} (h : runL step s (x :: xs) = o) (q : step s x = .ret r) : o = .ret r := by
  rw [← h]
  show (match step s x with | .go s' => runL step s' xs | .brk s' => .brk s' | .ret r => .ret r) = _
  rw [q]
theorem fin_ret {S ρ τ : Type} {P : τ → Prop} {o : Stp S ρ} {k : S → τ} {h : ρ → τ} {r : ρ} (e : o = .ret r) (q : P (o.fin k h)) : P (h r) := by subst e; exact q
theorem fin_go {S ρ τ : Type} {P : τ → Prop} {o : Stp S ρ} {k : S → τ} {h : ρ → τ} {s : S} (e : o = .go s ∨ o = .brk s) (q : P (o.fin k h)) : P (k s) := by rcases e with e | e <;> (subst e; exact q)
end
end R
set_option maxHeartbeats 2000000
set_option autoImplicit false
namespace R
open PySem PySem.Spec PyProof.Rows L2
/-! ### fractions: a tuple in lowest terms is a rational number -/
instance : Dat Rat := ⟨fun K H v q => repT K H v [.dat q.num, .dat (q.den : Int)], fun e h => h.mono e⟩
instance : Tup Rat := ⟨fun q => [.dat q.num, .dat (q.den : Int)], fun _ _ _ _ => rfl⟩
def IsQ (t b : Int) : Prop := 0 < b ∧ Int.gcd t b = 1
theorem IsQ.num {t b : Int} (h : IsQ t b) : (Rat.divInt t b).num = t := by
  rw [Rat.num_divInt, Int.sign_eq_one_of_pos h.1, Int.one_mul, Int.gcd_comm, h.2]
  simp
theorem IsQ.den {t b : Int} (h : IsQ t b) : ((Rat.divInt t b).den : Int) = b := by
  have := h.1
  rw [Rat.den_divInt, if_neg (by omega), Int.gcd_comm, h.2]
  simp
  omega
section
variable {X : Cx} {W : WX} {env env' : Env'} {ρ α β γ : Type} [Dat ρ] [Dat α] [Dat β] [Dat γ] {po : Po ρ} {x : α} {y : β} {z : γ} {e a b c tg iter : Expr} {es : List Expr} {pos p p2 pc : Pos} {rest body : List Stmt} {xs : List α}
theorem ex_rat {q : Rat} {t b : Int} (h : EX X e env (t, b)) (h1 : q.num = t) (h2 : (q.den : Int) = b) : EX X e env q := fun O fp σ H S Q k => h O fp σ H S Q fun v H' e r => k v H' e (by
  subst h1 h2
  exact r)
theorem ex_isQ {t b : Int} (h : EX X e env (t, b)) (g : IsQ t b) : EX X e env (Rat.divInt t b) := ex_rat h g.num g.den
/-! ### isinstance, by the kind of the data -/
class TyN (α : Type) [Dat α] (n : outParam String) : Prop where
  ty : ∀ (K : PySem.W.Frag) (H : Hp) (v : V) (x : α), Dat.rep K H v x → TyX K H v (.type n)
instance : TyN Int "int" := ⟨fun K H v x h => by rw [show v = .int x from h]; exact .base (.int x)⟩
instance : TyN Bool "bool" := ⟨fun K H v x h => by rw [show v = .bl x from h]; exact .base (.bl x)⟩
instance : TyN Str "str" := ⟨fun K H v x h => by rw [show v = .str x from h]; exact .base (.str x)⟩
instance : TyN Unit "NoneType" := ⟨fun K H v x h => by rw [show v = .non from h]; exact .base .non⟩
theorem repT.ty {K : PySem.W.Frag} {H : Hp} {v : V} {cs : List Sl} (h : repT K H v cs) : TyX K H v (.type "tuple") := by
  obtain ⟨a, vs, e, t, _⟩ := h
  subst e
  rcases t with (t | ⟨o, t⟩) | ⟨o, its, n, l, c, _⟩
  · exact .base (.tup t)
  · exact .fTuple t
  · exact .kTuple l c
instance : TyN Rat "tuple" := ⟨fun K H v x h => repT.ty h⟩
instance : TyN (α × β) "tuple" := ⟨fun K H v x h => repT.ty h⟩
instance : TyN (T3 α β γ) "tuple" := ⟨fun K H v x h => repT.ty h⟩
instance {α β γ δ ε : Type} [Dat α] [Dat β] [Dat γ] [Dat δ] [Dat ε] : TyN (T5 α β γ δ ε) "tuple" := ⟨fun K H v x h => repT.ty h⟩
instance {α β γ δ : Type} [Dat α] [Dat β] [Dat γ] [Dat δ] : TyN (T4 α β γ δ) "tuple" := ⟨fun K H v x h => repT.ty h⟩
instance : TyN (List α) "list" := ⟨fun K H v x h => by
  obtain ⟨a, vs, e, t, _⟩ := h
  subst e
  rcases t with (t | ⟨o, t⟩) | ⟨o, its, n, l, c, _⟩
  · exact .base (.lst t)
  · exact .base (.frz t)
  · exact .kList l c⟩
instance : TyN (Dc α) "dict" := ⟨fun K H v x h => by
  obtain ⟨a, vs, e, t, _⟩ := h
  subst e
  rcases t with t | ⟨o, t⟩
  · exact .base (.dK t)
  · exact .fDict t⟩
theorem TyX.mono {K : PySem.W.Frag} {H : Hp} {U : Addr → Prop} {v : V} {n : String} (h : TyX K (wo H U) v (.type n)) : TyX K H v (.type n) := by
  cases h with
  | base h =>
    refine .base ?_
    cases h with
    | non => exact .non
    | bl x => exact .bl x
    | int x => exact .int x
    | str x => exact .str x
    | flt x => exact .flt x
    | lst e => exact .lst (wo_some e).2
    | frz e => exact .frz (wo_some e).2
    | tup e => exact .tup (wo_some e).2
    | dK e => exact .dK (wo_some e).2
    | dT e => exact .dT (wo_some e).2
  | byt b => exact .byt b
  | set e => exact .set (wo_some e).2
  | kList e c => exact .kList e c
  | kTuple e c => exact .kTuple e c
  | kDict e c => exact .kDict e c
  | fTuple e => exact .fTuple (wo_some e).2
  | fDict e => exact .fDict (wo_some e).2
theorem ex_isi {n : String} [TyN α n] {T : Str} {c : String} {k : Bool} (hi : X.mg "isinstance" = none) (hT : X.mg T = none) (h : EX X a env x) (hk : kitB n c = some k) (hv : bootBuiltins T = some (.type c)) (hg : Gl X "isinstance" := by rfl) (hgT : Gl X T := by rfl) (hn : T ≠ "__name__" := by decide) (hd : (T == ("__debug__" : Str)) = false := by decide)
    (he : starEach [a, .Name T pc] X.env = (false, eval a X.env) :: starEach [.Name T pc] X.env := by rfl) (he2 : starEach [.Name T pc] X.env = (false, eval (.Name T pc) X.env) :: starEach [] X.env := by rfl) (hpl : (backTo pos (starEach [.Name T pc] X.env)).any (·.1) = false := by rfl) : EX X (.Call (.Name "isinstance" p) [a, .Name T pc] [] pos) env k :=
  ex_of (pe_callB call_isi hg hi (by decide +kernel) (pa_cons (mE X a) (pa_cons (pe_bltn (v := .ty c) hgT hT hv rfl hn hd) pa_nil he2) he) (by decide) (by decide) he hpl) fun O fp σ H S Q q => h O fp σ H S _ fun v H1 e1 r1 => ⟨v, .ty c, .type n, .type c, k, rfl, .ty c, TyX.mono (TyN.ty _ _ _ _ r1), kit_ty hk, q _ H1 e1 rfl⟩
/-- xs[i] of a list, i from 0 on, told with a default -/
theorem ex_ixD {i : Int} {d : α} (h : EX X a env xs) (hb : EX X b env i) (g : 0 ≤ i ∧ i < (xs.length : Int)) (hs : PlainIx b := by exact fun _ _ => rfl) : EX X (.Subscript a b pos) env (xs.getD (Int.toNat i) d) := ex_ixL h hb ⟨g.1, by
  have : i.toNat < xs.length := by omega
  rw [List.getD_eq_getElem?_getD, List.getElem?_eq_getElem this]
  rfl⟩ hs
/-! ### texts -/
def StrRoom (x y : Str) : Prop := x.length + y.length ≤ 100000
theorem ex_addS {x y : Str} (ha : EX X a env x) (hb : EX X b env y) (h : StrRoom x y) : EX X (.BinOp a .Add b pos) env (x ++ y) := ex_op op_add_str ha hb fun U v1 v2 H _ r1 r2 Q q => ⟨x, y, r1, r2, sz_of h, q _ H (Ex.refl H) rfl⟩
end
/-! ### a promise told otherwise -/
theorem spP.imp {ρ : Type} [Dat ρ] {K : PySem.W.Frag} {mg : Str → Option Value} {n : Nat} {Φ Φ' : Phi ρ} (h : ∀ args Rp Xp, Φ' args Rp Xp → Φ args Rp Xp) : ∀ vs H Q E, spP K mg n Φ' vs H Q E → spP K mg n Φ vs H Q E :=
  fun vs H Q E ⟨hl, O, args, Rp, Xp, ph, r⟩ => ⟨hl, O, args, Rp, Xp, h _ _ _ ph, r⟩
theorem DefOk.imp {ρ : Type} [Dat ρ] {P : Program} {w : World} {K : PySem.W.Frag} {mg : Str → Option Value} {base : Heap} {n : Str} {k m : Nat} {ps : List Str} {dvs : List V} {Φ Φ' : Phi ρ} (d : DefOk P w K mg base n k ps dvs (spP K mg m Φ)) (h : ∀ args Rp Xp, Φ' args Rp Xp → Φ args Rp Xp) : DefOk P w K mg base n k ps dvs (spP K mg m Φ') := by
  obtain ⟨f, fd, ds, F, r⟩ := d.ex
  exact ⟨f, fd, ds, F.imp (spP.imp h), r⟩
/-! ### numbers: room -/
def gcdI (a b : Int) : Int := (Int.gcd a b : Int)
theorem gcd_turn (x y : Int) : Int.gcd y (x % y) = Int.gcd x y := by
  have h := Int.gcd_mul_left_add_right y (x % y) (x / y)
  rw [Int.mul_ediv_add_emod] at h
  rw [← h, Int.gcd_comm]
theorem absI_nn (i : Int) : 0 ≤ absI i := by unfold absI; split <;> omega
theorem absI_nat (i : Int) : (absI i).natAbs = i.natAbs := by unfold absI; split <;> omega
theorem divInt_num {t b : Int} (h : 0 < b) : (Rat.divInt t b).num = t / gcdI t b := by
  rw [Rat.num_divInt, Int.sign_eq_one_of_pos h, Int.one_mul, Int.gcd_comm]
  rfl
theorem divInt_den {t b : Int} (h : 0 < b) : ((Rat.divInt t b).den : Int) = b / gcdI t b := by
  rw [Rat.den_divInt, if_neg (by omega), Int.gcd_comm]
  unfold gcdI
  rw [Int.natCast_ediv, Int.natAbs_of_nonneg (by omega)]
theorem gcdI_pos {t b : Int} (h : b ≠ 0) : 0 < gcdI t b := by
  have := Int.gcd_pos_of_ne_zero_right t h
  unfold gcdI
  omega
theorem gcdI_le {t b : Int} (h : b ≠ 0) : (gcdI t b).natAbs ≤ b.natAbs := by
  have := Int.gcd_le_natAbs_right t h
  unfold gcdI
  omega
theorem cdiv_gcd {t b x : Int} (h : b ≠ 0) (hb : b.natAbs < 2 ^ 9000) : CDivW x (gcdI t b) := wide_div (gcdI_pos h) (Nat.lt_of_le_of_lt (gcdI_le h) hb) (by decide) (by decide)
theorem gcdI_neg (t b : Int) : gcdI (0 - t) (0 - b) = gcdI t b := by
  unfold gcdI
  rw [show 0 - t = -t by omega, show 0 - b = -b by omega, Int.gcd_neg, Int.neg_gcd]
theorem divInt_neg2 (t b : Int) : Rat.divInt (0 - t) (0 - b) = Rat.divInt t b := by
  rw [show 0 - t = -t by omega, show 0 - b = -b by omega, Rat.neg_divInt_neg]
theorem plus_eq (x y : Rat) : Rat.divInt (x.num * (y.den : Int) + y.num * (x.den : Int)) ((x.den : Int) * (y.den : Int)) = x + y := by
  rw [Rat.add_def', ← Rat.divInt_ofNat]
  simp
theorem minus_eq (x y : Rat) : Rat.divInt (x.num * (y.den : Int) - y.num * (x.den : Int)) ((x.den : Int) * (y.den : Int)) = x - y := by
  rw [Rat.sub_def', ← Rat.divInt_ofNat]
  simp
theorem times_eq (x y : Rat) : Rat.divInt (x.num * y.num) ((x.den : Int) * (y.den : Int)) = x * y := by
  rw [Rat.mul_def', ← Rat.divInt_ofNat]
  simp
theorem under_eq (x y : Rat) : decide (x.num * (y.den : Int) < y.num * (x.den : Int)) = decide (x < y) := by
  rw [decide_eq_decide, Rat.lt_iff]
theorem den_pos (x : Rat) : 0 < (x.den : Int) := by have := x.den_pos; omega
theorem dens_ne (x y : Rat) : (x.den : Int) * (y.den : Int) ≠ 0 := Int.ne_of_gt (Int.mul_pos (den_pos x) (den_pos y))
end R
set_option maxHeartbeats 200000
set_option autoImplicit false
namespace R
open PySem PySem.Spec PyProof.Rows L2
/-! ### options -/
def repO {α : Type} [Dat α] (K : PySem.W.Frag) (H : Hp) (v : V) : Option α → Prop
  | none => v = .non
  | some x => Dat.rep K H v x
instance {α : Type} [Dat α] : Dat (Option α) := ⟨repO, fun {K H H' v x} e h => by
  cases x with
  | none => exact h
  | some x => exact Dat.mono (α := α) e h⟩
instance {α β γ : Type} [Inhabited α] [Inhabited β] [Inhabited γ] : Inhabited (T3 α β γ) := ⟨⟨default, default, default⟩⟩
instance {α β γ δ : Type} [Inhabited α] [Inhabited β] [Inhabited γ] [Inhabited δ] : Inhabited (T4 α β γ δ) := ⟨⟨default, default, default, default⟩⟩
instance {α β γ δ ε : Type} [Inhabited α] [Inhabited β] [Inhabited γ] [Inhabited δ] [Inhabited ε] : Inhabited (T5 α β γ δ ε) := ⟨⟨default, default, default, default, default⟩⟩
instance {α : Type} : Inhabited (Dc α) := ⟨⟨[]⟩⟩
/-! ### data without lists and dicts -/
class NoMut (α : Type) [Dat α] : Prop where
  cut : ∀ (K : PySem.W.Frag) (Hf Hf' : Hp) (v : V) (x : α), (∀ a xs, Rd Hf a (.tup xs) → Rd Hf' a (.tup xs)) → Dat.rep K Hf v x → Dat.rep K Hf' v x
instance : NoMut Int := ⟨fun _ _ _ _ _ _ h => h⟩
instance : NoMut Bool := ⟨fun _ _ _ _ _ _ h => h⟩
instance : NoMut Str := ⟨fun _ _ _ _ _ _ h => h⟩
instance : NoMut Unit := ⟨fun _ _ _ _ _ _ h => h⟩
theorem cut_tup {K : PySem.W.Frag} {Hf Hf' : Hp} {a : Addr} {vs : List V} (h : ∀ a xs, Rd Hf a (.tup xs) → Rd Hf' a (.tup xs)) (t : SqT K Hf a vs) : SqT K Hf' a vs := by
  rcases t with t | t
  · exact .inl (h a vs t)
  · exact .inr t
instance : NoMut Rat := ⟨fun K Hf Hf' v x h r => by
  obtain ⟨a, vs, e, t, ar⟩ := r
  refine ⟨a, vs, e, cut_tup h t, ?_⟩
  match vs, ar with
  | [u, w], ⟨h1, h2, _⟩ => exact ⟨h1, h2, trivial⟩⟩
instance {α β : Type} [Dat α] [Dat β] [NoMut α] [NoMut β] : NoMut (α × β) := ⟨fun K Hf Hf' v x h r => by
  obtain ⟨a, vs, e, t, ar⟩ := r
  refine ⟨a, vs, e, cut_tup h t, ?_⟩
  match vs, ar with
  | [u, w], ⟨h1, h2, _⟩ => exact ⟨NoMut.cut K Hf Hf' _ _ h h1, NoMut.cut K Hf Hf' _ _ h h2, trivial⟩⟩
instance {α : Type} [Dat α] [NoMut α] : NoMut (Option α) := ⟨fun K Hf Hf' v x h r => by
  cases x with
  | none => exact r
  | some x => exact NoMut.cut (α := α) K Hf Hf' v x h r⟩
/-! ### dicts as tables -/
section
variable {α : Type}
def lookD (kvs : List (Str × α)) (k : Str) : Option α := (kvs.find? fun p => decide (p.1 = k)).map (·.2)
def putD (kvs : List (Str × α)) (k : Str) (x : α) : List (Str × α) := if (kvs.any fun p => decide (p.1 = k)) = true then kvs.map (fun p => if p.1 = k then (p.1, x) else p) else kvs ++ [(k, x)]
def dropD (kvs : List (Str × α)) (k : Str) : List (Str × α) := kvs.filter fun p => decide (p.1 ≠ k)
def Dc.look (d : Dc α) (k : Str) : Option α := lookD d.kvs k
def Dc.has (d : Dc α) (k : Str) : Bool := (lookD d.kvs k).isSome
def Dc.put (d : Dc α) (k : Str) (x : α) : Dc α := ⟨putD d.kvs k x⟩
def Dc.drop (d : Dc α) (k : Str) : Dc α := ⟨dropD d.kvs k⟩
variable [Dat α] {K : PySem.W.Frag} {H : Hp}
theorem key_dec (a b : Str) : decide ((Sum.inr a : Key) = Sum.inr b) = decide (a = b) := key_rr a b
theorem repD.look : ∀ {ws : List (Key × V)} {kvs : List (Str × α)}, repD K H ws kvs → ∀ k : Str, (valV ws (.inr k) = none ∧ lookD kvs k = none) ∨ ∃ v x, valV ws (.inr k) = some v ∧ lookD kvs k = some x ∧ Dat.rep K H v x
  | _, _, .nil, k => .inl ⟨rfl, rfl⟩
  | (k1, v) :: ws, (k2, x) :: kvs, .cons h t, k => by
    obtain ⟨h1, h2⟩ := h
    have h1 : k1 = .inr k2 := h1
    subst h1
    have ih := repD.look t k
    unfold valV lookD at *
    rw [List.find?_cons, List.find?_cons]
    by_cases e : k2 = k
    · subst e
      simp
      exact h2
    · have e1 : decide ((Sum.inr k2 : Key) = Sum.inr k) = false := by rw [key_dec]; exact decide_eq_false e
      have e2 : decide (k2 = k) = false := decide_eq_false e
      simp only [e1, e2]
      exact ih
theorem repD.any {ws : List (Key × V)} {kvs : List (Str × α)} (h : repD K H ws kvs) (k : Str) : (ws.any fun p => decide (p.1 = .inr k)) = (kvs.any fun p => decide (p.1 = k)) := by
  unfold repD at h
  induction h with
  | nil => rfl
  | cons h t ih => rw [List.any_cons, List.any_cons, ih, h.1, key_dec]
theorem repD.put {ws : List (Key × V)} {kvs : List (Str × α)} (h : repD K H ws kvs) (k : Str) {v : V} {x : α} (r : Dat.rep K H v x) : repD K H (putK ws (.inr k) v) (putD kvs k x) := by
  unfold putK putD
  rw [h.any k]
  split
  · rename_i hq
    clear hq
    unfold repD at *
    induction h with
    | nil => exact .nil
    | @cons a b _ _ h t ih =>
      rw [List.map_cons, List.map_cons]
      refine .cons ?_ ih
      obtain ⟨h1, h2⟩ := h
      by_cases e : b.1 = k
      · rw [if_pos e, if_pos (by rw [h1, e])]
        exact ⟨h1, r⟩
      · rw [if_neg e, if_neg (by rw [h1]; intro z; exact e (Sum.inr.inj z))]
        exact ⟨h1, h2⟩
  · have : ∀ {ws : List (Key × V)} {kvs : List (Str × α)}, repD K H ws kvs → repD K H (ws ++ [(.inr k, v)]) (kvs ++ [(k, x)]) := by
      intro ws kvs h
      unfold repD at *
      induction h with
      | nil => exact .cons ⟨rfl, r⟩ .nil
      | cons h t ih => exact .cons h ih
    exact this h
theorem repD.drop {ws : List (Key × V)} {kvs : List (Str × α)} (h : repD K H ws kvs) (k : Str) : repD K H (dropK ws (.inr k)) (dropD kvs k) := by
  unfold dropK dropD repD at *
  induction h with
  | nil => exact .nil
  | @cons a b _ _ h t ih =>
    rw [List.filter_cons, List.filter_cons]
    obtain ⟨h1, h2⟩ := h
    by_cases e : b.1 = k
    · have e1 : decide (a.1 ≠ .inr k) = false := decide_eq_false (by rw [h1, e]; simp)
      have e2 : decide (b.1 ≠ k) = false := decide_eq_false (by simp [e])
      simp only [e1, e2]
      exact ih
    · have e1 : decide (a.1 ≠ .inr k) = true := decide_eq_true (by rw [h1]; intro z; exact e (Sum.inr.inj z))
      have e2 : decide (b.1 ≠ k) = true := decide_eq_true e
      simp only [e1, e2]
      exact .cons ⟨h1, h2⟩ ih
theorem putD_length (kvs : List (Str × α)) (k : Str) (x : α) : (putD kvs k x).length ≤ kvs.length + 1 := by
  unfold putD
  split
  · rw [List.length_map]; omega
  · simp
end
/-! ### one's own lists and dicts -/
structure OL (α : Type) where
  l : List α
structure OD (α : Type) where
  d : Dc α
instance {α : Type} [Dat α] : Own (OL α) where
  own K Hf H v L x := ∃ a vs, v = .ref a ∧ L = [a] ∧ H a = some (.lst vs) ∧ repL K Hf vs x.l
  frame := fun e f ⟨a, vs, h1, h2, h3, h4⟩ => ⟨a, vs, h1, h2, by rw [f a (by rw [h2]; exact List.mem_singleton.mpr rfl)]; exact h3, h4.mono e⟩
instance {α : Type} [Dat α] : Own (OD α) where
  own K Hf H v L x := ∃ a ws, v = .ref a ∧ L = [a] ∧ H a = some (.dK ws) ∧ repD K Hf ws x.d.kvs
  frame := fun e f ⟨a, vs, h1, h2, h3, h4⟩ => ⟨a, vs, h1, h2, by rw [f a (by rw [h2]; exact List.mem_singleton.mpr rfl)]; exact h3, h4.mono e⟩
def setF (fp : Nat → List Addr) (i : Nat) (L : List Addr) : Nat → List Addr := fun j => if j = i then L else fp j
theorem wo_upd_in {H : Hp} {U : Addr → Prop} {a : Addr} {o : HO} (h : U a) : wo (upd H a o) U = wo H U := by
  funext b
  by_cases u : U b
  · rw [wo_in u, wo_in u]
  · rw [wo_out u, wo_out u, upd_ne]
    intro e
    subst e
    exact u h
section
variable {K : PySem.W.Frag} {O : Addr → Prop} {fp : Nat → List Addr} {env : Env'} {σ : L2.St} {H H' : Hp}
/-- the object of slot i is changed -/
theorem SOk.mut {β γ : Type} [Own β] [Own γ] (S : SOk K O fp env σ H) {i : Nat} {x : β} {y : γ} {a : Addr} {o : HO} (hi : env[i]? = some (.own x)) (ha : fp i = [a]) (hy : ∀ v, σ[i]? = some (some v) → Own.own K (wo H (UU O fp)) (upd H a o) v [a] y) : SOk K O fp (env.set i (.own y)) σ (upd H a o) where
  len := by rw [List.length_set]; exact S.len
  bnd := fun b h => by
    by_cases e : b = a
    · subst e; exact ⟨o, upd_same⟩
    · rw [upd_ne e]; exact S.bnd b h
  fpO := S.fpO
  sep := S.sep
  dom := fun j b h => by
    by_cases e : b = a
    · subst e; exact ⟨o, upd_same⟩
    · rw [upd_ne e]; exact S.dom j b h
  sl := fun j s q => by
    have hU : UU O fp a := .inr ⟨i, by rw [ha]; exact List.mem_singleton.mpr rfl⟩
    rw [wo_upd_in hU]
    by_cases e : i = j
    · subst e
      have hl : i < env.length := (List.getElem?_eq_some_iff.mp hi).1
      rw [List.getElem?_set_self hl] at q
      cases q
      obtain ⟨v, hv, _⟩ := S.sl i _ hi
      exact ⟨v, hv, by rw [ha]; exact hy v hv⟩
    · rw [List.getElem?_set_ne e] at q
      have r := S.sl j s q
      cases s with
      | any => exact trivial
      | dat x => exact r
      | own x =>
        obtain ⟨v, h1, h2⟩ := r
        refine ⟨v, h1, Own.frame (Le.refl _) (fun b hb => ?_) h2⟩
        rw [upd_ne]
        intro z
        subst z
        exact e (S.sep i j b (by rw [ha]; exact List.mem_singleton.mpr rfl) hb)
theorem Keep.mut {a : Addr} {o : HO} (h : ∃ i, a ∈ fp i) : Keep fp H fp (upd H a o) := ⟨fun b u n q => by
  rw [upd_ne]
  · exact q
  · intro e; subst e; exact n h, fun i b q => .inl ⟨i, q⟩⟩
/-- a new object of one's own comes into slot i -/
theorem SOk.new {β : Type} [Own β] (S : SOk K O fp env σ H) {i : Nat} {x : β} {v : V} {L : List Addr} (e : Ex H H') (hL : ∀ a ∈ L, H a = none) (hd : ∀ a ∈ L, ∃ o, H' a = some o) (hx : ∀ Hf, Le (wo H' (fun a => UU O fp a ∨ a ∈ L)) Hf → Own.own K Hf H' v L x) : SOk K O (setF fp i L) (env.set i (.own x)) (σ.set i (some v)) H' := by
  have hn : ∀ a ∈ L, ¬ UU O fp a := fun a ha => S.fresh (hL a ha)
  have sub : ∀ a, UU O (setF fp i L) a → UU O fp a ∨ a ∈ L := fun a h => by
    rcases h with h | ⟨j, h⟩
    · exact .inl (.inl h)
    · unfold setF at h
      split at h
      · exact .inr h
      · exact .inl (.inr ⟨j, h⟩)
  have le : Le (wo H (UU O fp)) (wo H' (UU O (setF fp i L))) := Ex.le fun a o q => by
    obtain ⟨n, q⟩ := wo_some q
    rw [wo_out fun z => (sub a z).elim n fun m => by rw [hL a m] at q; cases q]
    exact e a o q
  exact {
    len := by rw [List.length_set, List.length_set]; exact S.len
    bnd := fun a h => let ⟨o, q⟩ := S.bnd a h; ⟨o, e a o q⟩
    fpO := fun j a h => by
      unfold setF at h
      split at h
      · exact fun z => hn a h (.inl z)
      · exact S.fpO j a h
    sep := fun j k a h1 h2 => by
      unfold setF at h1 h2
      split at h1 <;> split at h2
      · omega
      · exact absurd (.inr ⟨k, h2⟩) (hn a h1)
      · exact absurd (.inr ⟨j, h1⟩) (hn a h2)
      · exact S.sep j k a h1 h2
    dom := fun j a h => by
      unfold setF at h
      split at h
      · exact hd a h
      · let ⟨o, q⟩ := S.dom j a h
        exact ⟨o, e a o q⟩
    sl := fun j s q => by
      by_cases e' : i = j
      · subst e'
        have hl : i < env.length := by
          have := (List.getElem?_eq_some_iff.mp q).1
          simpa using this
        rw [List.getElem?_set_self hl] at q
        cases q
        refine ⟨v, by rw [List.getElem?_set_self (by rw [S.len]; exact hl)], ?_⟩
        have : setF fp i L i = L := by unfold setF; rw [if_pos rfl]
        rw [this]
        exact hx _ (wo_mono sub).le
      · rw [List.getElem?_set_ne e'] at q
        rw [List.getElem?_set_ne e']
        have r := S.sl j s q
        have ef : setF fp i L j = fp j := by unfold setF; rw [if_neg (fun z => e' z.symm)]
        rw [ef]
        cases s with
        | any => exact trivial
        | dat x =>
          obtain ⟨v, h1, h2⟩ := r
          exact ⟨v, h1, Dat.mono le h2⟩
        | own x =>
          obtain ⟨v, h1, h2⟩ := r
          refine ⟨v, h1, Own.frame le (fun a ha => ?_) h2⟩
          obtain ⟨o, q⟩ := S.dom j a ha
          rw [q, e a o q] }
theorem Keep.new {i : Nat} {L : List Addr} (e : Ex H H') (hL : ∀ a ∈ L, H a = none) : Keep fp H (setF fp i L) H' := ⟨fun a o _ h => e a o h, fun j a h => by
  unfold setF at h
  split at h
  · exact .inr (hL a h)
  · exact .inl ⟨j, h⟩⟩
/-- one's own becomes data -/
theorem SOk.frz {β α : Type} [Own β] [Dat α] (S : SOk K O fp env σ H) {i : Nat} {x : β} {y : α} (hi : env[i]? = some (.own x)) (hy : ∀ v Hf, Own.own K Hf H v (fp i) x → (∀ a ∈ fp i, Hf a = H a) → Dat.rep K Hf v y) : SOk K O (setF fp i []) (env.set i (.dat y)) σ H := by
  have sub : ∀ a, UU O (setF fp i []) a → UU O fp a := fun a h => by
    rcases h with h | ⟨j, h⟩
    · exact .inl h
    · unfold setF at h
      split at h
      · cases h
      · exact .inr ⟨j, h⟩
  have le : Le (wo H (UU O fp)) (wo H (UU O (setF fp i []))) := (wo_mono sub).le
  exact {
    len := by rw [List.length_set]; exact S.len
    bnd := S.bnd
    fpO := fun j a h => by
      unfold setF at h
      split at h
      · cases h
      · exact S.fpO j a h
    sep := fun j k a h1 h2 => by
      unfold setF at h1 h2
      split at h1
      · cases h1
      · split at h2
        · cases h2
        · exact S.sep j k a h1 h2
    dom := fun j a h => by
      unfold setF at h
      split at h
      · cases h
      · exact S.dom j a h
    sl := fun j s q => by
      by_cases e : i = j
      · subst e
        have hl : i < env.length := (List.getElem?_eq_some_iff.mp hi).1
        rw [List.getElem?_set_self hl] at q
        cases q
        obtain ⟨v, h1, h2⟩ := S.sl i _ hi
        refine ⟨v, h1, hy v _ (Own.frame le (fun _ _ => rfl) h2) fun a ha => wo_out fun z => ?_⟩
        rcases z with z | ⟨k, z⟩
        · exact S.fpO i a ha z
        · unfold setF at z
          split at z
          · cases z
          · rename_i ne
            exact ne (S.sep k i a z ha)
      · rw [List.getElem?_set_ne e] at q
        have r := S.sl j s q
        have ef : setF fp i [] j = fp j := by unfold setF; rw [if_neg (fun z => e z.symm)]
        rw [ef]
        cases s with
        | any => exact trivial
        | dat x =>
          obtain ⟨v, h1, h2⟩ := r
          exact ⟨v, h1, Dat.mono le h2⟩
        | own x =>
          obtain ⟨v, h1, h2⟩ := r
          exact ⟨v, h1, Own.frame le (fun _ _ => rfl) h2⟩ }
theorem Keep.frz' {i : Nat} : Keep fp H (setF fp i []) H := ⟨fun _ _ _ h => h, fun j a h => by
  unfold setF at h
  split at h
  · cases h
  · exact .inl ⟨j, h⟩⟩
end
theorem own_frzL {α : Type} [Dat α] {K : PySem.W.Frag} {Hf H : Hp} {v : V} {L : List Addr} {xs : List α} (h : Own.own K Hf H v L (OL.mk xs)) (q : ∀ a ∈ L, Hf a = H a) : Dat.rep K Hf v xs := by
  obtain ⟨a, vs, h1, h2, h3, h4⟩ := h
  exact ⟨a, vs, h1, .inl (.inl (by rw [q a (by rw [h2]; exact List.mem_singleton.mpr rfl)]; exact h3)), h4⟩
theorem own_frzD {α : Type} [Dat α] {K : PySem.W.Frag} {Hf H : Hp} {v : V} {L : List Addr} {d : Dc α} (h : Own.own K Hf H v L (OD.mk d)) (q : ∀ a ∈ L, Hf a = H a) : Dat.rep K Hf v d := by
  obtain ⟨a, vs, h1, h2, h3, h4⟩ := h
  exact ⟨a, vs, h1, .inl (by rw [q a (by rw [h2]; exact List.mem_singleton.mpr rfl)]; exact h3), h4⟩
/-- what makes a new object of one's own -/
def EN {β : Type} [Own β] (X : Cx) (e : Expr) (env : Env') (x : β) : Prop :=
  ∀ O fp σ H, SOk X.K O fp env σ H → ∀ Q : VK, (∀ v L H', Ex H H' → (∀ a ∈ L, H a = none) → (∀ a ∈ L, ∃ o, H' a = some o) → (∀ Hf, Le (wo H' (fun a => UU O fp a ∨ a ∈ L)) Hf → Own.own X.K Hf H' v L x) → Q v H') → tE X e σ H Q
section
variable {X : Cx} {W : WX} {env env' : Env'} {ρ α β γ : Type} [Dat ρ] [Dat α] [Dat β] [Dat γ] {po : Po ρ} {x : α} {y : β} {z : γ} {e a b c tg iter o : Expr} {es : List Expr} {pos p p2 pc p3 apos cpos : Pos} {rest body : List Stmt} {xs : List α}
theorem sx_new {β : Type} [Own β] {x : β} {i : Nat} {n : Str} (hN : X.N.Nodup) (he : EN X e env x) (h : SX X W rest (env.set i (.own x)) po) (hi : X.N[i]? = some n := by rfl) (hx : Loc X.env.scope n := by first | exact Or.inl rfl | exact Or.inr rfl) (hs : swapsWith e (some (.Name n p2)) pos.line X.env = pure false := by rfl) (hf : X.fn n = true ∨ X.env.scope.names.lookup n = some .local := by first | exact .inl rfl | exact .inr rfl | assumption) :
    SX X W (.Assign [.Name n p2] e pos :: rest) env po :=
  sx_step (ps_set hN hi hx (mE X e) hs hf) (fun O fp σ H S D q => he O fp σ H S _ fun v L H1 e1 hL hd r1 => q (setF fp i L) _ H1 (Keep.new e1 hL) (S.new e1 hL hd r1)) h
theorem en_nil : EN X (.List [] pos) env (OL.mk ([] : List α)) := fun O fp σ H S Q q pins s I => (pe_lst pa_nil).run pins s σ H Q I ⟨Nat.zero_le _, fun p hp => q (.ref p) [p] _ (Ex.new hp) (fun a ha => by rw [List.mem_singleton.mp ha]; exact hp) (fun a ha => by rw [List.mem_singleton.mp ha]; exact ⟨_, upd_same⟩) fun Hf _ => ⟨p, [], rfl, rfl, upd_same, .nil⟩⟩
theorem en_dnew : EN X (.Dict [] [] pos) env (OD.mk (⟨[]⟩ : Dc α)) := fun O fp σ H S Q q pins s I => pe_dnewK.run pins s σ H Q I fun p hp => q (.ref p) [p] _ (Ex.new hp) (fun a ha => by rw [List.mem_singleton.mp ha]; exact hp) (fun a ha => by rw [List.mem_singleton.mp ha]; exact ⟨_, upd_same⟩) fun Hf _ => ⟨p, [], rfl, rfl, upd_same, .nil⟩
theorem sx_frzL {i : Nat} (hi : env[i]? = some (.own (OL.mk xs))) (h : SX X W rest (env.set i (.dat xs)) po) : SX X W rest env po := fun O fp σ H S D G => h O (setF fp i []) σ H (S.frz hi fun v Hf r q => own_frzL r q) D (G.step Keep.frz')
theorem sx_frzD {i : Nat} {d : Dc α} (hi : env[i]? = some (.own (OD.mk d))) (h : SX X W rest (env.set i (.dat d)) po) : SX X W rest env po := fun O fp σ H S D G => h O (setF fp i []) σ H (S.frz hi fun v Hf r q => own_frzD r q) D (G.step Keep.frz')
/-- one's own is read as data, where the answer has no lists -/
theorem ex_thawL [NoMut γ] {i : Nat} (hi : env[i]? = some (.own (OL.mk xs))) (h : EX X e (env.set i (.dat xs)) z) : EX X e env z := fun O fp σ H S Q q => h O (setF fp i []) σ H (S.frz hi fun v Hf r q => own_frzL r q) Q fun v H' e1 r => q v H' e1 (by
  obtain ⟨v0, _, ow⟩ := S.sl i _ hi
  obtain ⟨a, vs, _, hL, hl, _⟩ := ow
  refine NoMut.cut X.K _ _ v z (fun b ys t => ?_) r
  have hb : ¬ UU O fp b → Rd (wo H' (UU O fp)) b (.tup ys) := fun n => by
    rcases t with t | ⟨o, t⟩
    · exact .inl (by rw [wo_out n]; exact (wo_some t).2)
    · exact .inr ⟨o, by rw [wo_out n]; exact (wo_some t).2⟩
  refine hb fun u => ?_
  have nb : b ≠ a := fun z => by
    subst z
    have := e1 b _ hl
    rcases t with t | ⟨o, t⟩ <;> (rw [(wo_some t).2] at this; cases this)
  have : UU O (setF fp i []) b := by
    rcases u with u | ⟨j, u⟩
    · exact .inl u
    · refine .inr ⟨j, ?_⟩
      unfold setF
      split
      · rename_i ej
        subst ej
        rw [hL] at u
        exact absurd (List.mem_singleton.mp u) nb
      · exact u
  rcases t with t | ⟨o, t⟩ <;> exact (wo_some t).1 this)
theorem ex_thawD [NoMut γ] {i : Nat} {d : Dc α} (hi : env[i]? = some (.own (OD.mk d))) (h : EX X e (env.set i (.dat d)) z) : EX X e env z := fun O fp σ H S Q q => h O (setF fp i []) σ H (S.frz hi fun v Hf r q => own_frzD r q) Q fun v H' e1 r => q v H' e1 (by
  obtain ⟨v0, _, ow⟩ := S.sl i _ hi
  obtain ⟨a, vs, _, hL, hl, _⟩ := ow
  refine NoMut.cut X.K _ _ v z (fun b ys t => ?_) r
  have hb : ¬ UU O fp b → Rd (wo H' (UU O fp)) b (.tup ys) := fun n => by
    rcases t with t | ⟨o, t⟩
    · exact .inl (by rw [wo_out n]; exact (wo_some t).2)
    · exact .inr ⟨o, by rw [wo_out n]; exact (wo_some t).2⟩
  refine hb fun u => ?_
  have nb : b ≠ a := fun z => by
    subst z
    have := e1 b _ hl
    rcases t with t | ⟨o, t⟩ <;> (rw [(wo_some t).2] at this; cases this)
  have : UU O (setF fp i []) b := by
    rcases u with u | ⟨j, u⟩
    · exact .inl u
    · refine .inr ⟨j, ?_⟩
      unfold setF
      split
      · rename_i ej
        subst ej
        rw [hL] at u
        exact absurd (List.mem_singleton.mp u) nb
      · exact u
  rcases t with t | ⟨o, t⟩ <;> exact (wo_some t).1 this)
theorem et_thawL {k : Bool} {i : Nat} (hi : env[i]? = some (.own (OL.mk xs))) (h : ET X e (env.set i (.dat xs)) k) : ET X e env k := fun O fp σ H S Q q => h O (setF fp i []) σ H (S.frz hi fun v Hf r q => own_frzL r q) Q q
theorem et_thawD {k : Bool} {i : Nat} {d : Dc α} (hi : env[i]? = some (.own (OD.mk d))) (h : ET X e (env.set i (.dat d)) k) : ET X e env k := fun O fp σ H S Q q => h O (setF fp i []) σ H (S.frz hi fun v Hf r q => own_frzD r q) Q q
/-- the slot of one's own object: its address and what stands there -/
theorem SOk.ol {O : Addr → Prop} {fp : Nat → List Addr} {σ : L2.St} {H : Hp} {i : Nat} (S : SOk X.K O fp env σ H) (hi : env[i]? = some (.own (OL.mk xs))) : ∃ ad vs, σ[i]? = some (some (.ref ad)) ∧ fp i = [ad] ∧ H ad = some (.lst vs) ∧ repL X.K (wo H (UU O fp)) vs xs := by
  obtain ⟨v, h1, ad, vs, h2, h3, h4, h5⟩ := S.sl i _ hi
  subst h2
  exact ⟨ad, vs, h1, h3, h4, h5⟩
theorem SOk.od {O : Addr → Prop} {fp : Nat → List Addr} {σ : L2.St} {H : Hp} {i : Nat} {d : Dc α} (S : SOk X.K O fp env σ H) (hi : env[i]? = some (.own (OD.mk d))) : ∃ ad ws, σ[i]? = some (some (.ref ad)) ∧ fp i = [ad] ∧ H ad = some (.dK ws) ∧ repD X.K (wo H (UU O fp)) ws d.kvs := by
  obtain ⟨v, h1, ad, vs, h2, h3, h4, h5⟩ := S.sl i _ hi
  subst h2
  exact ⟨ad, vs, h1, h3, h4, h5⟩
theorem Paired.app {α β : Type} {F : α → β → Prop} {xs : List α} {ys : List β} {x : α} {y : β} (h : Paired F xs ys) (r : F x y) : Paired F (xs ++ [x]) (ys ++ [y]) := by
  induction h with
  | nil => exact .cons r .nil
  | cons h t ih => exact .cons h ih
/-- l.append(e): the statement's own derivation is handed in -/
theorem sx_app {i : Nat} {st : Stmt} (ps : PS X st (tDrop (tBM X.K "list" rAppend (tVar i) (tCons (tE X e) tNil)))) (hi : env[i]? = some (.own (OL.mk xs))) (he : EX X e env x) (hz : xs.length < 100000) (h : SX X W rest (env.set i (.own (OL.mk (xs ++ [x])))) po) : SX X W (st :: rest) env po :=
  sx_step ps (fun O fp σ H S D q => by
    obtain ⟨ad, vs, h1, h2, h3, h4⟩ := S.ol hi
    refine ⟨.ref ad, h1, .inl ⟨rfl, vs, .inl (.inl h3)⟩, he O fp σ H S _ fun v H1 e1 r1 => ⟨ad, vs, v, rfl, rfl, e1 ad _ h3, ?_, ?_⟩⟩
    · rw [Paired.length h4]
      exact Nat.lt_of_lt_of_le hz (by decide)
    · have S1 := S.ex e1
      refine q fp σ _ ((Keep.ex e1).trans (Keep.mut ⟨i, by rw [h2]; exact List.mem_singleton.mpr rfl⟩)) (S1.mut hi h2 fun v' hv' => ?_)
      rw [h1] at hv'
      cases hv'
      exact ⟨ad, vs ++ [v], rfl, rfl, upd_same, Paired.app (h4.mono (wo_ex e1).le) r1⟩) h
/-- d[k] = e -/
theorem sx_dput {i : Nat} {st : Stmt} {d : Dc α} {k : Str} (ps : PS X st (sDPut (tVar i) (tE X a) (tE X e))) (hi : env[i]? = some (.own (OD.mk d))) (he : EX X e env x) (hk : EX X a env k) (hz : d.kvs.length < 100000) (h : SX X W rest (env.set i (.own (OD.mk (d.put k x)))) po) : SX X W (st :: rest) env po :=
  sx_step ps (fun O fp σ H S D q => he O fp σ H S _ fun v H1 e1 r1 => by
    have S1 := S.ex e1
    obtain ⟨ad, ws, h1, h2, h3, h4⟩ := S1.od hi
    refine ⟨.ref ad, h1, hk O fp σ H1 S1 _ fun u H2 e2 r2 => ?_⟩
    have S2 := S1.ex e2
    have r2 : u = .str k := r2
    subst r2
    refine ⟨ad, _, rfl, DPut.k (k := .inr k) (e2 ad _ h3) ?_, ?_⟩
    · rw [Paired.length h4]
      exact Nat.lt_of_lt_of_le hz (by decide)
    · refine q fp σ _ ((Keep.ex (e1.trans e2)).trans (Keep.mut ⟨i, by rw [h2]; exact List.mem_singleton.mpr rfl⟩)) (S2.mut hi h2 fun v' hv' => ?_)
      rw [h1] at hv'
      cases hv'
      exact ⟨ad, _, rfl, rfl, upd_same, (h4.mono (wo_ex e2).le).put k (Dat.mono (wo_ex e2).le r1)⟩) h
/-! ### dicts read -/
theorem ev_path {O : Addr → Prop} {fp : Nat → List Addr} {σ : L2.St} {H : Hp} (S : SOk X.K O fp env σ H) : True := trivial
/-- d[k] -/
theorem ex_dget {d : Dc α} {k : Str} (hu : X.A.units + 1 < cLine) (ho : EX X o env d) (hk : EX X a env k) (g : d.look k = some x) (hs : NoSl a := by exact fun _ _ => rfl) : EX X (.Subscript o a pos) env x :=
  ex_of (pe_dget hu (mE X o) (mE X a) hs) fun O fp σ H S Q q => ho O fp σ H S _ fun v1 H1 e1 r1 => hk O fp σ H1 (S.ex e1) _ fun v2 H2 e2 r2 => by
    obtain ⟨ad, ws, h1, h2, h3⟩ := Dat.mono (wo_ex e2).le r1
    have r2 : v2 = .str k := r2
    subst h1 r2
    rcases h3.look k with ⟨_, n⟩ | ⟨v, x', hv, hx, rx⟩
    · unfold Dc.look at g; rw [n] at g; cases g
    · unfold Dc.look at g
      rw [g] at hx
      cases hx
      exact ⟨ad, v, rfl, .inl ⟨ws, .inr k, wo_le _ _ trivial h2, rfl, hv.symm⟩, q v H2 (e1.trans e2) rx⟩
theorem ex_dgetD {d : Dc α} {k : Str} {x0 : α} (hu : X.A.units + 1 < cLine) (ho : EX X o env d) (hk : EX X a env k) (g : (d.look k).isSome = true) (hs : NoSl a := by exact fun _ _ => rfl) : EX X (.Subscript o a pos) env ((d.look k).getD x0) := ex_dget hu ho hk (by
  cases h : d.look k with
  | none => rw [h] at g; cases g
  | some y => rfl) hs
/-- d.get(k, e) -/
theorem ex_dget2 {d : Dc α} {k : Str} (hu : X.A.units + 1 < cLine) (ho : EX X o env d) (hk : EX X a env k) (he : EX X e env x) (m : M2 X o "get" apos a e cpos) : EX X (.Call (.Attribute o "get" apos) [a, e] [] cpos) env ((d.look k).getD x) :=
  ex_of (pe_dget2 hu (mE X o) (mE X a) (mE X e) m) fun O fp σ H S Q q => ho O fp σ H S _ fun v1 H1 e1 r1 => by
    obtain ⟨ad, ws, h1, h2, h3⟩ := r1
    subst h1
    refine ⟨ad, rfl, .inl ⟨ws, wo_le _ _ trivial h2⟩, hk O fp σ H1 (S.ex e1) _ fun v2 H2 e2 r2 => he O fp σ H2 ((S.ex e1).ex e2) _ fun v3 H3 e3 r3 => ?_⟩
    have r2 : v2 = .str k := r2
    subst r2
    have e23 := e2.trans e3
    have h2' := (wo_ex (U := UU O fp) e23).le _ _ (show Pl (.dK ws) from trivial) h2
    have h3' := h3.mono (wo_ex (U := UU O fp) e23).le
    refine ⟨valV ws (.inr k), .inl ⟨ws, .inr k, wo_le _ _ trivial h2', rfl, rfl⟩, q _ H3 ((e1.trans e2).trans e3) ?_⟩
    rcases h3'.look k with ⟨n1, n2⟩ | ⟨v, x', hv, hx, rx⟩
    · unfold Dc.look; rw [n1, n2]; exact r3
    · unfold Dc.look; rw [hv, hx]; exact rx
theorem ex_din {d : Dc α} {k : Str} (hu : X.A.units + 1 < cLine) (hk : EX X a env k) (ho : EX X o env d) (hm : behindInMarks .In o = false := by rfl) : EX X (.Compare a [.In] [o] pos) env (d.has k) :=
  ex_of (pe_cmp (pc_din hu (mE X a) (mE X o)) hm) fun O fp σ H S Q q => hk O fp σ H S _ fun v2 H1 e1 r2 => ho O fp σ H1 (S.ex e1) _ fun v1 H2 e2 r1 => by
    obtain ⟨ad, ws, h1, h2, h3⟩ := r1
    have r2 : v2 = .str k := r2
    subst h1 r2
    refine ⟨ad, valV ws (.inr k), rfl, .inl ⟨ws, .inr k, wo_le _ _ trivial h2, rfl, rfl⟩, q _ H2 (e1.trans e2) ?_⟩
    show V.bl _ = V.bl _
    unfold Dc.has
    rcases h3.look k with ⟨n1, n2⟩ | ⟨v, x', hv, hx, rx⟩
    · rw [n1, n2]; rfl
    · rw [hv, hx]; rfl
theorem ex_dnotin {d : Dc α} {k : Str} (hu : X.A.units + 1 < cLine) (hk : EX X a env k) (ho : EX X o env d) (hm : behindInMarks .NotIn o = false := by rfl) : EX X (.Compare a [.NotIn] [o] pos) env (!d.has k) :=
  ex_of (pe_cmp (pc_dnotin hu (mE X a) (mE X o)) hm) fun O fp σ H S Q q => hk O fp σ H S _ fun v2 H1 e1 r2 => ho O fp σ H1 (S.ex e1) _ fun v1 H2 e2 r1 => by
    obtain ⟨ad, ws, h1, h2, h3⟩ := r1
    have r2 : v2 = .str k := r2
    subst h1 r2
    refine ⟨ad, valV ws (.inr k), rfl, .inl ⟨ws, .inr k, wo_le _ _ trivial h2, rfl, rfl⟩, q _ H2 (e1.trans e2) ?_⟩
    show V.bl _ = V.bl _
    unfold Dc.has
    rcases h3.look k with ⟨n1, n2⟩ | ⟨v, x', hv, hx, rx⟩
    · rw [n1, n2]; rfl
    · rw [hv, hx]; rfl
theorem call_lenD' : CallR X (.builtin "len") (fun xs H Q => ∃ a kvs, xs = [V.ref a] ∧ Rd H a (.dK kvs) ∧ Q (.int kvs.length) H) := by
  intro pins s σ H xs us Q I r h
  obtain ⟨a, kvs, rfl, ha, q⟩ := h
  obtain ⟨u, rfl, ru⟩ := vals1 r
  cases ru
  exact d_len I ha fun t s' I' => ⟨.int kvs.length, H, I', ⟨t, rfl⟩, q⟩
theorem ex_lenD {d : Dc α} (hm : X.mg "len" = none) (h : EX X a env d) (he : starEach [a] X.env = (false, eval a X.env) :: starEach [] X.env := by rfl) (hpl : (backTo pos (starEach [] X.env)).any (·.1) = false := by rfl) (hg : Gl X "len" := by rfl) : EX X (.Call (.Name "len" p) [a] [] pos) env (d.kvs.length : Int) :=
  ex_callB call_lenD' hm PySem.boot_len (ea1 h he) (rc1 fun U v H bn r Q q => by
    obtain ⟨ad, ws, e, l, rl⟩ := r
    exact ⟨ad, ws, by rw [e], wo_le _ _ trivial l, q _ H (Ex.refl H) (show V.int _ = V.int _ by rw [Paired.length rl])⟩) hg (by decide) (by decide) he hpl
/-- a call of a built-in class that makes something new -/
theorem en_callTy {β : Type} [Own β] {y : β} {id : String} {n : Str} {r : List V → Hp → VK → Prop} {ys : List Sl} (hc : CallR X (.type id) r) (hm : X.mg n = none) (hv : bootBuiltins n = some (.type id)) (ha : EA X (e :: es) env ys)
    (hr : ∀ (U : Addr → Prop) (vs : List V) (H : Hp), (∀ a, U a → ∃ o, H a = some o) → ARep X.K (wo H U) vs ys → ∀ Q : VK, (∀ v L H', Ex H H' → (∀ a ∈ L, H a = none) → (∀ a ∈ L, ∃ o, H' a = some o) → (∀ Hf, Le (wo H' (fun a => U a ∨ a ∈ L)) Hf → Own.own X.K Hf H' v L y) → Q v H') → r vs H Q)
    (hg : Gl X n) (hn : n ≠ "__name__") (hdb : (n == ("__debug__" : Str)) = false) (he : starEach (e :: es) X.env = (false, eval e X.env) :: starEach es X.env) (hpl : (backTo pos (starEach es X.env)).any (·.1) = false) : EN X (.Call (.Name n p) (e :: es) [] pos) env y := by
  intro O fp σ H S Q q pins s I
  refine (pe_callTy hc hg hm hv (mA X _) hn hdb he hpl).run pins s σ H Q I ?_
  refine ha O fp σ H S _ fun vs H1 e1 ar => ?_
  exact hr (UU O fp) vs H1 (S.ex e1).bndU ar Q fun v L H' e2 hL hd ow => q v L H' (e1.trans e2) (fun b hb => e1.free (hL b hb)) hd ow
theorem en_callTy1 {β : Type} [Own β] {y : β} {id : String} {n : Str} {r : List V → Hp → VK → Prop} (hc : CallR X (.type id) r) (hm : X.mg n = none) (hv : bootBuiltins n = some (.type id)) (ha : EX X e env x)
    (hr : ∀ (U : Addr → Prop) (v : V) (H : Hp), Dat.rep X.K (wo H U) v x → ∀ Q : VK, (∀ v L H', Ex H H' → (∀ a ∈ L, H a = none) → (∀ a ∈ L, ∃ o, H' a = some o) → (∀ Hf, Le (wo H' (fun a => U a ∨ a ∈ L)) Hf → Own.own X.K Hf H' v L y) → Q v H') → r [v] H Q)
    (hg : Gl X n) (hn : n ≠ "__name__") (hdb : (n == ("__debug__" : Str)) = false) (he : starEach [e] X.env = (false, eval e X.env) :: starEach [] X.env) (hpl : (backTo pos (starEach [] X.env)).any (·.1) = false) : EN X (.Call (.Name n p) [e] [] pos) env y :=
  en_callTy hc hm hv (ea1 ha he) (fun U vs H bn ar Q q => by
    match vs, ar with
    | [v], ⟨r1, _⟩ => exact hr U v H r1 Q q) hg hn hdb he hpl
theorem le_new {H : Hp} {U : Addr → Prop} {u : Addr} {ob : HO} (hu : H u = none) : Le (wo H U) (wo (upd H u ob) (fun a => U a ∨ a ∈ [u])) := Ex.le fun b o hb => by
  obtain ⟨n, hb⟩ := wo_some hb
  have nb : b ≠ u := ne_of_none hb hu
  rw [wo_out fun z => z.elim n fun m => nb (List.mem_singleton.mp m), upd_ne nb]
  exact hb
/-- dict(d), one's own copy; as data -/
theorem en_dictD {d : Dc α} (hm : X.mg "dict" = none) (h : EX X a env d) (he : starEach [a] X.env = (false, eval a X.env) :: starEach [] X.env := by rfl) (hpl : (backTo pos (starEach [] X.env)).any (·.1) = false := by rfl) (hg : Gl X "dict" := by rfl) : EN X (.Call (.Name "dict" p) [a] [] pos) env (OD.mk d) :=
  en_callTy1 call_dictD hm (by decide +kernel) h (fun U v H r1 Q q => by
      obtain ⟨ad, ws, h1, h2, h3⟩ := r1
      refine ⟨ad, ws, by rw [h1], wo_le _ _ trivial h2, fun u hu => ?_⟩
      exact q (.ref u) [u] _ (Ex.new hu) (fun b hb => by rw [List.mem_singleton.mp hb]; exact hu) (fun b hb => by rw [List.mem_singleton.mp hb]; exact ⟨_, upd_same⟩) fun Hf le => ⟨u, ws, rfl, rfl, upd_same, h3.mono (Le.trans (le_new hu) le)⟩) hg (by decide) (by decide) he hpl
theorem ex_new {β : Type} [Own β] {x : β} (h : EN X e env x) (hf : ∀ K Hf H v L, Own.own K Hf H v L x → (∀ a ∈ L, Hf a = H a) → Dat.rep K Hf v y) : EX X e env y := fun O fp σ H S Q q => h O fp σ H S Q fun v L H' e1 hL hd ow => q v H' e1 (hf _ _ H' v L (ow _ (wo_mono fun a z => .inl z).le) fun a ha => wo_out fun z => by
  obtain ⟨o, q⟩ := S.bndU a z
  rw [hL a ha] at q
  cases q)
theorem ex_newL (h : EN X e env (OL.mk xs)) : EX X e env xs := ex_new h fun _ _ _ _ _ => own_frzL
theorem ex_newD {d : Dc α} (h : EN X e env (OD.mk d)) : EX X e env d := ex_new h fun _ _ _ _ _ => own_frzD
theorem ARep.all {K : PySem.W.Frag} {H : Hp} : ∀ {vs : List V} {ys : List α}, ARep K H vs (ys.map Sl.dat) → repL K H vs ys
  | [], [], _ => .nil
  | _ :: _, _ :: _, h => .cons h.1 (ARep.all h.2)
  | [], _ :: _, h => by simp [ARep] at h
  | _ :: _, [], h => by simp [ARep] at h
/-- [a, b, ..] -/
theorem en_lst (h : EA X es env (xs.map Sl.dat)) (hl : xs.length ≤ 100000 := by exact Nat.le_of_ble_eq_true rfl) : EN X (.List es pos) env (OL.mk xs) := by
  intro O fp σ H S Q q pins s I
  refine (pe_lst (mA X es)).run pins s σ H Q I ?_
  refine h O fp σ H S _ fun vs H1 e1 ar => ?_
  have rl := ARep.all ar
  refine ⟨sz_of (by rw [Paired.length rl]; exact hl), fun u hu => ?_⟩
  exact q (.ref u) [u] _ (e1.trans (Ex.new hu)) (fun b hb => by rw [List.mem_singleton.mp hb]; exact e1.free hu) (fun b hb => by rw [List.mem_singleton.mp hb]; exact ⟨_, upd_same⟩) fun Hf le => ⟨u, vs, rfl, rfl, upd_same, rl.mono (Le.trans (le_new hu) le)⟩
theorem ex_lst (h : EA X es env (xs.map Sl.dat)) (hl : xs.length ≤ 100000 := by exact Nat.le_of_ble_eq_true rfl) : EX X (.List es pos) env xs := ex_newL (en_lst h hl)
/-- list(xs) -/
theorem en_list (hm : X.mg "list" = none) (h : EX X a env xs) (he : starEach [a] X.env = (false, eval a X.env) :: starEach [] X.env := by rfl) (hpl : (backTo pos (starEach [] X.env)).any (·.1) = false := by rfl) (hg : Gl X "list" := by rfl) : EN X (.Call (.Name "list" p) [a] [] pos) env (OL.mk xs) :=
  en_callTy1 call_list_of hm (by decide +kernel) h (fun U v H r1 Q q => by
      obtain ⟨ad, ws, h1, h2, h3⟩ := r1
      refine ⟨ad, ws, by rw [h1], .inl (wo_le.lst h2), fun u hu => ?_⟩
      exact q (.ref u) [u] _ (Ex.new hu) (fun b hb => by rw [List.mem_singleton.mp hb]; exact hu) (fun b hb => by rw [List.mem_singleton.mp hb]; exact ⟨_, upd_same⟩) fun Hf le => ⟨u, ws, rfl, rfl, upd_same, h3.mono (Le.trans (le_new hu) le)⟩) hg (by decide) (by decide) he hpl
theorem ex_some (h : EX X e env x) : EX X e env (some x) := fun O fp σ H S Q q => h O fp σ H S Q fun v H' e1 r => q v H' e1 r
theorem ex_noneO (h : EX X e env ()) : EX X e env (none : Option α) := fun O fp σ H S Q q => h O fp σ H S Q fun v H' e1 r => q v H' e1 r
theorem ex_getO {m : Option α} {x0 : α} (h : EX X e env m) (g : m.isSome = true) : EX X e env (m.getD x0) := fun O fp σ H S Q q => h O fp σ H S Q fun v H' e1 r => q v H' e1 (by
  cases m with
  | none => cases g
  | some y => exact r)
end
end R
set_option maxHeartbeats 400000
set_option autoImplicit false
namespace R
open PySem PySem.Spec PyProof.Rows L2
/-! ### paths: expressions that lead to a thing that is there -/
def EPth {α : Type} [Dat α] (X : Cx) (e : Expr) (env : Env') (x : α) : Prop :=
  ∀ O fp σ H, SOk X.K O fp env σ H → ∃ v, Dat.rep X.K (wo H (UU O fp)) v x ∧ ∀ H1, Le H H1 → ∀ Q : VK, Q v H1 → tE X e σ H1 Q
section
variable {K : PySem.W.Frag} {O : Addr → Prop} {fp fp' : Nat → List Addr} {env : Env'} {σ : L2.St} {H H' : Hp}
theorem SOk.conv (S : SOk K O fp env σ H) (h1 : Le (wo H (UU O fp)) (wo H' (UU O fp))) (h2 : ∀ i a, a ∈ fp i → H' a = H a) (h3 : ∀ a o, H a = some o → ∃ o', H' a = some o') : SOk K O fp env σ H' where
  len := S.len
  bnd := fun a h => let ⟨o, q⟩ := S.bnd a h; h3 a o q
  fpO := S.fpO
  sep := S.sep
  dom := fun i a h => let ⟨o, q⟩ := S.dom i a h; h3 a o q
  sl := fun i s q => by
    have r := S.sl i s q
    cases s with
    | any => exact trivial
    | dat x =>
      obtain ⟨v, a, b⟩ := r
      exact ⟨v, a, Dat.mono h1 b⟩
    | own x =>
      obtain ⟨v, a, b⟩ := r
      exact ⟨v, a, Own.frame h1 (fun c hc => h2 i c hc) b⟩
theorem lock_le {a : Addr} {ws : List (Key × V)} {od : Obj} (h : H a = some (.dK ws)) : Le H (upd H a (.frz od (.dK ws))) := fun b w pl r => by
  by_cases e : b = a
  · subst e
    rcases r with r | ⟨o, r⟩
    · rw [h] at r; cases r; exact .inr ⟨od, upd_same⟩
    · rw [h] at r; cases r
  · rcases r with r | ⟨o, r⟩
    · exact .inl (by rw [upd_ne e]; exact r)
    · exact .inr ⟨o, by rw [upd_ne e]; exact r⟩
theorem unlock_le {a : Addr} {ws : List (Key × V)} {od : Obj} (h : H a = some (.frz od (.dK ws))) : Le H (upd H a (.dK ws)) := fun b w pl r => by
  by_cases e : b = a
  · subst e
    rcases r with r | ⟨o, r⟩
    · rw [h] at r; cases r; exact pl.elim
    · rw [h] at r; cases r; exact .inl upd_same
  · rcases r with r | ⟨o, r⟩
    · exact .inl (by rw [upd_ne e]; exact r)
    · exact .inr ⟨o, by rw [upd_ne e]; exact r⟩
theorem wo_upd_out {U : Addr → Prop} {a : Addr} {o : HO} (h : ¬ U a) : wo (upd H a o) U = upd (wo H U) a o := by
  funext b
  by_cases e : b = a
  · subst e; rw [upd_same, wo_out h, upd_same]
  · rw [upd_ne e]
    by_cases u : U b
    · rw [wo_in u, wo_in u]
    · rw [wo_out u, wo_out u, upd_ne e]
theorem SOk.lock (S : SOk K O fp env σ H) {a : Addr} {ws : List (Key × V)} {od : Obj} (h : wo H (UU O fp) a = some (.dK ws)) : SOk K O fp env σ (upd H a (.frz od (.dK ws))) := by
  obtain ⟨n, h'⟩ := wo_some h
  refine S.conv ?_ (fun i b hb => upd_ne fun e => n (.inr ⟨i, by rw [← e]; exact hb⟩)) fun b o q => ?_
  · rw [wo_upd_out n]; exact lock_le h
  · by_cases e : b = a
    · subst e; exact ⟨_, upd_same⟩
    · exact ⟨o, by rw [upd_ne e]; exact q⟩
theorem SOk.unlock (S : SOk K O fp env σ H) {a : Addr} {ws : List (Key × V)} {od : Obj} (h : H a = some (.frz od (.dK ws))) (n : ¬ UU O fp a) : SOk K O fp env σ (upd H a (.dK ws)) := by
  refine S.conv ?_ (fun i b hb => upd_ne fun e => n (.inr ⟨i, by rw [← e]; exact hb⟩)) fun b o q => ?_
  · rw [wo_upd_out n]; exact unlock_le (by rw [wo_out n]; exact h)
  · by_cases e : b = a
    · subst e; exact ⟨_, upd_same⟩
    · exact ⟨o, by rw [upd_ne e]; exact q⟩
end
section
variable {X : Cx} {W : WX} {env env' : Env'} {ρ α β γ : Type} [Dat ρ] [Dat α] [Dat β] [Dat γ] {po : Po ρ} {x : α} {y : β} {z : γ} {e a b c tg iter o : Expr} {es : List Expr} {pos p p2 pc p3 apos cpos : Pos} {rest body : List Stmt} {xs : List α}
theorem ep_var {i : Nat} {n : Str} {pos : Pos} (h : env[i]? = some (Sl.dat x)) (hN : X.N[i]? = some n := by rfl) (hv : Vis X.env.scope n := by first | exact Or.inl rfl | exact Or.inr (Or.inl rfl) | exact Or.inr (Or.inr rfl)) (hd : (n == ("__debug__" : Str)) = false := by decide) (hc : (n == ("__classdict__" : Str)) = false := by decide) : EPth X (.Name n pos) env x := fun O fp σ H S => by
  obtain ⟨v, h1, h2⟩ := S.sl i _ h
  exact ⟨v, h2, fun H1 le Q q pins s I => (pe_var hN hv hd hc).run pins s σ H1 Q I ⟨v, h1, q⟩⟩
theorem ep_ixT {τ : Type} [Dat τ] [T : Tup τ] {p : τ} {k j : Nat} {pos' : Pos} (h : EPth X a env p) (g : (T.comps p)[k]? = some (.dat x)) : EPth X (.Subscript a (.Constant (.int (k : Int)) j pos') pos) env x := fun O fp σ H S => by
  obtain ⟨v, h1, h2⟩ := h O fp σ H S
  rw [T.is] at h1
  obtain ⟨ad, vs, e, t, r⟩ := h1
  obtain ⟨u, hu, ru⟩ := r.get g
  refine ⟨u, ru, fun H1 le Q q pins s I => (pe_ix ix_tup (mE X a) pe_int (fun _ _ => rfl)).run pins s σ H1 Q I ?_⟩
  exact h2 H1 le _ ⟨ad, vs, k, u, e, rfl, le.tup (wo_le.tup t), atI_nat hu, q⟩
/-- a loop over what a dict has: J its turns, xs what they give -/
theorem sx_forD {S : Type} {δ : Type} [Dat δ] {d : Dc δ} (u : S → Env') (I : List α → S → Prop) (s0 : S) (J : Addr → Obj → List (Key × V) → It) (wi : TI) (hc : X.calm = true) (hp : PassesOwn (model X.prog X.w) X.A X.env X.xe) (hPI : PI X tg iter wi)
    (hw : ∀ σ H1 ad od ws (R : It → Hp → Prop), H1 ad = some (.frz od (.dK ws)) → (∀ Q : VK, Q (.ref ad) H1 → tE X e σ H1 Q) → R (J ad od ws) H1 → wi σ H1 R)
    (hy : ∀ U H1 ad od ws, wo H1 U ad = some (.frz od (.dK ws)) → repD X.K (wo H1 U) ws d.kvs → Yields X.K (J ad od ws) U H1 xs)
    (he : EPth X e env d) (h0 : Sub env (u s0)) (hI : I xs s0)
    (hb : ∀ x r s, I (x :: r) s → ∃ e1, GX X tg x (u s) e1 ∧ SX X W body e1 { po with N := fun e => ∃ s', Sub e (u s') ∧ I r s', C := fun e => ∃ s', Sub e (u s') ∧ I r s', B := fun e => ∃ s', Sub e (u s') ∧ I [] s', X := fun _ _ => False })
    (hd : ∀ s, I [] s → SX X W rest (u s) po) (hs : ∀ x, foldedSetIterable iter X.env x = pure x := by intro _; rfl) : SX X W (.For tg iter body [] pos :: rest) env po :=
  sx_cons (fun e => ∃ s, Sub e (u s) ∧ I [] s) (fun O fp σ H S' D G => by
    intro pins s In
    obtain ⟨v, ⟨ad, ws, rfl, rd, rl⟩, hpth⟩ := he O fp σ H S'
    have key : ∀ (H1 : Hp) (od : Obj) (D1 : Ends), Le H H1 → H1 ad = some (.frz od (.dK ws)) → SOk X.K O fp env σ H1 → wo H1 (UU O fp) ad = some (.frz od (.dK ws)) → repD X.K (wo H1 (UU O fp)) ws d.kvs → Goes X.K X.mg W { po with N := fun e => (∃ s, Sub e (u s) ∧ I [] s) ∨ ∃ s, Sub e (u s) ∧ I [] s, X := fun _ _ => False } O fp H1 D1 →
        tFor (tI X tg iter) (tG X tg) (tSs X body) D1 σ H1 := fun H1 od D1 le hl S1 hv hr G1 =>
      for_core (po := { po with X := fun _ _ => False }) u I (fun e => ∃ s, Sub e (u s) ∧ I [] s) s0 S1 (fun R r pins s In => hPI.run pins s σ H1 R In (hw σ H1 ad od ws R hl (fun Q q => hpth H1 le Q q) (r _ H1 (Ex.refl _) (hy _ H1 ad od ws hv hr)))) h0 hI hb G1
    have pf := ps_for (pos := pos) hp hc (mI X tg iter) (mG X tg) (mSs X body) hs
    rcases rd with rd | ⟨od, rd⟩
    · obtain ⟨n, rd'⟩ := wo_some rd
      refine (ps_lock pf).run pins s σ H D In ⟨ad, .dK ws, rd', trivial, fun od => ?_⟩
      refine key _ od _ (lock_le rd') upd_same (S'.lock rd) (by rw [wo_out n, upd_same]) (rl.mono (by rw [wo_upd_out n]; exact lock_le rd)) ?_
      have nf : ¬ ∃ i, ad ∈ fp i := fun z => n (.inr z)
      have un : ∀ {fp' : Nat → List Addr} {H' : Hp}, Keep fp (upd H ad (.frz od (.dK ws))) fp' H' → H' ad = some (.frz od (.dK ws)) ∧ Keep fp H fp' (upd H' ad (.dK ws)) ∧ ¬ UU O fp' ad := fun {fp' H'} kp => by
        have h1 := kp.1 ad _ nf upd_same
        refine ⟨h1, ⟨fun b o nb q => ?_, fun i b hb => ?_⟩, ?_⟩
        · by_cases e : b = ad
          · subst e; rw [rd'] at q; cases q; exact upd_same
          · rw [upd_ne e]
            exact kp.1 b o nb (by rw [upd_ne e]; exact q)
        · rcases kp.2 i b hb with z | z
          · exact .inl z
          · refine .inr ?_
            have e : b ≠ ad := fun e => by subst e; rw [upd_same] at z; cases z
            rw [upd_ne e] at z
            exact z
        · rintro (z | ⟨i, z⟩)
          · exact n (.inl z)
          · rcases kp.2 i ad z with y | y
            · exact nf y
            · rw [upd_same] at y; cases y
      refine ⟨fun e' f s2 h m k q => ?_, fun r e' f s2 v h m k q rp => ?_, fun _ _ _ _ _ _ _ m => m.elim, fun e' f s2 h m k q => ?_, fun e' f s2 h m k q => ?_⟩
      · obtain ⟨a1, a2, a3⟩ := un k
        exact ⟨a1, G.nx e' f s2 _ (m.elim id id) a2 (q.unlock a1 a3)⟩
      · obtain ⟨a1, a2, a3⟩ := un k
        refine ⟨a1, G.rt r e' f s2 v _ m a2 (q.unlock a1 a3) (Dat.mono ?_ rp)⟩
        rw [wo_upd_out a3]
        exact unlock_le (by rw [wo_out a3]; exact a1)
      · obtain ⟨a1, a2, a3⟩ := un k
        exact ⟨a1, G.bk e' f s2 _ m a2 (q.unlock a1 a3)⟩
      · obtain ⟨a1, a2, a3⟩ := un k
        exact ⟨a1, G.ct e' f s2 _ m a2 (q.unlock a1 a3)⟩
    · obtain ⟨n, rd'⟩ := wo_some rd
      refine pf.run pins s σ H D In (key H od D (Le.refl H) rd' S' rd rl ⟨fun e' f s2 h m k q => G.nx e' f s2 h (m.elim id id) k q, G.rt, fun _ _ _ _ _ _ _ m => m.elim, G.bk, G.ct⟩)) fun e ⟨s, h, q⟩ => sx_sub h (hd s q)
theorem repD.get {δ : Type} [Dat δ] {K : PySem.W.Frag} {H : Hp} : ∀ {ws : List (Key × V)} {kvs : List (Str × δ)} {i : Nat} {k : Str} {x : δ}, repD K H ws kvs → kvs[i]? = some (k, x) → ∃ v, ws[i]? = some (.inr k, v) ∧ Dat.rep K H v x
  | _, _, i, k, x, .nil, q => by simp at q
  | (k1, v1) :: _, (k2, x2) :: _, 0, k, x, .cons h t, q => by
    have q : (k2, x2) = (k, x) := by simpa using q
    cases q
    obtain ⟨h1, h2⟩ := h
    have h1 : k1 = .inr k2 := h1
    subst h1
    exact ⟨v1, rfl, h2⟩
  | _, _, i + 1, k, x, .cons h t, q => by
    have := repD.get (i := i) (k := k) (x := x) t (by simpa using q)
    simpa using this
theorem yields_items {δ : Type} [Dat δ] {d : Dc δ} (K : PySem.W.Frag) : ∀ U H1 ad od ws, wo H1 U ad = some (.frz od (.dK ws)) → repD K (wo H1 U) ws d.kvs → Yields K (Iti ad od ws) U H1 d.kvs := fun U H1 ad od ws hv hr H' U' bn ex i => by
  have hl : H' ad = some (.frz od (.dK ws)) := (wo_some (ex ad _ hv)).2
  refine ⟨fun ⟨k, x⟩ hx => ?_, fun hi => ⟨hl, by rw [Paired.length hr]; exact hi⟩⟩
  obtain ⟨v, hv2, rv⟩ := hr.get hx
  refine ⟨⟨hl, (List.getElem?_eq_some_iff.mp hv2).1⟩, fun u H'' ⟨T, k', v', g, e1, e2, e3⟩ => ?_⟩
  rw [hv2] at g
  cases g
  subst e1 e3
  have n : ¬ U' T := fun z => by obtain ⟨o, q⟩ := bn T z; rw [e2] at q; cases q
  exact ⟨Ex.new e2, T, [_, _], rfl, .inl (.inl (upd_out n)), rfl, Dat.mono (ex.le.trans (wo_ex (Ex.new e2)).le) rv, trivial⟩
theorem yields_values {δ : Type} [Dat δ] {d : Dc δ} (K : PySem.W.Frag) : ∀ U H1 ad od ws, wo H1 U ad = some (.frz od (.dK ws)) → repD K (wo H1 U) ws d.kvs → Yields K (Itd ad od ws) U H1 (d.kvs.map (·.2)) := fun U H1 ad od ws hv hr H' U' bn ex i => by
  have hl : H' ad = some (.frz od (.dK ws)) := (wo_some (ex ad _ hv)).2
  refine ⟨fun x hx => ?_, fun hi => ⟨hl, by rw [Paired.length hr]; simpa using hi⟩⟩
  rw [List.getElem?_map] at hx
  cases hk : d.kvs[i]? with
  | none => rw [hk] at hx; cases hx
  | some kx =>
    obtain ⟨k, x'⟩ := kx
    rw [hk] at hx
    have hx : x' = x := by simpa using hx
    subst hx
    obtain ⟨v, hv2, rv⟩ := hr.get hk
    refine ⟨⟨hl, (List.getElem?_eq_some_iff.mp hv2).1⟩, fun u H'' ⟨e1, k', g⟩ => ?_⟩
    rw [hv2] at g
    cases g
    subst e1
    exact ⟨Ex.refl _, Dat.mono ex.le rv⟩
theorem yields_keys {δ : Type} [Dat δ] {d : Dc δ} (K : PySem.W.Frag) : ∀ U H1 ad od ws, wo H1 U ad = some (.frz od (.dK ws)) → repD K (wo H1 U) ws d.kvs → Yields K (Itk ad od ws) U H1 (d.kvs.map (·.1)) := fun U H1 ad od ws hv hr H' U' bn ex i => by
  have hl : H' ad = some (.frz od (.dK ws)) := (wo_some (ex ad _ hv)).2
  refine ⟨fun x hx => ?_, fun hi => ⟨hl, by rw [Paired.length hr]; simpa using hi⟩⟩
  rw [List.getElem?_map] at hx
  cases hk : d.kvs[i]? with
  | none => rw [hk] at hx; cases hx
  | some kx =>
    obtain ⟨k, x'⟩ := kx
    rw [hk] at hx
    have hx : k = x := by simpa using hx
    subst hx
    obtain ⟨v, hv2, rv⟩ := hr.get hk
    refine ⟨⟨hl, (List.getElem?_eq_some_iff.mp hv2).1⟩, fun u H'' ⟨e1, k', v', g, e2⟩ => ?_⟩
    rw [hv2] at g
    cases g
    subst e1 e2
    exact ⟨Ex.refl _, rfl⟩
theorem hw_items : ∀ σ H1 ad od ws (R : It → Hp → Prop), H1 ad = some (.frz od (.dK ws)) → (∀ Q : VK, Q (.ref ad) H1 → tE X e σ H1 Q) → R (Iti ad od ws) H1 → iItems (tE X e) σ H1 R := fun σ H1 ad od ws R hl hp r => hp _ ⟨ad, od, ws, rfl, hl, r⟩
theorem hw_values : ∀ σ H1 ad od ws (R : It → Hp → Prop), H1 ad = some (.frz od (.dK ws)) → (∀ Q : VK, Q (.ref ad) H1 → tE X e σ H1 Q) → R (Itd ad od ws) H1 → iVals (tE X e) σ H1 R := fun σ H1 ad od ws R hl hp r => hp _ ⟨ad, od, ws, rfl, hl, r⟩
theorem hw_keys : ∀ σ H1 ad od ws (R : It → Hp → Prop), H1 ad = some (.frz od (.dK ws)) → (∀ Q : VK, Q (.ref ad) H1 → tE X e σ H1 Q) → R (Itk ad od ws) H1 → iKeys (tE X e) σ H1 R := fun σ H1 ad od ws R hl hp r => hp _ ⟨ad, od, rfl, .inl ⟨ws, hl, r⟩⟩
theorem hw_keysM : ∀ σ H1 ad od ws (R : It → Hp → Prop), H1 ad = some (.frz od (.dK ws)) → (∀ Q : VK, Q (.ref ad) H1 → tE X e σ H1 Q) → R (Itk ad od ws) H1 → iKeysM (tE X e) σ H1 R := fun σ H1 ad od ws R hl hp r => hp _ ⟨ad, od, ws, rfl, hl, r⟩
theorem sx_forDF' {S : Type} {δ : Type} [Dat δ] {d : Dc δ} (uu : S → Env' → Env') (step : S → α → S) (okb : S → α → Prop) (s0 : S) {J : Addr → Obj → List (Key × V) → It} {wi : TI} (hc : X.calm = true) (hp : PassesOwn (model X.prog X.w) X.A X.env X.xe) (hPI : PI X tg iter wi)
    (hw : ∀ σ H1 ad od ws (R : It → Hp → Prop), H1 ad = some (.frz od (.dK ws)) → (∀ Q : VK, Q (.ref ad) H1 → tE X e σ H1 Q) → R (J ad od ws) H1 → wi σ H1 R)
    (hy : ∀ U H1 ad od ws, wo H1 U ad = some (.frz od (.dK ws)) → repD X.K (wo H1 U) ws d.kvs → Yields X.K (J ad od ws) U H1 xs)
    (he : EPth X e env d) (h0 : Sub env (uu s0 env)) (hk : okFold okb step s0 xs)
    (hb : ∀ x s, okb s x → ∃ e1, GX X tg x (uu s env) e1 ∧ SX X W body e1 { po with N := fun e => Sub e (uu (step s x) env), C := fun e => Sub e (uu (step s x) env), B := fun _ => False, X := fun _ _ => False })
    (hd : SX X W rest (uu (xs.foldl step s0) env) po) (hs : ∀ x, foldedSetIterable iter X.env x = pure x := by intro _; rfl) : SX X W (.For tg iter body [] pos :: rest) env po :=
  sx_forD (fun s => uu s env) (fun r s => okFold okb step s r ∧ r.foldl step s = xs.foldl step s0) s0 J wi hc hp hPI hw hy he h0 ⟨hk, rfl⟩ (fun x r s ⟨⟨h1, h2⟩, h3⟩ => by
    obtain ⟨e1, g, b⟩ := hb x s h1
    exact ⟨e1, g, b.imp (fun e h => ⟨step s x, h, h2, h3⟩) (fun _ _ h => h) (fun _ _ h => h) (fun _ h => h.elim) (fun e h => ⟨step s x, h, h2, h3⟩)⟩) (fun s ⟨_, h⟩ => by
    have h : s = xs.foldl step s0 := h
    subst h
    exact hd) hs
theorem sx_forDR' {S T : Type} {δ : Type} [Dat δ] {d : Dc δ} (uu : S → Env' → Env') (step : S → α → Stp S T) (okb : S → α → Prop) (s0 : S) {J : Addr → Obj → List (Key × V) → It} {wi : TI} (hc : X.calm = true) (hp : PassesOwn (model X.prog X.w) X.A X.env X.xe) (hPI : PI X tg iter wi)
    (hw : ∀ σ H1 ad od ws (R : It → Hp → Prop), H1 ad = some (.frz od (.dK ws)) → (∀ Q : VK, Q (.ref ad) H1 → tE X e σ H1 Q) → R (J ad od ws) H1 → wi σ H1 R)
    (hy : ∀ U H1 ad od ws, wo H1 U ad = some (.frz od (.dK ws)) → repD X.K (wo H1 U) ws d.kvs → Yields X.K (J ad od ws) U H1 xs)
    (he : EPth X e env d) (h0 : Sub env (uu s0 env)) (hk : okRun okb step s0 xs)
    (hb : ∀ x r s, okb s x → (runL step s (x :: r) = runL step s0 xs) → ∃ e1, GX X tg x (uu s env) e1 ∧ SX X W body e1 { po with N := fun e => ∃ s', step s x = .go s' ∧ Sub e (uu s' env), C := fun e => ∃ s', step s x = .go s' ∧ Sub e (uu s' env), B := fun _ => False, X := fun _ _ => False })
    (hd : ∀ s, (runL step s0 xs = .go s ∨ runL step s0 xs = .brk s) → SX X W rest (uu s env) po) (hs : ∀ x, foldedSetIterable iter X.env x = pure x := by intro _; rfl) : SX X W (.For tg iter body [] pos :: rest) env po :=
  sx_forD (fun s => uu s env) (fun r s => okRun okb step s r ∧ runL step s r = runL step s0 xs) s0 J wi hc hp hPI hw hy he h0 ⟨hk, rfl⟩ (fun x r s ⟨⟨h1, h2⟩, h3⟩ => by
    obtain ⟨e1, g, b⟩ := hb x r s h1 h3
    have go : ∀ e, (∃ s', step s x = .go s' ∧ Sub e (uu s' env)) → ∃ s', Sub e (uu s' env) ∧ okRun okb step s' r ∧ runL step s' r = runL step s0 xs := fun e ⟨s', q, sb⟩ => by
      rw [q] at h2
      have h4 : runL step s (x :: r) = runL step s' r := by
        show (match step s x with | .go s' => runL step s' r | .brk s' => .brk s' | .ret r => .ret r) = _
        rw [q]
      exact ⟨s', sb, h2, h4.symm.trans h3⟩
    exact ⟨e1, g, b.imp go (fun _ _ h => h) (fun _ _ h => h) (fun _ h => h.elim) go⟩) (fun s ⟨_, h⟩ => hd s (.inl h.symm)) hs
/-! ### try -/
def tryV {S : Type} (b : Except Exn S) (h : Exn → S) : S := match b with | .ok s => s | .error e => h e
theorem tryV_ok {S : Type} {b : Except Exn S} {h : Exn → S} {s : S} (q : b = .ok s) : tryV b h = s := by subst q; rfl
theorem tryV_err {S : Type} {b : Except Exn S} {h : Exn → S} {e : Exn} (q : b = .error e) : tryV b h = h e := by subst q; rfl
def exnIn (l : List Str) : Exn → Bool
  | .one c => l.contains c
  | .clash _ _ => l.contains ("Clash" : Str)
  | .stuck _ _ _ => l.contains ("Stuck" : Str)
/-- a clause's class: which of the known errors it takes -/
structure CatC (K : PySem.W.Frag) (mg : Str → Option Value) (all some' : List Str) (x : Str) : Prop where
  ex : ∃ cv, mg x = some cv ∧ ∀ e Hf cls d, exnIn all e = true → ExAt mg K Hf e cls d → PySem.W.exmOne K cls cv = some (exnIn some' e)
/-- the class of an error as the clause's class takes it -/
theorem sx_tryO {x : Str} {cv : Value} {np ps' : Pos} {b0 : Stmt} {suite : List Stmt} (M : Env' → Prop) (Xb : Exn → Env' → Prop) (cat : Exn → Bool) (hs : X.stack = X.env :: X.outer) (hf : X.env.frame = some X.env.locals) (hc : Names X x cv) (tk : Takes X W)
    (hb : ∀ (W' : WX) (pn : List (Addr × Obj)) (xe : Value → Shared → Prop), Takes (X.tr pn xe) W' → PassesOwn (model X.prog X.w) X.A X.env xe → SX (X.tr pn xe) W' body env { po with N := M, X := Xb })
    (hk : ∀ e env', Xb e env' → ∀ Hf cls d, ExAt X.mg X.K Hf e cls d → PySem.W.exmOne X.K cls cv = some (cat e))
    (hsu : ∀ e env', Xb e env' → cat e = true → ∀ (ad : Addr) (oe : Obj) (cls : Value) (d : Option Addr) (pn : List (Addr × Obj)), Zc cls d oe → (∃ vs, oe.data = .fields vs) → SX (X.suite ad ((ad, oe) :: pn)) W (b0 :: suite) env' { po with N := M })
    (hn : ∀ e env', Xb e env' → cat e = false → po.X e env') (hr : ∀ e, M e → SX X W rest e po) : SX X W (.Try body [.ExceptHandler (some (.Name x np)) none (b0 :: suite) ps'] [] [] pos :: rest) env po :=
  sx_cons M (s1_of (ps_try_only (tb := fun W' D σ H => ∀ pn xe, Takes (X.tr pn xe) W' → PassesOwn (model X.prog X.w) X.A X.env xe → tSs (X.tr pn xe) body D σ H) (ts := fun ad cls d D σ H => ∀ oe pn, Zc cls d oe → (∃ vs, oe.data = .fields vs) → tSs (X.suite ad ((ad, oe) :: pn)) (b0 :: suite) D σ H) hs hf hc tk
    (fun W' pn xe t q => ⟨fun pins s σ H D I h => h pn xe t q pins s I⟩) (fun ad oe cls d pn hz hfd => ⟨fun pins s σ H D I h => h oe pn hz hfd pins s I⟩)) fun O fp σ H S D G => fun pn xe t q => hb _ pn xe t q O fp σ H S D ⟨G.nx, G.rt, fun e env' fp' σ' cls d H' hx kp S' xa => by
      refine ⟨cat e, hk e env' hx _ cls d xa, fun hce ad ha oe pn hz hfd => ?_, fun hce => G.ex e env' fp' σ' cls d H' (hn e env' hx hce) kp S' xa⟩
      exact hsu e env' hx hce ad oe cls d pn hz hfd O fp' σ' H' S' D (G.step kp), G.bk, G.ct⟩) hr
/-- try: .. except X: .. in a def where all that is raised is caught -/
theorem sx_tryO' {S : Type} {x : Str} {np ps' : Pos} {b0 : Stmt} {suite : List Stmt} {all some' : List Str} (uu : S → Env' → Env') (m : Except Exn S) (h : Exn → S) (hs : X.stack = X.env :: X.outer) (hf : X.env.frame = some X.env.locals) (cc : CatC X.K X.mg all some' x) (tk : Takes X W)
    (hv : ∀ e, m = .error e → exnIn all e = true ∧ exnIn some' e = true)
    (hb : ∀ (W' : WX) (pn : List (Addr × Obj)) (xe : Value → Shared → Prop), Takes (X.tr pn xe) W' → PassesOwn (model X.prog X.w) X.A X.env xe → SX (X.tr pn xe) W' body env { po with N := fun e => ∃ s, m = .ok s ∧ Sub e (uu s env), X := fun e env' => m = .error e ∧ env' = env })
    (hsu : ∀ e, m = .error e → ∀ (ad : Addr) (oe : Obj) (cls : Value) (d : Option Addr) (pn : List (Addr × Obj)), Zc cls d oe → (∃ vs, oe.data = .fields vs) → SX (X.suite ad ((ad, oe) :: pn)) W (b0 :: suite) env { po with N := fun e' => Sub e' (uu (h e) env) })
    (hr : SX X W rest (uu (tryV m h) env) po) (hg : Gl X x := by rfl) (hdb : (x == ("__debug__" : Str)) = false := by decide) : SX X W (.Try body [.ExceptHandler (some (.Name x np)) none (b0 :: suite) ps'] [] [] pos :: rest) env po := by
  obtain ⟨cv, hm, hx⟩ := cc.ex
  refine sx_tryO (fun e => Sub e (uu (tryV m h) env)) (fun e env' => m = .error e ∧ env' = env) (exnIn some') hs hf ⟨hg, hdb, .inl hm⟩ tk (fun W' pn xe t q => (hb W' pn xe t q).imp (fun e ⟨s, h1, h2⟩ => by rw [tryV_ok h1]; exact h2) (fun _ _ h => h) (fun _ _ h => h) (fun _ h => h) (fun _ h => h)) (fun e env' ⟨h1, _⟩ Hf cls d xa => hx e Hf cls d (hv e h1).1 xa) (fun e env' ⟨h1, h2⟩ _ ad oe cls d pn hz hfd => ?_) (fun e env' ⟨h1, _⟩ h2 => by rw [(hv e h1).2] at h2; cases h2) fun e h => sx_sub h hr
  subst h2
  exact (hsu e h1 ad oe cls d pn hz hfd).imp (fun e' h => by rw [tryV_err h1]; exact h) (fun _ _ h => h) (fun _ _ h => h) (fun _ h => h) (fun _ h => h)
end
end R
set_option maxHeartbeats 400000
set_option autoImplicit false
namespace R
open PySem PySem.Spec PyProof.Rows L2
/-! ### comprehensions -/
def wipeE (env : Env') : List Nat → Env'
  | [] => env
  | v :: vs => (wipeE env vs).set v .any
theorem SOk.wipe {K : PySem.W.Frag} {O : Addr → Prop} {fp : Nat → List Addr} {env : Env'} {σ : L2.St} {H : Hp} (S : SOk K O fp env σ H) : ∀ vs : List Nat, SOk K O fp (wipeE env vs) (L2.wipe σ vs) H
  | [] => S
  | v :: vs => (SOk.wipe S vs).forget v
/-- an own list in the making, out of sight -/
theorem SOk.hide {K : PySem.W.Frag} {O : Addr → Prop} {fp : Nat → List Addr} {env : Env'} {σ : L2.St} {H : Hp} {D : Addr} {o : HO} (S : SOk K O fp env σ H) (hD : H D = none) : SOk K (fun a => O a ∨ a = D) fp env σ (upd H D o) := by
  have nD : ¬ UU O fp D := S.fresh hD
  have le : Le (wo H (UU O fp)) (wo (upd H D o) (UU (fun a => O a ∨ a = D) fp)) := Ex.le fun b w h => by
    obtain ⟨n, q⟩ := wo_some h
    have nb : b ≠ D := ne_of_none q hD
    rw [wo_out, upd_ne nb]
    · exact q
    · rintro ((z | z) | z)
      · exact n (.inl z)
      · exact nb z
      · exact n (.inr z)
  exact {
    len := S.len
    bnd := fun a h => by
      rcases h with h | h
      · obtain ⟨w, q⟩ := S.bnd a h
        exact ⟨w, by rw [upd_ne (ne_of_none q hD)]; exact q⟩
      · subst h; exact ⟨o, upd_same⟩
    fpO := fun i a h => by
      rintro (z | z)
      · exact S.fpO i a h z
      · subst z; exact nD (.inr ⟨i, h⟩)
    sep := S.sep
    dom := fun i a h => by
      obtain ⟨w, q⟩ := S.dom i a h
      exact ⟨w, by rw [upd_ne (ne_of_none q hD)]; exact q⟩
    sl := fun i s q => by
      have r := S.sl i s q
      cases s with
      | any => exact trivial
      | dat x =>
        obtain ⟨v, a, b⟩ := r
        exact ⟨v, a, Dat.mono le b⟩
      | own x =>
        obtain ⟨v, a, b⟩ := r
        refine ⟨v, a, Own.frame le (fun c hc => ?_) b⟩
        obtain ⟨w, q⟩ := S.dom i c hc
        rw [upd_ne (ne_of_none q hD)] }
section
variable {X : Cx} {W : WX} {env env' : Env'} {ρ α β γ : Type} [Dat ρ] [Dat α] [Dat β] [Dat γ] {po : Po ρ} {x : α} {y : β} {z : γ} {e a b c tg iter o : Expr} {es : List Expr} {pos p p2 pc p3 apos cpos : Pos} {rest body : List Stmt} {xs : List α}
/-- the block's contexts -/
abbrev Blk (X : Cx) (scope : Scope) (Φ : Cx → Prop) : Prop := ∀ (s : Shared) (H : Hp) (C : Addr) (cl : List (Str × Addr)) (fp : List Addr), Φ (X.blk s H scope (compEnvC scope cl C X.env) fp)
def tEb (X : Cx) (scope : Scope) (e : Expr) : TE := fun σ H Q => Blk X scope fun Y => tE Y e σ H Q
def tTb (X : Cx) (scope : Scope) (e : Expr) : TT := fun σ H Q => Blk X scope fun Y => tT Y e σ H Q
theorem mEb {scope : Scope} {e : Expr} (s : Shared) (H : Hp) (C : Addr) (cl : List (Str × Addr)) (fp : List Addr) : PE (X.blk s H scope (compEnvC scope cl C X.env) fp) e (tEb X scope e) := ⟨fun pins s1 σ H1 Q I h => h s H C cl fp pins s1 I⟩
theorem mTb {scope : Scope} {e : Expr} (s : Shared) (H : Hp) (C : Addr) (cl : List (Str × Addr)) (fp : List Addr) : PTs (X.blk s H scope (compEnvC scope cl C X.env) fp) [e] (tTb X scope e) := pts_one ⟨fun pins s1 σ H1 Q I h => h s H C cl fp pins s1 I⟩
/-- how a target stores an item: its own slots only -/
structure TgOk (α : Type) [Dat α] (X : Cx) (g : TG) (vs : List Nat) (env : Env') (mk : α → Env') : Prop where
  run : ∀ (x : α) O fp σ H v, SOk X.K O fp env σ H → Dat.rep X.K (wo H (UU O fp)) v x → L2.wipe σ vs = σ → ∀ Q : L2.St → Hp → Prop, (∀ σ', SOk X.K O fp (mk x) σ' H → L2.wipe σ' vs = σ → Q σ' H) → g v σ H Q
/-- what a comprehension gives -/
theorem lc_ev {scope : Scope} {tt : TT} {g : TG} {vs : List Nat} (mk : α → Env') (f : α → β) (t : α → Bool) (hi : IX X tg iter env xs) (hz : xs.length ≤ 100000) (hg : TgOk α X g vs (wipeE env vs) mk) (hww : ∀ σ : L2.St, L2.wipe (L2.wipe σ vs) vs = L2.wipe σ vs)
    (ht : ∀ x ∈ xs, EvT X.K tt (mk x) (t x)) (he : ∀ x ∈ xs, t x = true → Ev X.K (tEb X scope e) (mk x) (f x)) :
    ∀ O fp σ H, SOk X.K O fp env σ H → ∀ Q : VK, (∀ v L H', Ex H H' → (∀ a ∈ L, H a = none) → (∀ a ∈ L, ∃ o, H' a = some o) → (∀ Hf, Le (wo H' (fun a => UU O fp a ∨ a ∈ L)) Hf → Own.own X.K Hf H' v L (OL.mk ((xs.filter t).map f))) → Q v H') → tLc (tI X tg iter) g tt (tEb X scope e) vs σ H Q := by
  intro O fp σ H S Q q
  refine hi O fp σ H S _ fun J H1 e1 yl D hD => ?_
  have S1 := S.ex e1
  have S2 := S1.hide (o := .lst []) hD
  have hU : ∀ a, UU (fun a => O a ∨ a = D) fp a ↔ (UU O fp a ∨ a = D) := fun a => by
    constructor
    · rintro ((z | z) | z)
      · exact .inl (.inl z)
      · exact .inr z
      · exact .inl (.inr z)
    · rintro ((z | z) | z)
      · exact .inl (.inl z)
      · exact .inr z
      · exact .inl (.inr z)
  -- where one stands at turn i
  let Pv : Nat → Hp → Prop := fun i H' => ∃ ws, H' D = some (.lst ws) ∧ (∀ a o, a ≠ D → H1 a = some o → H' a = some o) ∧ repL X.K (wo H' (UU (fun a => O a ∨ a = D) fp)) ws (((xs.take i).filter t).map f)
  have SP : ∀ i H', Pv i H' → SOk X.K (fun a => O a ∨ a = D) fp env σ H' := fun i H' ⟨ws, h1, h2, _⟩ => by
    refine S2.conv (Ex.le fun a o hq => ?_) (fun j a ha => ?_) fun a o hq => ?_
    · obtain ⟨n, hq⟩ := wo_some hq
      have na : a ≠ D := fun z => n ((hU a).mpr (.inr z))
      rw [upd_ne na] at hq
      rw [wo_out n]
      exact h2 a o na hq
    · obtain ⟨o, hq⟩ := S1.dom j a ha
      have na : a ≠ D := ne_of_none hq hD
      rw [h2 a o na hq, upd_ne na, hq]
    · by_cases na : a = D
      · subst na; exact ⟨_, h1⟩
      · rw [upd_ne na] at hq; exact ⟨o, h2 a o na hq⟩
  have YL : ∀ i H', Pv i H' → (∀ x, xs[i]? = some x → J.go i H' ∧ ∀ v H'', J.yld i H' v H'' → Ex H' H'' ∧ Dat.rep X.K (wo H'' (UU (fun a => O a ∨ a = D) fp)) v x) ∧ (xs.length ≤ i → J.stop i H') := fun i H' pv => by
    refine yl H' _ (SP i H' pv).bndU (fun a o hq => ?_) i
    obtain ⟨ws, h1, h2, _⟩ := pv
    obtain ⟨n, hq⟩ := wo_some hq
    have na : a ≠ D := ne_of_none hq hD
    rw [wo_out fun z => ((hU a).mp z).elim n na]
    exact h2 a o na hq
  refine ⟨fun i m H' => m = xs.length - i ∧ i ≤ xs.length ∧ Pv i H', ⟨xs.length, by simp, Nat.zero_le _, [], upd_same, fun a o na h => by rw [upd_ne na]; exact h, .nil⟩, ?_⟩
  rintro i m H2 ⟨rfl, hle, pv⟩
  obtain ⟨y1, y2⟩ := YL i H2 pv
  by_cases hlt : i < xs.length
  · obtain ⟨x, hx⟩ : ∃ x, xs[i]? = some x := ⟨_, List.getElem?_eq_getElem hlt⟩
    have hm : x ∈ xs := List.mem_of_getElem? hx
    obtain ⟨go, yy⟩ := y1 x hx
    refine .inr ⟨go, Pv (i + 1), fun H' p' => ⟨_, by omega, rfl, hlt, p'⟩, fun v H3 yv => ?_⟩
    obtain ⟨e3, rv⟩ := yy v H3 yv
    have S3 := (SP i H2 pv).ex e3
    obtain ⟨ws, h1, h2, h3⟩ := pv
    have tk : xs.take (i + 1) = xs.take i ++ [x] := by rw [List.take_add_one, hx]; rfl
    refine hg.run x _ fp _ H3 v (S3.wipe vs) rv (hww σ) _ fun σ4 S4 w4 => ⟨w4.trans rfl, ?_⟩
    refine ht x hm _ fp σ4 H3 S4 _ fun H5 e5 => ?_
    cases htx : t x with
    | true =>
      show tEb X scope e σ4 H5 _
      refine he x hm htx _ fp σ4 H5 (S4.ex e5) _ fun y H6 e6 ry => ?_
      have e36 : Ex H2 H6 := (e3.trans e5).trans e6
      refine ⟨ws, e36 D _ h1, ?_, ws ++ [y], upd_same, fun a o na h => by rw [upd_ne na]; exact e36 a o (h2 a o na h), ?_⟩
      · have := Paired.length h3
        rw [List.length_map] at this
        have l2 := List.length_filter_le t (xs.take i)
        have l3 : (xs.take i).length ≤ xs.length := by rw [List.length_take]; omega
        exact Nat.lt_of_lt_of_le (show ws.length < 100001 by omega) (by decide)
      · rw [tk, List.filter_append, List.map_append]
        have : (List.filter t [x]).map f = [f x] := by simp [htx]
        rw [this, wo_upd_in (show UU (fun a => O a ∨ a = D) fp D from (hU D).mpr (.inr rfl))]
        exact Paired.app (h3.mono (wo_ex e36).le) ry
    | false =>
      show Pv (i + 1) H5
      have e35 : Ex H2 H5 := e3.trans e5
      refine ⟨ws, e35 D _ h1, fun a o na h => e35 a o (h2 a o na h), ?_⟩
      rw [tk, List.filter_append, List.map_append]
      have : (List.filter t [x]).map f = [] := by simp [htx]
      rw [this, List.append_nil]
      exact h3.mono (wo_ex e35).le
  · have ei : i = xs.length := by omega
    subst ei
    obtain ⟨ws, h1, h2, h3⟩ := pv
    have ek : ∀ a o, H1 a = some o → H2 a = some o := fun a o h => h2 a o (ne_of_none h hD) h
    refine .inl ⟨y2 (Nat.le_refl _), q (.ref D) [D] H2 (e1.trans ek) (fun a ha => by rw [List.mem_singleton.mp ha]; exact e1.free hD) (fun a ha => by rw [List.mem_singleton.mp ha]; exact ⟨_, h1⟩) fun Hf le => ⟨D, ws, rfl, rfl, h1, ?_⟩⟩
    rw [List.take_length] at h3
    refine h3.mono (Le.trans (wo_mono fun a z => ?_).le le)
    rcases z with z | z
    · exact (hU a).mpr (.inl z)
    · exact (hU a).mpr (.inr (List.mem_singleton.mp z))
/-- [e for n in it], [e for n in it if c] -/
theorem tg_name {j : Nat} {vs : List Nat} (hj : ∀ (σ : L2.St) (o : Option V), L2.wipe (σ.set j o) vs = L2.wipe σ vs) : TgOk α X (gName j) vs env (fun x => env.set j (.dat x)) := ⟨fun x O fp σ H v S r w Q q => q _ (S.set j r) (by rw [hj, w])⟩
theorem tg_pair {i j : Nat} {vs : List Nat} (hi : ∀ (σ : L2.St) (o : Option V), L2.wipe (σ.set i o) vs = L2.wipe σ vs) (hj : ∀ (σ : L2.St) (o : Option V), L2.wipe (σ.set j o) vs = L2.wipe σ vs) : TgOk (α × β) X (gTup X.K 2 (gCons (gName i) (gCons (gName j) gNil))) vs env (fun x => (env.set i (.dat x.1)).set j (.dat x.2)) := ⟨fun x O fp σ H v S r w Q q => by
  obtain ⟨ad, us, e, t, ar⟩ := r
  match us, ar with
  | [u1, u2], ⟨h1, h2, _⟩ =>
    exact ⟨ad, [u1, u2], e, wo_le.tup t, rfl, u1, [u2], rfl, u2, [], rfl, rfl, q _ ((S.set i h1).set j h2) (by rw [hj, hi, w])⟩⟩
theorem et_yes : EvT X.K tYes env true := fun O fp σ H S Q q => q H (Ex.refl H)
theorem ev_b {scope : Scope} (h : Blk X scope fun Y => EX Y e env x) : Ev X.K (tEb X scope e) env x := fun O fp σ H S Q q s H0 C cl fpp => h s H0 C cl fpp O fp σ H S Q q
theorem et_b {scope : Scope} {k : Bool} (h : Blk X scope fun Y => ET Y e env k) : EvT X.K (tTb X scope e) env k := fun O fp σ H S Q q s H0 C cl fpp => h s H0 C cl fpp O fp σ H S Q q
theorem en_lc {scope : Scope} {ifs : List Expr} {own : List (Str × Nat)} {tt : TT} {g : TG} (mk : α → Env') (f : α → β) (t : α → Bool) (hc : X.calm = true) (hN : X.N.Nodup) (ok : BlkOk X.N X.env.scope scope own) (hi : IX X tg iter env xs) (hz : xs.length ≤ 100000) (hg : TgOk α X g (own.map (·.2)) (wipeE env (own.map (·.2))) mk) (hww : ∀ σ : L2.St, L2.wipe (L2.wipe σ (own.map (·.2))) (own.map (·.2)) = L2.wipe σ (own.map (·.2)))
    (pg : ∀ (s : Shared) (H : Hp) (C : Addr) (cl : List (Str × Addr)) (fp : List Addr), PG (X.blk s H scope (compEnvC scope cl C X.env) fp) tg g) (pt : ∀ (s : Shared) (H : Hp) (C : Addr) (cl : List (Str × Addr)) (fp : List Addr), PTs (X.blk s H scope (compEnvC scope cl C X.env) fp) ifs tt)
    (ht : ∀ x ∈ xs, EvT X.K tt (mk x) (t x)) (he : ∀ x ∈ xs, t x = true → Blk X scope fun Y => EX Y e (mk x) (f x)) (hs : ∀ x, foldedSetIterable iter X.env x = pure x := by intro _; rfl) : EN X (.ListComp e [⟨tg, iter, ifs, 0⟩] scope pos) env (OL.mk ((xs.filter t).map f)) := fun O fp σ H S Q q pins s I =>
  (pe_lc hc hN (mI X tg iter) ok pg pt (fun s H C cl fp => mEb s H C cl fp) hs).run pins s σ H Q I (lc_ev mk f t hi hz hg hww ht (fun x hx h => ev_b (he x hx h)) O fp σ H S Q q)
/-- y = [..], y a local name: one's own list -/
theorem sx_newLc {i : Nat} {y : Str} {scope : Scope} {ifs : List Expr} {own : List (Str × Nat)} {tt : TT} {g : TG} (mk : α → Env') (f : α → β) (t : α → Bool) (hc : X.calm = true) (hN : X.N.Nodup) (ok : BlkOk X.N X.env.scope scope own) (hi : IX X tg iter env xs) (hz : xs.length ≤ 100000) (hg : TgOk α X g (own.map (·.2)) (wipeE env (own.map (·.2))) mk) (hww : ∀ σ : L2.St, L2.wipe (L2.wipe σ (own.map (·.2))) (own.map (·.2)) = L2.wipe σ (own.map (·.2)))
    (pg : ∀ (s : Shared) (H : Hp) (C : Addr) (cl : List (Str × Addr)) (fp : List Addr), PG (X.blk s H scope (compEnvC scope cl C X.env) fp) tg g) (pt : ∀ (s : Shared) (H : Hp) (C : Addr) (cl : List (Str × Addr)) (fp : List Addr), PTs (X.blk s H scope (compEnvC scope cl C X.env) fp) ifs tt)
    (ht : ∀ x ∈ xs, EvT X.K tt (mk x) (t x)) (he : ∀ x ∈ xs, t x = true → Blk X scope fun Y => EX Y e (mk x) (f x)) (hr : SX X W rest (env.set i (.own (OL.mk ((xs.filter t).map f)))) po)
    (hy : X.N[i]? = some y) (hyl : X.env.scope.names.lookup y = some .local) (hsw : swapsWith (.ListComp e [⟨tg, iter, ifs, 0⟩] scope pos) (some (.Name y p2)) p3.line X.env = pure true) (hs : ∀ x, foldedSetIterable iter X.env x = pure x := by intro _; rfl) : SX X W (.Assign [.Name y p2] (.ListComp e [⟨tg, iter, ifs, 0⟩] scope pos) p3 :: rest) env po :=
  sx_step (ps_setLc hc hN hy hyl hsw (mI X tg iter) ok pg pt (fun s H C cl fp => mEb s H C cl fp) hs) (fun O fp σ H S D q => lc_ev mk f t hi hz hg hww ht (fun x hx h => ev_b (he x hx h)) O fp σ H S _ fun v L H1 e1 hL hd r1 => q (setF fp i L) _ H1 (Keep.new e1 hL) (S.new e1 hL hd r1)) hr
end
theorem wipe_set {i : Nat} (σ : L2.St) (o : Option V) : (σ.set i o).set i none = σ.set i none := List.set_set _
theorem wipe_1 (j : Nat) : ∀ (σ : L2.St) (o : Option V), L2.wipe (σ.set j o) [j] = L2.wipe σ [j] := fun σ o => List.set_set _
theorem hww_1 (j : Nat) : ∀ σ : L2.St, L2.wipe (L2.wipe σ [j]) [j] = L2.wipe σ [j] := fun σ => List.set_set _
theorem set2 (i j : Nat) (σ : L2.St) : ((((σ.set j none).set i none).set j none).set i none) = (σ.set j none).set i none := by
  by_cases e : i = j
  · subst e; rw [List.set_set, List.set_set, List.set_set]
  · rw [List.set_comm _ _ e, List.set_set, List.set_set]
theorem hww_2 (i j : Nat) : ∀ σ : L2.St, L2.wipe (L2.wipe σ [i, j]) [i, j] = L2.wipe σ [i, j] := fun σ => set2 i j σ
theorem wipe_2a (i j : Nat) : ∀ (σ : L2.St) (o : Option V), L2.wipe (σ.set i o) [i, j] = L2.wipe σ [i, j] := fun σ o => by
  show (((σ.set i o).set j none).set i none) = (σ.set j none).set i none
  by_cases e : i = j
  · subst e; rw [List.set_set, List.set_set, List.set_set]
  · rw [List.set_comm _ _ e, List.set_set]
theorem wipe_2b (i j : Nat) : ∀ (σ : L2.St) (o : Option V), L2.wipe (σ.set j o) [i, j] = L2.wipe σ [i, j] := fun σ o => by
  show (((σ.set j o).set j none).set i none) = (σ.set j none).set i none
  rw [List.set_set]
end R
set_option maxHeartbeats 400000
set_option autoImplicit false
namespace R
open PySem PySem.Spec PyProof.Rows L2
section
variable {X : Cx} {W : WX} {env env' : Env'} {ρ α β γ : Type} [Dat ρ] [Dat α] [Dat β] [Dat γ] {po : Po ρ} {x : α} {y : β} {z : γ} {e a b c tg iter o : Expr} {es : List Expr} {pos p p2 pc p3 apos cpos : Pos} {rest body : List Stmt} {xs : List α} {st : Stmt}
theorem exx_some {Rp : α → Prop} {Xp : Exn → Prop} (h : EXX X W e env Rp Xp) : EXX X W e env (fun (o : Option α) => ∃ x, Rp x ∧ o = some x) Xp := fun O fp σ H S Q q qx => h O fp σ H S Q (fun r v H' hr e1 rp => q (some r) v H' ⟨r, hr, rfl⟩ e1 rp) qx
theorem filter_all {τ : Type} (xs : List τ) : (xs.filter fun _ => true) = xs := by simp
theorem en_all {τ υ : Type} [Dat υ] {f : τ → υ} {xs : List τ} (h : EN X e env (OL.mk ((xs.filter fun _ => true).map f))) : EN X e env (OL.mk (xs.map f)) := by rw [filter_all] at h; exact h
theorem hu64 {A : Around} {k : Nat} (hr : Room k A) : A.units + 64 < cLine := hr.units
abbrev Rng (n : Int) : Prop := -(2 ^ 62) ≤ n ∧ n < 2 ^ 62
abbrev Rng2 (n m : Int) : Prop := -(2 ^ 62) ≤ n ∧ n < 2 ^ 62 ∧ -(2 ^ 62) ≤ m ∧ m < 2 ^ 62
/-! any, all, min, max -/
theorem repL.bls {K : PySem.W.Frag} {H : Hp} : ∀ {vs : List V} {bs : List Bool}, repL K H vs bs → vs = bs.map V.bl
  | _, _, .nil => rfl
  | _, _, .cons h t => by
    have h : _ = V.bl _ := h
    rw [h, repL.bls t]; rfl
theorem repL.ints {K : PySem.W.Frag} {H : Hp} : ∀ {vs : List V} {bs : List Int}, repL K H vs bs → vs = bs.map V.int
  | _, _, .nil => rfl
  | _, _, .cons h t => by
    have h : _ = V.int _ := h
    rw [h, repL.ints t]; rfl
theorem repL.strs {K : PySem.W.Frag} {H : Hp} : ∀ {vs : List V} {bs : List Str}, repL K H vs bs → vs = bs.map V.str
  | _, _, .nil => rfl
  | _, _, .cons h t => by
    have h : _ = V.str _ := h
    rw [h, repL.strs t]; rfl
theorem ex_any {bs : List Bool} (hc : X.calm = true) (hm : X.mg "any" = none) (h : EX X a env bs) (he : starEach [a] X.env = (false, eval a X.env) :: starEach [] X.env := by rfl) (hpl : (backTo pos (starEach [] X.env)).any (·.1) = false := by rfl) (hg : Gl X "any" := by rfl) : EX X (.Call (.Name "any" p) [a] [] pos) env (bs.any id) :=
  ex_callB (cr_any hc) hm (by decide +kernel) (ea1 h he) (rc1 fun U v H bn r Q q => by
    obtain ⟨ad, vs, e, l, rl⟩ := r
    have := rl.bls
    subst this
    exact ⟨ad, bs, by rw [e], wo_le.lst l, q _ H (Ex.refl H) rfl⟩) hg (by decide) (by decide) he hpl
theorem ex_all {bs : List Bool} (hc : X.calm = true) (hm : X.mg "all" = none) (h : EX X a env bs) (he : starEach [a] X.env = (false, eval a X.env) :: starEach [] X.env := by rfl) (hpl : (backTo pos (starEach [] X.env)).any (·.1) = false := by rfl) (hg : Gl X "all" := by rfl) : EX X (.Call (.Name "all" p) [a] [] pos) env (bs.all id) :=
  ex_callB (cr_all hc) hm (by decide +kernel) (ea1 h he) (rc1 fun U v H bn r Q q => by
    obtain ⟨ad, vs, e, l, rl⟩ := r
    have := rl.bls
    subst this
    exact ⟨ad, bs, by rw [e], wo_le.lst l, q _ H (Ex.refl H) rfl⟩) hg (by decide) (by decide) he hpl
def maxI (i j : Int) : Int := if j > i then j else i
def minI (i j : Int) : Int := if j < i then j else i
theorem ex_max {i j : Int} (hc : X.calm = true) (hm : X.mg "max" = none) (h : EX X a env i) (h' : EX X b env j) (he : starEach [a, b] X.env = (false, eval a X.env) :: starEach [b] X.env := by rfl) (he2 : starEach [b] X.env = (false, eval b X.env) :: starEach [] X.env := by rfl) (hpl : (backTo pos (starEach [b] X.env)).any (·.1) = false := by rfl) (hg : Gl X "max" := by rfl) : EX X (.Call (.Name "max" p) [a, b] [] pos) env (maxI i j) :=
  ex_callB (call_max2 hc) hm (by decide +kernel) (ea_cons h (ea_cons h' ea_nil he2) he) (rc2 fun U v u H bn r1 r2 Q q => ⟨i, j, by rw [show v = .int i from r1, show u = .int j from r2], q _ H (Ex.refl H) rfl⟩) hg (by decide) (by decide) he hpl
theorem ex_min {i j : Int} (hc : X.calm = true) (hm : X.mg "min" = none) (h : EX X a env i) (h' : EX X b env j) (he : starEach [a, b] X.env = (false, eval a X.env) :: starEach [b] X.env := by rfl) (he2 : starEach [b] X.env = (false, eval b X.env) :: starEach [] X.env := by rfl) (hpl : (backTo pos (starEach [b] X.env)).any (·.1) = false := by rfl) (hg : Gl X "min" := by rfl) : EX X (.Call (.Name "min" p) [a, b] [] pos) env (minI i j) :=
  ex_callB (call_min2 hc) hm (by decide +kernel) (ea_cons h (ea_cons h' ea_nil he2) he) (rc2 fun U v u H bn r1 r2 Q q => ⟨i, j, by rw [show v = .int i from r1, show u = .int j from r2], q _ H (Ex.refl H) rfl⟩) hg (by decide) (by decide) he hpl
/-! options -/
theorem ex_isN {m : Option α} (hno : ∀ K H v (y : α), Dat.rep K H v y → v ≠ .non) (h : EX X a env m) {j : Nat} {pos' : Pos} : EX X (.Compare a [.Is] [.Constant .none j pos'] pos) env m.isNone := ex_of (pe_cmp (pc_isN (mE X a)) (nobehind _ (by decide) (by decide))) fun O fp σ H S Q q => h O fp σ H S _ fun v H' e1 r => by
  refine q _ H' e1 ?_
  show V.bl _ = V.bl _
  cases m with
  | none => rw [show v = .non from r]; rfl
  | some y => rw [decide_eq_false (hno _ _ _ _ r)]; rfl
theorem ex_isNotN {m : Option α} (hno : ∀ K H v (y : α), Dat.rep K H v y → v ≠ .non) (h : EX X a env m) {j : Nat} {pos' : Pos} : EX X (.Compare a [.IsNot] [.Constant .none j pos'] pos) env (!m.isNone) := ex_of (pe_cmp (pc_notN (mE X a)) (nobehind _ (by decide) (by decide))) fun O fp σ H S Q q => h O fp σ H S _ fun v H' e1 r => by
  refine q _ H' e1 ?_
  show V.bl _ = V.bl _
  cases m with
  | none => rw [show v = .non from r]; rfl
  | some y => rw [decide_eq_false (hno _ _ _ _ r)]; rfl
end
theorem catc_mk {K : PySem.W.Frag} {mg : Str → Option Value} {all some' : List Str} {x : Str} {Cx : Addr} (hm : mg x = some (.ref Cx)) (h1 : PySem.W.subIn K (.ref Cx) (.type "BaseException") = some true) (h2 : PySem.W.hasDictIn K Cx = true) (h3 : PySem.W.typeIn K (.ref Cx) = some (.type "type"))
    (tbl : ∀ n ∈ all, ∃ Cn, mg n = some (.ref Cn) ∧ PySem.W.subIn K (.ref Cn) (.ref Cx) = some (some'.contains n)) : CatC K mg all some' x := by
  refine ⟨.ref Cx, hm, fun e Hf cls d ha xa => ?_⟩
  have key : ∀ n, all.contains n = true → mg n = some cls → PySem.W.exmOne K cls (.ref Cx) = some (some'.contains n) := fun n hn hc => by
    obtain ⟨Cn, q1, q2⟩ := tbl n (List.contains_iff_mem.mp hn)
    rw [q1] at hc
    cases hc
    exact PySem.W.exm_ref h1 h2 h3 q2
  cases e with
  | one c => exact key c ha xa.1
  | clash ns ws => exact key _ ha xa.1
  | stuck w ns ws => exact key _ ha xa.1
/-! ### a law's end -/
def spLaw (K : PySem.W.Frag) : Sp := fun vs H Q _ => ∃ (a : Addr) (ns : List Int), vs = [.ref a] ∧ SqL K H a (ns.map V.int) ∧ ns.length ≤ 63 ∧ ∀ v H', v = .bl true → Q v H'
theorem ints_rep {K : PySem.W.Frag} {H : Hp} : ∀ ns : List Int, repL K H (ns.map V.int) ns
  | [] => .nil
  | _ :: r => .cons rfl (ints_rep r)
theorem law_end {K : PySem.W.Frag} {mg : Str → Option Value} {Φ : Phi Bool} (h : ∀ ns : List Int, ns.length ≤ 63 → Φ [.dat ns] (fun r => r = true) (fun _ => False)) : ∀ vs H Q E, spLaw K vs H Q E → spP K mg 1 Φ vs H Q E := fun vs H Q E ⟨a, ns, e, hs, hl, q⟩ => by
  subst e
  have ew : wo H (fun _ => False) = H := by funext b; exact wo_out fun z => z
  have ar : ARep K (wo H (fun _ => False)) [.ref a] [.dat ns] := ⟨⟨a, ns.map V.int, rfl, by rw [ew]; exact hs, ints_rep ns⟩, trivial⟩
  refine ⟨rfl, fun _ => False, [.dat ns], _, _, h ns hl, ARep.sok (fun _ z => z.elim) ar, fun r v H' hr e rp => q v H' ?_, fun _ _ _ _ z => z.elim⟩
  rw [hr] at rp
  exact rp
theorem cx_end {P : Program} {w : World} {H : Hp} {s : Shared} {e : Value} {s' : Shared} (h : L2.CX P w [] H s (fun _ _ _ => False) e s') : False := by
  obtain ⟨_, _, _, _, _, _, _, _, _, _, _, _, z⟩ := h
  exact z
end R
set_option maxHeartbeats 4000000
set_option autoImplicit false
namespace G
open PySem PySem.Spec PyProof.Rows L2 R
def m_divisor_of (one_ : Int) (other_ : Int) : Int :=
  gcdI one_ other_
def ok_divisor_of (one_ : Int) (other_ : Int) : Prop :=
  True
theorem okt_divisor_of (one_ : Int) (other_ : Int) : ok_divisor_of one_ other_ := by
  unfold ok_divisor_of
  simp
def m_part (top_ : Int) (bottom_ : Int) : Except Exn (Rat) :=
  if bottom_ = 0 then .error (.one "NoPart") else .ok (Rat.divInt top_ bottom_)
def ok_part (top_ : Int) (bottom_ : Int) : Prop :=
  bottom_.natAbs < 2 ^ 9000
def ok_partP (t b : Int) : Prop := b ≠ 0 ∧ b.natAbs < 2 ^ 9000
def m_plus (one_ : Rat) (other_ : Rat) : Rat :=
  (one_ + other_)
def ok_plus (one_ : Rat) (other_ : Rat) : Prop :=
  CMulW one_.num ((other_.den : Nat) : Int) ∧ CMulW other_.num ((one_.den : Nat) : Int) ∧ CMulW ((one_.den : Nat) : Int) ((other_.den : Nat) : Int) ∧ ok_partP ((one_.num * ((other_.den : Nat) : Int)) + (other_.num * ((one_.den : Nat) : Int))) (((one_.den : Nat) : Int) * ((other_.den : Nat) : Int)) ∧ True
def m_minus (one_ : Rat) (other_ : Rat) : Rat :=
  (one_ - other_)
def ok_minus (one_ : Rat) (other_ : Rat) : Prop :=
  CMulW one_.num ((other_.den : Nat) : Int) ∧ CMulW other_.num ((one_.den : Nat) : Int) ∧ CMulW ((one_.den : Nat) : Int) ((other_.den : Nat) : Int) ∧ ok_partP ((one_.num * ((other_.den : Nat) : Int)) - (other_.num * ((one_.den : Nat) : Int))) (((one_.den : Nat) : Int) * ((other_.den : Nat) : Int)) ∧ True
def m_times (one_ : Rat) (other_ : Rat) : Rat :=
  (one_ * other_)
def ok_times (one_ : Rat) (other_ : Rat) : Prop :=
  CMulW one_.num other_.num ∧ CMulW ((one_.den : Nat) : Int) ((other_.den : Nat) : Int) ∧ ok_partP (one_.num * other_.num) (((one_.den : Nat) : Int) * ((other_.den : Nat) : Int)) ∧ True
def m_over (one_ : Rat) (other_ : Rat) : Except Exn (Rat) :=
  (m_part (one_.num * ((other_.den : Nat) : Int)) (((one_.den : Nat) : Int) * other_.num))
def ok_over (one_ : Rat) (other_ : Rat) : Prop :=
  CMulW one_.num ((other_.den : Nat) : Int) ∧ CMulW ((one_.den : Nat) : Int) other_.num ∧ ok_part (one_.num * ((other_.den : Nat) : Int)) (((one_.den : Nat) : Int) * other_.num) ∧ True
def m_under (one_ : Rat) (other_ : Rat) : Bool :=
  (decide (one_ < other_))
def ok_under (one_ : Rat) (other_ : Rat) : Prop :=
  CMulW one_.num ((other_.den : Nat) : Int) ∧ CMulW other_.num ((one_.den : Nat) : Int) ∧ True
def m_l_cell_at (script_ : List Int) (k_ : Int) : Int :=
  (cond (decide (k_ < (script_.length : Int))) (List.getD script_ (Int.toNat k_) (0 : Int)) (0 : Int))
def ok_l_cell_at (script_ : List Int) (k_ : Int) : Prop :=
  (((decide (k_ < (script_.length : Int))) = true → (0 ≤ k_ ∧ k_ < (script_.length : Int)) ∧ True) ∧ ((decide (k_ < (script_.length : Int))) = false → True))
def m_l_whole (found_ : Int) : Bool :=
  (true && (!false))
def ok_l_whole (found_ : Int) : Prop :=
  True
theorem okt_l_whole (found_ : Int) : ok_l_whole found_ := by
  unfold ok_l_whole
  simp
def m_l_shared (one_ : Int) (other_ : Int) : Int :=
  gcdI one_ other_
def ok_l_shared (one_ : Int) (other_ : Int) : Prop :=
  True
theorem okt_l_shared (one_ : Int) (other_ : Int) : ok_l_shared one_ other_ := by
  unfold ok_l_shared
  simp
def m_l_fraction (up_ : Int) (down_ : Int) : Rat :=
  (let top_1 : Int := ((up_ % (200000000001 : Int)) - (100000000000 : Int)); (let bottom_2 : Int := ((1 : Int) + ((down_ / (3 : Int)) % (100000000000 : Int))); (let j6 : (Int × Int) := cond (decide ((down_ % (3 : Int)) = (1 : Int))) (let top_3 : Int := ((up_ % (41 : Int)) - (20 : Int)); (let bottom_4 : Int := ((1 : Int) + ((down_ / (3 : Int)) % (12 : Int))); (top_3, bottom_4))) (top_1, bottom_2); let top_7 : Int := j6.1; let bottom_8 : Int := j6.2; (let j11 : Int := cond (decide ((down_ % (3 : Int)) = (2 : Int))) (let bottom_9 : Int := (1 : Int); bottom_9) bottom_8; let bottom_12 : Int := j11; (let shared_here_13 : Int := (m_l_shared top_7 bottom_12); (Rat.divInt ((top_7 / shared_here_13)) ((bottom_12 / shared_here_13))))))))
def ok_l_fraction (up_ : Int) (down_ : Int) : Prop :=
  (let top_1 : Int := ((up_ % (200000000001 : Int)) - (100000000000 : Int)); (let bottom_2 : Int := ((1 : Int) + ((down_ / (3 : Int)) % (100000000000 : Int))); ((decide ((down_ % (3 : Int)) = (1 : Int))) = true → (let top_3 : Int := ((up_ % (41 : Int)) - (20 : Int)); (let bottom_4 : Int := ((1 : Int) + ((down_ / (3 : Int)) % (12 : Int))); True))) ∧ ((decide ((down_ % (3 : Int)) = (1 : Int))) = false → True) ∧ (let j6 : (Int × Int) := cond (decide ((down_ % (3 : Int)) = (1 : Int))) (let top_3 : Int := ((up_ % (41 : Int)) - (20 : Int)); (let bottom_4 : Int := ((1 : Int) + ((down_ / (3 : Int)) % (12 : Int))); (top_3, bottom_4))) (top_1, bottom_2); let top_7 : Int := j6.1; let bottom_8 : Int := j6.2; ((decide ((down_ % (3 : Int)) = (2 : Int))) = true → (let bottom_9 : Int := (1 : Int); True)) ∧ ((decide ((down_ % (3 : Int)) = (2 : Int))) = false → True) ∧ (let j11 : Int := cond (decide ((down_ % (3 : Int)) = (2 : Int))) (let bottom_9 : Int := (1 : Int); bottom_9) bottom_8; let bottom_12 : Int := j11; (let shared_here_13 : Int := (m_l_shared top_7 bottom_12); CDivW top_7 shared_here_13 ∧ CDivW bottom_12 shared_here_13 ∧ IsQ ((top_7 / shared_here_13)) ((bottom_12 / shared_here_13)) ∧ True)))))
def m_l_is (found_ : Rat) (top_ : Int) (bottom_ : Int) : Bool :=
  (cond ((!true) || (!decide ((2 : Int) = (2 : Int)))) false (cond ((!(m_l_whole found_.num)) || (!(m_l_whole ((found_.den : Nat) : Int)))) false (cond ((decide (((found_.den : Nat) : Int) < (1 : Int))) || (!decide ((m_l_shared found_.num ((found_.den : Nat) : Int)) = (1 : Int)))) false (decide ((found_.num * bottom_) = (((found_.den : Nat) : Int) * top_))))))
def ok_l_is (found_ : Rat) (top_ : Int) (bottom_ : Int) : Prop :=
  ((((!true) || (!decide ((2 : Int) = (2 : Int)))) = true → True) ∧ (((!true) || (!decide ((2 : Int) = (2 : Int)))) = false → ((((!(m_l_whole found_.num)) || (!(m_l_whole ((found_.den : Nat) : Int)))) = true → True) ∧ (((!(m_l_whole found_.num)) || (!(m_l_whole ((found_.den : Nat) : Int)))) = false → ((((decide (((found_.den : Nat) : Int) < (1 : Int))) || (!decide ((m_l_shared found_.num ((found_.den : Nat) : Int)) = (1 : Int)))) = true → True) ∧ (((decide (((found_.den : Nat) : Int) < (1 : Int))) || (!decide ((m_l_shared found_.num ((found_.den : Nat) : Int)) = (1 : Int)))) = false → CMulW found_.num bottom_ ∧ CMulW ((found_.den : Nat) : Int) top_ ∧ True))))))
def m_l_over (one_ : Rat) (other_ : Rat) : Bool :=
  (let refused_1 : Bool := false; (let found_2 : Option (Rat) := (none : Option (Rat)); (let j8 : (Option (Rat) × Bool) := tryV (((m_over one_ other_).bind (fun found_4 => (.ok ((some found_4), refused_1)))) : Except Exn ((Option (Rat) × Bool))) (fun (e6 : Exn) => (let refused_7 : Bool := true; (found_2, refused_7))); let found_9 : Option (Rat) := j8.1; let refused_10 : Bool := j8.2; (cond (decide (other_.num = (0 : Int))) refused_10 ((!refused_10) && (m_l_is (found_9.getD (0 : Rat)) (one_.num * ((other_.den : Nat) : Int)) (((one_.den : Nat) : Int) * other_.num)))))))
def ok_l_over (one_ : Rat) (other_ : Rat) : Prop :=
  (let refused_1 : Bool := false; (let found_2 : Option (Rat) := (none : Option (Rat)); (∀ e6, (((m_over one_ other_).bind (fun found_4 => (.ok ((some found_4), refused_1)))) : Except Exn ((Option (Rat) × Bool))) = .error e6 → exnIn [("FrameError" : Str), ("NoPart" : Str)] e6 = true ∧ exnIn [("NoPart" : Str)] e6 = true) ∧ (ok_over one_ other_ ∧ (∀ found_4, (m_over one_ other_) = .ok found_4 → True)) ∧ (∀ e6, (((m_over one_ other_).bind (fun found_4 => (.ok ((some found_4), refused_1)))) : Except Exn ((Option (Rat) × Bool))) = .error e6 → (let refused_7 : Bool := true; True)) ∧ (let j8 : (Option (Rat) × Bool) := tryV (((m_over one_ other_).bind (fun found_4 => (.ok ((some found_4), refused_1)))) : Except Exn ((Option (Rat) × Bool))) (fun (e6 : Exn) => (let refused_7 : Bool := true; (found_2, refused_7))); let found_9 : Option (Rat) := j8.1; let refused_10 : Bool := j8.2; (((decide (other_.num = (0 : Int))) = true → True) ∧ ((decide (other_.num = (0 : Int))) = false → ((!refused_10) = true → found_9.isSome = true) ∧ ((!refused_10) = true → CMulW one_.num ((other_.den : Nat) : Int)) ∧ ((!refused_10) = true → CMulW ((one_.den : Nat) : Int) other_.num) ∧ ((!refused_10) = true → ok_l_is (found_9.getD (0 : Rat)) (one_.num * ((other_.den : Nat) : Int)) (((one_.den : Nat) : Int) * other_.num)) ∧ True)))))
def m_l_both (one_ : Rat) (other_ : Rat) : Bool :=
  (let left_1 : Int := (one_.num * ((other_.den : Nat) : Int)); (let right_3 : Int := (other_.num * ((one_.den : Nat) : Int)); (let bottom_5 : Int := (((one_.den : Nat) : Int) * ((other_.den : Nat) : Int)); (cond ((!(m_l_is (m_plus one_ other_) (left_1 + right_3) bottom_5)) || (!(m_l_is (m_minus one_ other_) (left_1 - right_3) bottom_5))) false (cond ((!(m_l_is (m_times one_ other_) (one_.num * other_.num) bottom_5)) || (!(m_l_over one_ other_))) false (let less_17 : Bool := (m_under one_ other_); (true && (decide (less_17 = (decide (left_1 < right_3)))))))))))
def ok_l_both (one_ : Rat) (other_ : Rat) : Prop :=
  CMulW one_.num ((other_.den : Nat) : Int) ∧ (let left_1 : Int := (one_.num * ((other_.den : Nat) : Int)); CMulW other_.num ((one_.den : Nat) : Int) ∧ (let right_3 : Int := (other_.num * ((one_.den : Nat) : Int)); CMulW ((one_.den : Nat) : Int) ((other_.den : Nat) : Int) ∧ (let bottom_5 : Int := (((one_.den : Nat) : Int) * ((other_.den : Nat) : Int)); ok_plus one_ other_ ∧ ok_l_is (m_plus one_ other_) (left_1 + right_3) bottom_5 ∧ ((!(m_l_is (m_plus one_ other_) (left_1 + right_3) bottom_5)) = false → ok_minus one_ other_) ∧ ((!(m_l_is (m_plus one_ other_) (left_1 + right_3) bottom_5)) = false → ok_l_is (m_minus one_ other_) (left_1 - right_3) bottom_5) ∧ ((((!(m_l_is (m_plus one_ other_) (left_1 + right_3) bottom_5)) || (!(m_l_is (m_minus one_ other_) (left_1 - right_3) bottom_5))) = true → True) ∧ (((!(m_l_is (m_plus one_ other_) (left_1 + right_3) bottom_5)) || (!(m_l_is (m_minus one_ other_) (left_1 - right_3) bottom_5))) = false → ok_times one_ other_ ∧ CMulW one_.num other_.num ∧ ok_l_is (m_times one_ other_) (one_.num * other_.num) bottom_5 ∧ ((!(m_l_is (m_times one_ other_) (one_.num * other_.num) bottom_5)) = false → ok_l_over one_ other_) ∧ ((((!(m_l_is (m_times one_ other_) (one_.num * other_.num) bottom_5)) || (!(m_l_over one_ other_))) = true → True) ∧ (((!(m_l_is (m_times one_ other_) (one_.num * other_.num) bottom_5)) || (!(m_l_over one_ other_))) = false → ok_under one_ other_ ∧ (let less_17 : Bool := (m_under one_ other_); True))))))))
def m_law (script_ : List Int) : Bool :=
  (let one_1 : Rat := (m_l_fraction (m_l_cell_at script_ (0 : Int)) (m_l_cell_at script_ (1 : Int))); (let other_5 : Rat := (m_l_fraction (m_l_cell_at script_ (2 : Int)) (m_l_cell_at script_ (3 : Int))); (let way_9 : Int := ((m_l_cell_at script_ (4 : Int)) % (6 : Int)); (let j13 : Rat := cond (decide (way_9 = (1 : Int))) (let other_11 : Rat := one_1; other_11) other_5; let other_14 : Rat := j13; (let j18 : Rat := cond (decide (way_9 = (2 : Int))) (let other_15 : Rat := (Rat.divInt (((0 : Int) - one_1.num)) (((one_1.den : Nat) : Int))); other_15) other_14; let other_19 : Rat := j18; (let j22 : Rat := cond (decide (way_9 = (3 : Int))) (let other_20 : Rat := (0 : Rat); other_20) other_19; let other_23 : Rat := j22; ((m_l_both one_1 other_23) && (m_l_both other_23 one_1))))))))
def ok_law (script_ : List Int) : Prop :=
  ok_l_cell_at script_ (0 : Int) ∧ ok_l_cell_at script_ (1 : Int) ∧ ok_l_fraction (m_l_cell_at script_ (0 : Int)) (m_l_cell_at script_ (1 : Int)) ∧ (let one_1 : Rat := (m_l_fraction (m_l_cell_at script_ (0 : Int)) (m_l_cell_at script_ (1 : Int))); ok_l_cell_at script_ (2 : Int) ∧ ok_l_cell_at script_ (3 : Int) ∧ ok_l_fraction (m_l_cell_at script_ (2 : Int)) (m_l_cell_at script_ (3 : Int)) ∧ (let other_5 : Rat := (m_l_fraction (m_l_cell_at script_ (2 : Int)) (m_l_cell_at script_ (3 : Int))); ok_l_cell_at script_ (4 : Int) ∧ (let way_9 : Int := ((m_l_cell_at script_ (4 : Int)) % (6 : Int)); ((decide (way_9 = (1 : Int))) = true → (let other_11 : Rat := one_1; True)) ∧ ((decide (way_9 = (1 : Int))) = false → True) ∧ (let j13 : Rat := cond (decide (way_9 = (1 : Int))) (let other_11 : Rat := one_1; other_11) other_5; let other_14 : Rat := j13; ((decide (way_9 = (2 : Int))) = true → IsQ (((0 : Int) - one_1.num)) (((one_1.den : Nat) : Int)) ∧ (let other_15 : Rat := (Rat.divInt (((0 : Int) - one_1.num)) (((one_1.den : Nat) : Int))); True)) ∧ ((decide (way_9 = (2 : Int))) = false → True) ∧ (let j18 : Rat := cond (decide (way_9 = (2 : Int))) (let other_15 : Rat := (Rat.divInt (((0 : Int) - one_1.num)) (((one_1.den : Nat) : Int))); other_15) other_14; let other_19 : Rat := j18; ((decide (way_9 = (3 : Int))) = true → (let other_20 : Rat := (0 : Rat); True)) ∧ ((decide (way_9 = (3 : Int))) = false → True) ∧ (let j22 : Rat := cond (decide (way_9 = (3 : Int))) (let other_20 : Rat := (0 : Rat); other_20) other_19; let other_23 : Rat := j22; ok_l_both one_1 other_23 ∧ ((m_l_both one_1 other_23) = true → ok_l_both other_23 one_1) ∧ True))))))
end G
set_option maxHeartbeats 4000000
set_option autoImplicit false
namespace G
open PySem PySem.Spec PyProof.Rows L2 R
def topS (i : Nat) : Stmt := PySem.Challenge.pw_springframe_k02_reckoned_with.main.body.getD i (.Pass ⟨0, 0, 0, 0⟩)
structure Top (K : PySem.W.Frag) (mg : Str → Option Value) : Prop where
  here : True
  b_abs : mg "abs" = none
  b_bool : mg "bool" = none
  b_int : mg "int" = none
  b_isinstance : mg "isinstance" = none
  b_len : mg "len" = none
  b_tuple : mg "tuple" = none
  x_NoPart : ErrC K mg "NoPart"
  c_NoPart : CatC K mg [("FrameError" : Str), ("NoPart" : Str)] [("NoPart" : Str)] "NoPart"
variable {P : Program} {w : World} {K : PySem.W.Frag} {mg : Str → Option Value} {base : Heap}
def ph_divisor_of : Phi (Int) := fun args Rp Xp => ∃ (one_ : Int) (other_ : Int), args = [.dat one_, .dat other_] ∧ ok_divisor_of one_ other_ ∧ Rp (m_divisor_of one_ other_)
abbrev s_divisor_of : Stmt := topS 4
theorem sc_divisor_of : FnScope ["one", "other"] ["one", "other"] (defScope s_divisor_of) := ⟨rfl, rfl, rfl, by decide +kernel, rfl, by decide +kernel, by decide +kernel⟩
theorem w_divisor_of {f : Addr} {fd : FuncData} (F : Fun K "divisor_of" "divisor_of" s_divisor_of f fd) (T : Top K mg) : FnOk P w K mg base (L2.CX P w) 1 f fd ["one", "other"] (spP K mg 2 ph_divisor_of) := by
  refine fn_ok F sc_divisor_of rfl ?_
  rintro args Rp Xp ⟨one_, other_, rfl, hok, hR⟩ hl cdv A outer s H E W hr tk
  refine sx_set (i := 0) sc_divisor_of.nd (ex_abs T.b_abs (ex_var (i := 0) rfl)) ?_
  refine sx_set (i := 1) sc_divisor_of.nd (ex_abs T.b_abs (ex_var (i := 1) rfl)) ?_
  refine sx_while (S := Int × Int) (fun s => [.dat s.1, .dat s.2]) (fun s => 0 ≤ s.1 ∧ 0 ≤ s.2 ∧ Int.gcd s.1 s.2 = Int.gcd one_ other_) (fun s => s.2.toNat) (fun _ => False) (absI one_, absI other_) (passes_of rfl) (Sub.refl _) ⟨absI_nn _, absI_nn _, by simp only [Int.gcd, absI_nat]⟩ ?_ (fun e h => h.elim)
  rintro ⟨x, y⟩ ⟨h1, h2, h3⟩
  refine ⟨_, et_gt (ex_var (i := 1) rfl) ex_int, fun hk => ?_, fun hk => ?_⟩
  · have hy : 0 < y := by first | exact of_decide_eq_true hk | (simp at hk; have : (0 : Int) ≤ y := h2; omega)
    refine sx_par (i := 0) (j := 1) rfl sc_divisor_of.nd (ea_cons (ex_var (i := 1) rfl) (ea_cons (ex_mod (ex_var (i := 0) rfl) (ex_var (i := 1) rfl) hy) ea_nil)) ?_
    refine sx_nil ⟨(y, x % y), Sub.refl _, ⟨h2, Int.emod_nonneg _ (by omega), ?_⟩, ?_⟩
    · rw [← h3]; exact gcd_turn x y
    · have := Int.emod_lt_of_pos x hy
      have := Int.emod_nonneg x (show y ≠ 0 by omega)
      show (x % y).toNat < y.toNat
      omega
  · have hy : y = 0 := by first | (have : ¬ 0 < y := of_decide_eq_false hk; have : (0 : Int) ≤ y := h2; omega) | simpa using hk
    subst hy
    have e : x = gcdI one_ other_ := by
      unfold gcdI
      rw [← h3]
      simp only [Int.gcd_zero_right]
      have : (0 : Int) ≤ x := h1
      omega
    refine sx_ret (x := gcdI one_ other_) (EX.eq (ex_var (i := 0) rfl) e) ?_
    exact hR
def ph_part : Phi (Rat) := fun args Rp Xp => ∃ (top_ : Int) (bottom_ : Int), args = [.dat top_, .dat bottom_] ∧ ok_part top_ bottom_ ∧ outP Rp Xp (m_part top_ bottom_)
abbrev s_part : Stmt := topS 5
theorem sc_part : FnScope ["top", "bottom", "both"] ["top", "bottom"] (defScope s_part) := ⟨rfl, rfl, rfl, by decide +kernel, rfl, by decide +kernel, by decide +kernel⟩
theorem w_part {f : Addr} {fd : FuncData} (F : Fun K "part" "part" s_part f fd) (T : Top K mg) (d_divisor_of : DefOk P w K mg base "divisor_of" 1 ["one", "other"] [] (spP K mg 2 ph_divisor_of)) : FnOk P w K mg base (L2.CX P w) 2 f fd ["top", "bottom"] (spP K mg 2 ph_part) := by
  refine fn_ok F sc_part rfl ?_
  rintro args Rp Xp ⟨top_, bottom_, rfl, hok, hR⟩ hl cdv A outer s H E W hr tk
  refine sx_ifr (et_eq (ex_var (i := 1) rfl) ex_int) (fun hk => ?_) (fun hk => ?_)
  · have h0 : bottom_ = 0 := of_decide_eq_true hk
    refine sx_raise rfl tk T.x_NoPart ?_
    have hR2 : outP Rp Xp (if bottom_ = 0 then .error (.one "NoPart") else .ok (Rat.divInt top_ bottom_)) := hR
    rw [if_pos h0] at hR2
    exact hR2
  · have h0 : bottom_ ≠ 0 := of_decide_eq_false hk
    have hR2 : outP Rp Xp (if bottom_ = 0 then .error (.one "NoPart") else .ok (Rat.divInt top_ bottom_)) := hR
    rw [if_neg h0] at hR2
    refine sx_ifj' (fun (s : Int × Int) e => (List.set (List.set e 0 (.dat s.1)) 1 (.dat s.2))) (0 - top_, 0 - bottom_) (top_, bottom_) (et_lt (ex_var (i := 1) rfl) ex_int) (fun hk => ?_) (fun hk => ?_) ?_
    · refine sx_set (i := 0) sc_part.nd (ex_sub ex_int (ex_var (i := 0) rfl)) ?_
      refine sx_set (i := 1) sc_part.nd (ex_sub ex_int (ex_var (i := 1) rfl)) ?_
      exact sx_nil (Sub.refl _)
    · exact sx_nil (Sub.refl _)
    · obtain ⟨t, b, e, hb, hs, hq⟩ : ∃ t b : Int, cond (decide (bottom_ < 0)) (0 - top_, 0 - bottom_) (top_, bottom_) = (t, b) ∧ 0 < b ∧ b.natAbs < 2 ^ 9000 ∧ Rat.divInt t b = Rat.divInt top_ bottom_ := by
        by_cases hlt : bottom_ < 0
        · exact ⟨_, _, by rw [decide_eq_true hlt]; rfl, by omega, by rw [show (0 - bottom_).natAbs = bottom_.natAbs by omega]; exact hok, divInt_neg2 top_ bottom_⟩
        · exact ⟨_, _, by rw [decide_eq_false hlt]; rfl, by omega, hok, rfl⟩
      rw [e]
      refine sx_set (i := 2) sc_part.nd (ex_call (n := "divisor_of") d_divisor_of (hr.mono (by decide)) (ea_cons (ex_var (i := 0) rfl) (ea_cons (ex_var (i := 1) rfl) ea_nil)) ⟨t, b, rfl, trivial, rfl⟩ (dvs := []) (dxs := []) (fun _ => trivial)) ?_
      have hg : CDivW t (gcdI t b) := cdiv_gcd (by omega) hs
      have hg2 : CDivW b (gcdI t b) := cdiv_gcd (by omega) hs
      refine sx_ret (x := Rat.divInt t b) (ex_rat (ex_tup (p := (t / gcdI t b, b / gcdI t b)) (ea_cons (ex_fdivW (ex_var (i := 0) rfl) (ex_var (i := 2) rfl) hg) (ea_cons (ex_fdivW (ex_var (i := 1) rfl) (ex_var (i := 2) rfl) hg2) ea_nil))) (divInt_num hb) (divInt_den hb)) ?_
      show Rp _
      rw [hq]
      exact hR2
def ph_partP : Phi Rat := fun args Rp Xp => ∃ t b : Int, args = [.dat t, .dat b] ∧ ok_partP t b ∧ Rp (Rat.divInt t b)
theorem partP_of : ∀ args Rp Xp, ph_partP args Rp Xp → ph_part args Rp Xp := fun args Rp Xp ⟨t, b, h1, ⟨h2, h3⟩, h4⟩ => ⟨t, b, h1, h3, by unfold m_part; rw [if_neg h2]; exact h4⟩
def ph_plus : Phi (Rat) := fun args Rp Xp => ∃ (one_ : Rat) (other_ : Rat), args = [.dat one_, .dat other_] ∧ ok_plus one_ other_ ∧ Rp (m_plus one_ other_)
abbrev s_plus : Stmt := topS 6
theorem sc_plus : FnScope ["one", "other"] ["one", "other"] (defScope s_plus) := ⟨rfl, rfl, rfl, by decide +kernel, rfl, by decide +kernel, by decide +kernel⟩
theorem w_plus {f : Addr} {fd : FuncData} (F : Fun K "plus" "plus" s_plus f fd) (T : Top K mg) (d_part : DefOk P w K mg base "part" 2 ["top", "bottom"] [] (spP K mg 2 ph_part)) : FnOk P w K mg base (L2.CX P w) 3 f fd ["one", "other"] (spP K mg 2 ph_plus) := by
  refine fn_ok F sc_plus rfl ?_
  rintro args Rp Xp ⟨one_, other_, rfl, hok, hR⟩ hl cdv A outer s H E W hr tk
  obtain ⟨v1, v2, v3, v4, hok⟩ := hok
  refine sx_ret (x := (one_ + other_)) (EX.eq (ex_call (n := "part") (d_part.imp partP_of) (hr.mono (by decide)) (ea_cons (ex_add (ex_mulW (ex_ixT (k := 0) (x := one_.num) (ex_var (i := 0) (x := one_) rfl) ex_int rfl) (ex_ixT (k := 1) (x := ((other_.den : Nat) : Int)) (ex_var (i := 1) (x := other_) rfl) ex_int rfl) v1) (ex_mulW (ex_ixT (k := 0) (x := other_.num) (ex_var (i := 1) (x := other_) rfl) ex_int rfl) (ex_ixT (k := 1) (x := ((one_.den : Nat) : Int)) (ex_var (i := 0) (x := one_) rfl) ex_int rfl) v2)) (ea_cons (ex_mulW (ex_ixT (k := 1) (x := ((one_.den : Nat) : Int)) (ex_var (i := 0) (x := one_) rfl) ex_int rfl) (ex_ixT (k := 1) (x := ((other_.den : Nat) : Int)) (ex_var (i := 1) (x := other_) rfl) ex_int rfl) v3) ea_nil)) ⟨((one_.num * ((other_.den : Nat) : Int)) + (other_.num * ((one_.den : Nat) : Int))), (((one_.den : Nat) : Int) * ((other_.den : Nat) : Int)), rfl, v4, rfl⟩ (dvs := []) (dxs := []) (fun _ => trivial)) (plus_eq one_ other_)) ?_
  exact hR
def ph_minus : Phi (Rat) := fun args Rp Xp => ∃ (one_ : Rat) (other_ : Rat), args = [.dat one_, .dat other_] ∧ ok_minus one_ other_ ∧ Rp (m_minus one_ other_)
abbrev s_minus : Stmt := topS 7
theorem sc_minus : FnScope ["one", "other"] ["one", "other"] (defScope s_minus) := ⟨rfl, rfl, rfl, by decide +kernel, rfl, by decide +kernel, by decide +kernel⟩
theorem w_minus {f : Addr} {fd : FuncData} (F : Fun K "minus" "minus" s_minus f fd) (T : Top K mg) (d_part : DefOk P w K mg base "part" 2 ["top", "bottom"] [] (spP K mg 2 ph_part)) : FnOk P w K mg base (L2.CX P w) 3 f fd ["one", "other"] (spP K mg 2 ph_minus) := by
  refine fn_ok F sc_minus rfl ?_
  rintro args Rp Xp ⟨one_, other_, rfl, hok, hR⟩ hl cdv A outer s H E W hr tk
  obtain ⟨v1, v2, v3, v4, hok⟩ := hok
  refine sx_ret (x := (one_ - other_)) (EX.eq (ex_call (n := "part") (d_part.imp partP_of) (hr.mono (by decide)) (ea_cons (ex_sub (ex_mulW (ex_ixT (k := 0) (x := one_.num) (ex_var (i := 0) (x := one_) rfl) ex_int rfl) (ex_ixT (k := 1) (x := ((other_.den : Nat) : Int)) (ex_var (i := 1) (x := other_) rfl) ex_int rfl) v1) (ex_mulW (ex_ixT (k := 0) (x := other_.num) (ex_var (i := 1) (x := other_) rfl) ex_int rfl) (ex_ixT (k := 1) (x := ((one_.den : Nat) : Int)) (ex_var (i := 0) (x := one_) rfl) ex_int rfl) v2)) (ea_cons (ex_mulW (ex_ixT (k := 1) (x := ((one_.den : Nat) : Int)) (ex_var (i := 0) (x := one_) rfl) ex_int rfl) (ex_ixT (k := 1) (x := ((other_.den : Nat) : Int)) (ex_var (i := 1) (x := other_) rfl) ex_int rfl) v3) ea_nil)) ⟨((one_.num * ((other_.den : Nat) : Int)) - (other_.num * ((one_.den : Nat) : Int))), (((one_.den : Nat) : Int) * ((other_.den : Nat) : Int)), rfl, v4, rfl⟩ (dvs := []) (dxs := []) (fun _ => trivial)) (minus_eq one_ other_)) ?_
  exact hR
def ph_times : Phi (Rat) := fun args Rp Xp => ∃ (one_ : Rat) (other_ : Rat), args = [.dat one_, .dat other_] ∧ ok_times one_ other_ ∧ Rp (m_times one_ other_)
abbrev s_times : Stmt := topS 8
theorem sc_times : FnScope ["one", "other"] ["one", "other"] (defScope s_times) := ⟨rfl, rfl, rfl, by decide +kernel, rfl, by decide +kernel, by decide +kernel⟩
theorem w_times {f : Addr} {fd : FuncData} (F : Fun K "times" "times" s_times f fd) (T : Top K mg) (d_part : DefOk P w K mg base "part" 2 ["top", "bottom"] [] (spP K mg 2 ph_part)) : FnOk P w K mg base (L2.CX P w) 3 f fd ["one", "other"] (spP K mg 2 ph_times) := by
  refine fn_ok F sc_times rfl ?_
  rintro args Rp Xp ⟨one_, other_, rfl, hok, hR⟩ hl cdv A outer s H E W hr tk
  obtain ⟨v1, v2, v3, hok⟩ := hok
  refine sx_ret (x := (one_ * other_)) (EX.eq (ex_call (n := "part") (d_part.imp partP_of) (hr.mono (by decide)) (ea_cons (ex_mulW (ex_ixT (k := 0) (x := one_.num) (ex_var (i := 0) (x := one_) rfl) ex_int rfl) (ex_ixT (k := 0) (x := other_.num) (ex_var (i := 1) (x := other_) rfl) ex_int rfl) v1) (ea_cons (ex_mulW (ex_ixT (k := 1) (x := ((one_.den : Nat) : Int)) (ex_var (i := 0) (x := one_) rfl) ex_int rfl) (ex_ixT (k := 1) (x := ((other_.den : Nat) : Int)) (ex_var (i := 1) (x := other_) rfl) ex_int rfl) v2) ea_nil)) ⟨(one_.num * other_.num), (((one_.den : Nat) : Int) * ((other_.den : Nat) : Int)), rfl, v3, rfl⟩ (dvs := []) (dxs := []) (fun _ => trivial)) (times_eq one_ other_)) ?_
  exact hR
def ph_over : Phi (Rat) := fun args Rp Xp => ∃ (one_ : Rat) (other_ : Rat), args = [.dat one_, .dat other_] ∧ ok_over one_ other_ ∧ outP Rp Xp (m_over one_ other_)
abbrev s_over : Stmt := topS 9
theorem sc_over : FnScope ["one", "other"] ["one", "other"] (defScope s_over) := ⟨rfl, rfl, rfl, by decide +kernel, rfl, by decide +kernel, by decide +kernel⟩
theorem w_over {f : Addr} {fd : FuncData} (F : Fun K "over" "over" s_over f fd) (T : Top K mg) (d_part : DefOk P w K mg base "part" 2 ["top", "bottom"] [] (spP K mg 2 ph_part)) : FnOk P w K mg base (L2.CX P w) 3 f fd ["one", "other"] (spP K mg 2 ph_over) := by
  refine fn_ok F sc_over rfl ?_
  rintro args Rp Xp ⟨one_, other_, rfl, hok, hR⟩ hl cdv A outer s H E W hr tk
  obtain ⟨v1, v2, v3, hok⟩ := hok
  have hR : (outP Rp Xp) (m_part (one_.num * ((other_.den : Nat) : Int)) (((one_.den : Nat) : Int) * other_.num)) := hR
  refine sx_retX (exx_call (n := "part") tk d_part (hr.mono (by decide)) (ea_cons (ex_mulW (ex_ixT (k := 0) (x := one_.num) (ex_var (i := 0) (x := one_) rfl) ex_int rfl) (ex_ixT (k := 1) (x := ((other_.den : Nat) : Int)) (ex_var (i := 1) (x := other_) rfl) ex_int rfl) v1) (ea_cons (ex_mulW (ex_ixT (k := 1) (x := ((one_.den : Nat) : Int)) (ex_var (i := 0) (x := one_) rfl) ex_int rfl) (ex_ixT (k := 0) (x := other_.num) (ex_var (i := 1) (x := other_) rfl) ex_int rfl) v2) ea_nil)) ⟨(one_.num * ((other_.den : Nat) : Int)), (((one_.den : Nat) : Int) * other_.num), rfl, v3, outP_self⟩) (fun r hr => ?_) (fun x hx => ?_)
  · rw [hr] at hR; exact hR
  · rw [hx] at hR; exact hR
def ph_under : Phi (Bool) := fun args Rp Xp => ∃ (one_ : Rat) (other_ : Rat), args = [.dat one_, .dat other_] ∧ ok_under one_ other_ ∧ Rp (m_under one_ other_)
abbrev s_under : Stmt := topS 10
theorem sc_under : FnScope ["one", "other"] ["one", "other"] (defScope s_under) := ⟨rfl, rfl, rfl, by decide +kernel, rfl, by decide +kernel, by decide +kernel⟩
theorem w_under {f : Addr} {fd : FuncData} (F : Fun K "under" "under" s_under f fd) (T : Top K mg) : FnOk P w K mg base (L2.CX P w) 1 f fd ["one", "other"] (spP K mg 2 ph_under) := by
  refine fn_ok F sc_under rfl ?_
  rintro args Rp Xp ⟨one_, other_, rfl, hok, hR⟩ hl cdv A outer s H E W hr tk
  obtain ⟨v1, v2, hok⟩ := hok
  refine sx_ret (x := (decide (one_ < other_))) (EX.eq (ex_lt (ex_mulW (ex_ixT (k := 0) (x := one_.num) (ex_var (i := 0) (x := one_) rfl) ex_int rfl) (ex_ixT (k := 1) (x := ((other_.den : Nat) : Int)) (ex_var (i := 1) (x := other_) rfl) ex_int rfl) v1) (ex_mulW (ex_ixT (k := 0) (x := other_.num) (ex_var (i := 1) (x := other_) rfl) ex_int rfl) (ex_ixT (k := 1) (x := ((one_.den : Nat) : Int)) (ex_var (i := 0) (x := one_) rfl) ex_int rfl) v2)) (under_eq one_ other_)) ?_
  exact hR
def ph_l_cell_at : Phi (Int) := fun args Rp Xp => ∃ (script_ : List Int) (k_ : Int), args = [.dat script_, .dat k_] ∧ ok_l_cell_at script_ k_ ∧ Rp (m_l_cell_at script_ k_)
abbrev s_l_cell_at : Stmt := topS 12
theorem sc_l_cell_at : FnScope ["_law_script", "_law_k"] ["_law_script", "_law_k"] (defScope s_l_cell_at) := ⟨rfl, rfl, rfl, by decide +kernel, rfl, by decide +kernel, by decide +kernel⟩
theorem w_l_cell_at {f : Addr} {fd : FuncData} (F : Fun K "_law_cell_at" "_law_cell_at" s_l_cell_at f fd) (T : Top K mg) : FnOk P w K mg base (L2.CX P w) 1 f fd ["_law_script", "_law_k"] (spP K mg 2 ph_l_cell_at) := by
  refine fn_ok F sc_l_cell_at rfl ?_
  rintro args Rp Xp ⟨script_, k_, rfl, hok, hR⟩ hl cdv A outer s H E W hr tk
  refine sx_ifr (k := (decide (k_ < (script_.length : Int)))) (et_lt (ex_var (i := 1) (x := k_) rfl) (ex_len T.b_len (ex_var (i := 0) (x := script_) rfl))) (fun hk2 => ?_) (fun hk2 => ?_)
  · replace hok := hok.1 hk2
    replace hR := cond_t (P := Rp) hk2 hR
    obtain ⟨v1, hok⟩ := hok
    refine sx_ret (x := (List.getD script_ (Int.toNat k_) (0 : Int))) (ex_ixD (ex_var (i := 0) (x := script_) rfl) (ex_var (i := 1) (x := k_) rfl) v1) ?_
    exact hR
  · replace hok := hok.2 hk2
    replace hR := cond_f (P := Rp) hk2 hR
    refine sx_ret (x := (0 : Int)) ex_int ?_
    exact hR
def ph_l_whole : Phi (Bool) := fun args Rp Xp => ∃ (found_ : Int), args = [.dat found_] ∧ ok_l_whole found_ ∧ Rp (m_l_whole found_)
abbrev s_l_whole : Stmt := topS 13
theorem sc_l_whole : FnScope ["_law_found"] ["_law_found"] (defScope s_l_whole) := ⟨rfl, rfl, rfl, by decide +kernel, rfl, by decide +kernel, by decide +kernel⟩
theorem w_l_whole {f : Addr} {fd : FuncData} (F : Fun K "_law_whole" "_law_whole" s_l_whole f fd) (T : Top K mg) : FnOk P w K mg base (L2.CX P w) 1 f fd ["_law_found"] (spP K mg 1 ph_l_whole) := by
  refine fn_ok F sc_l_whole rfl ?_
  rintro args Rp Xp ⟨found_, rfl, hok, hR⟩ hl cdv A outer s H E W hr tk
  refine sx_ret (x := (true && (!false))) (ex_and (ex_isi (c := "int") (k := true) T.b_isinstance T.b_int (ex_var (i := 0) (x := found_) rfl) (by decide +kernel) (by decide +kernel)) (fun hk1 => (ex_one (ex_not (ex_isi (c := "bool") (k := false) T.b_isinstance T.b_bool (ex_var (i := 0) (x := found_) rfl) (by decide +kernel) (by decide +kernel)))))) ?_
  exact hR
def ph_l_shared : Phi (Int) := fun args Rp Xp => ∃ (one_ : Int) (other_ : Int), args = [.dat one_, .dat other_] ∧ ok_l_shared one_ other_ ∧ Rp (m_l_shared one_ other_)
abbrev s_l_shared : Stmt := topS 14
theorem sc_l_shared : FnScope ["_law_one", "_law_other"] ["_law_one", "_law_other"] (defScope s_l_shared) := ⟨rfl, rfl, rfl, by decide +kernel, rfl, by decide +kernel, by decide +kernel⟩
theorem w_l_shared {f : Addr} {fd : FuncData} (F : Fun K "_law_shared" "_law_shared" s_l_shared f fd) (T : Top K mg) : FnOk P w K mg base (L2.CX P w) 1 f fd ["_law_one", "_law_other"] (spP K mg 2 ph_l_shared) := by
  refine fn_ok F sc_l_shared rfl ?_
  rintro args Rp Xp ⟨one_, other_, rfl, hok, hR⟩ hl cdv A outer s H E W hr tk
  refine sx_set (i := 0) sc_l_shared.nd (ex_abs T.b_abs (ex_var (i := 0) rfl)) ?_
  refine sx_set (i := 1) sc_l_shared.nd (ex_abs T.b_abs (ex_var (i := 1) rfl)) ?_
  refine sx_while (S := Int × Int) (fun s => [.dat s.1, .dat s.2]) (fun s => 0 ≤ s.1 ∧ 0 ≤ s.2 ∧ Int.gcd s.1 s.2 = Int.gcd one_ other_) (fun s => s.2.toNat) (fun _ => False) (absI one_, absI other_) (passes_of rfl) (Sub.refl _) ⟨absI_nn _, absI_nn _, by simp only [Int.gcd, absI_nat]⟩ ?_ (fun e h => h.elim)
  rintro ⟨x, y⟩ ⟨h1, h2, h3⟩
  refine ⟨_, et_ne (ex_var (i := 1) rfl) ex_int, fun hk => ?_, fun hk => ?_⟩
  · have hy : 0 < y := by first | exact of_decide_eq_true hk | (simp at hk; have : (0 : Int) ≤ y := h2; omega)
    refine sx_par (i := 0) (j := 1) rfl sc_l_shared.nd (ea_cons (ex_var (i := 1) rfl) (ea_cons (ex_mod (ex_var (i := 0) rfl) (ex_var (i := 1) rfl) hy) ea_nil)) ?_
    refine sx_nil ⟨(y, x % y), Sub.refl _, ⟨h2, Int.emod_nonneg _ (by omega), ?_⟩, ?_⟩
    · rw [← h3]; exact gcd_turn x y
    · have := Int.emod_lt_of_pos x hy
      have := Int.emod_nonneg x (show y ≠ 0 by omega)
      show (x % y).toNat < y.toNat
      omega
  · have hy : y = 0 := by first | (have : ¬ 0 < y := of_decide_eq_false hk; have : (0 : Int) ≤ y := h2; omega) | simpa using hk
    subst hy
    have e : x = gcdI one_ other_ := by
      unfold gcdI
      rw [← h3]
      simp only [Int.gcd_zero_right]
      have : (0 : Int) ≤ x := h1
      omega
    refine sx_ret (x := gcdI one_ other_) (EX.eq (ex_var (i := 0) rfl) e) ?_
    exact hR
def ph_l_fraction : Phi (Rat) := fun args Rp Xp => ∃ (up_ : Int) (down_ : Int), args = [.dat up_, .dat down_] ∧ ok_l_fraction up_ down_ ∧ Rp (m_l_fraction up_ down_)
abbrev s_l_fraction : Stmt := topS 15
theorem sc_l_fraction : FnScope ["_law_up", "_law_down", "_law_top", "_law_bottom", "_law_shared_here"] ["_law_up", "_law_down"] (defScope s_l_fraction) := ⟨rfl, rfl, rfl, by decide +kernel, rfl, by decide +kernel, by decide +kernel⟩
theorem w_l_fraction {f : Addr} {fd : FuncData} (F : Fun K "_law_fraction" "_law_fraction" s_l_fraction f fd) (T : Top K mg) (d_l_shared : DefOk P w K mg base "_law_shared" 1 ["_law_one", "_law_other"] [] (spP K mg 2 ph_l_shared)) : FnOk P w K mg base (L2.CX P w) 2 f fd ["_law_up", "_law_down"] (spP K mg 2 ph_l_fraction) := by
  refine fn_ok F sc_l_fraction rfl ?_
  rintro args Rp Xp ⟨up_, down_, rfl, hok, hR⟩ hl cdv A outer s H E W hr tk
  let top_1 : Int := ((up_ % (200000000001 : Int)) - (100000000000 : Int))
  refine sx_set (i := 2) sc_l_fraction.nd (x := top_1) (ex_sub (ex_mod (ex_var (i := 0) (x := up_) rfl) (EX.eq (x' := (200000000001 : Int)) (ex_add (ex_mul ex_int (ex_pow ex_int ex_int ⟨by decide, by decide, by decide⟩) (.inl ⟨by decide, by decide⟩)) ex_int) (by decide)) (by decide)) (EX.eq (x' := (100000000000 : Int)) (ex_pow ex_int ex_int ⟨by decide, by decide, by decide⟩) (by decide))) ?_
  let bottom_2 : Int := ((1 : Int) + ((down_ / (3 : Int)) % (100000000000 : Int)))
  refine sx_set (i := 3) sc_l_fraction.nd (x := bottom_2) (ex_add ex_int (ex_mod (ex_fdiv (ex_var (i := 1) (x := down_) rfl) ex_int ⟨by decide, by decide⟩) (EX.eq (x' := (100000000000 : Int)) (ex_pow ex_int ex_int ⟨by decide, by decide, by decide⟩) (by decide)) (by decide))) ?_
  obtain ⟨hok1, hok2, hok⟩ := hok
  refine sx_ifj' (k := (decide ((down_ % (3 : Int)) = (1 : Int)))) (fun (s : (Int × Int)) (e : Env') => (List.set (List.set e 2 (.dat s.1)) 3 (.dat s.2))) ((let top_3 : Int := ((up_ % (41 : Int)) - (20 : Int)); (let bottom_4 : Int := ((1 : Int) + ((down_ / (3 : Int)) % (12 : Int))); (top_3, bottom_4))) : (Int × Int)) ((top_1, bottom_2) : (Int × Int)) (et_eq (ex_mod (ex_var (i := 1) (x := down_) rfl) ex_int (by decide)) ex_int) (fun hk5 => ?_) (fun hk5 => ?_) ?_
  · replace hok := hok1 hk5
    let top_3 : Int := ((up_ % (41 : Int)) - (20 : Int))
    refine sx_set (i := 2) sc_l_fraction.nd (x := top_3) (ex_sub (ex_mod (ex_var (i := 0) (x := up_) rfl) ex_int (by decide)) ex_int) ?_
    let bottom_4 : Int := ((1 : Int) + ((down_ / (3 : Int)) % (12 : Int)))
    refine sx_set (i := 3) sc_l_fraction.nd (x := bottom_4) (ex_add ex_int (ex_mod (ex_fdiv (ex_var (i := 1) (x := down_) rfl) ex_int ⟨by decide, by decide⟩) ex_int (by decide))) ?_
    exact sx_nil (by repeat' (first | exact trivial | refine ⟨.inr rfl, ?_⟩ | refine ⟨.inl rfl, ?_⟩))
  · replace hok := hok2 hk5
    exact sx_nil (by repeat' (first | exact trivial | refine ⟨.inr rfl, ?_⟩ | refine ⟨.inl rfl, ?_⟩))
  let j6 : (Int × Int) := cond (decide ((down_ % (3 : Int)) = (1 : Int))) (let top_3 : Int := ((up_ % (41 : Int)) - (20 : Int)); (let bottom_4 : Int := ((1 : Int) + ((down_ / (3 : Int)) % (12 : Int))); (top_3, bottom_4))) (top_1, bottom_2)
  let top_7 : Int := j6.1
  let bottom_8 : Int := j6.2
  obtain ⟨hok1, hok2, hok⟩ := hok
  refine sx_ifj' (k := (decide ((down_ % (3 : Int)) = (2 : Int)))) (fun (s : Int) (e : Env') => (List.set e 3 (.dat s))) ((let bottom_9 : Int := (1 : Int); bottom_9) : Int) (bottom_8 : Int) (et_eq (ex_mod (ex_var (i := 1) (x := down_) rfl) ex_int (by decide)) ex_int) (fun hk10 => ?_) (fun hk10 => ?_) ?_
  · replace hok := hok1 hk10
    let bottom_9 : Int := (1 : Int)
    refine sx_set (i := 3) sc_l_fraction.nd (x := bottom_9) ex_int ?_
    exact sx_nil (by repeat' (first | exact trivial | refine ⟨.inr rfl, ?_⟩ | refine ⟨.inl rfl, ?_⟩))
  · replace hok := hok2 hk10
    exact sx_nil (by repeat' (first | exact trivial | refine ⟨.inr rfl, ?_⟩ | refine ⟨.inl rfl, ?_⟩))
  let j11 : Int := cond (decide ((down_ % (3 : Int)) = (2 : Int))) (let bottom_9 : Int := (1 : Int); bottom_9) bottom_8
  let bottom_12 : Int := j11
  let shared_here_13 : Int := (m_l_shared top_7 bottom_12)
  refine sx_set (i := 4) sc_l_fraction.nd (x := shared_here_13) (ex_call (n := "_law_shared") d_l_shared (hr.mono (by decide)) (ea_cons (ex_var (i := 2) (x := top_7) rfl) (ea_cons (ex_var (i := 3) (x := bottom_12) rfl) ea_nil)) ⟨top_7, bottom_12, rfl, (okt_l_shared top_7 bottom_12), rfl⟩ (dvs := []) (dxs := []) (fun _ => trivial)) ?_
  obtain ⟨v14, v15, v16, hok⟩ := hok
  refine sx_ret (x := (Rat.divInt ((top_7 / shared_here_13)) ((bottom_12 / shared_here_13)))) (ex_isQ (ex_tup (p := ((top_7 / shared_here_13), (bottom_12 / shared_here_13))) (ea_cons (ex_fdivW (ex_var (i := 2) (x := top_7) rfl) (ex_var (i := 4) (x := shared_here_13) rfl) v14) (ea_cons (ex_fdivW (ex_var (i := 3) (x := bottom_12) rfl) (ex_var (i := 4) (x := shared_here_13) rfl) v15) ea_nil))) v16) ?_
  exact hR
def ph_l_is : Phi (Bool) := fun args Rp Xp => ∃ (found_ : Rat) (top_ : Int) (bottom_ : Int), args = [.dat found_, .dat top_, .dat bottom_] ∧ ok_l_is found_ top_ bottom_ ∧ Rp (m_l_is found_ top_ bottom_)
abbrev s_l_is : Stmt := topS 16
theorem sc_l_is : FnScope ["_law_found", "_law_top", "_law_bottom"] ["_law_found", "_law_top", "_law_bottom"] (defScope s_l_is) := ⟨rfl, rfl, rfl, by decide +kernel, rfl, by decide +kernel, by decide +kernel⟩
theorem w_l_is {f : Addr} {fd : FuncData} (F : Fun K "_law_is" "_law_is" s_l_is f fd) (T : Top K mg) (d_l_whole : DefOk P w K mg base "_law_whole" 1 ["_law_found"] [] (spP K mg 1 ph_l_whole)) (d_l_shared : DefOk P w K mg base "_law_shared" 1 ["_law_one", "_law_other"] [] (spP K mg 2 ph_l_shared)) : FnOk P w K mg base (L2.CX P w) 2 f fd ["_law_found", "_law_top", "_law_bottom"] (spP K mg 3 ph_l_is) := by
  refine fn_ok F sc_l_is rfl ?_
  rintro args Rp Xp ⟨found_, top_, bottom_, rfl, hok, hR⟩ hl cdv A outer s H E W hr tk
  refine sx_ifr (k := ((!true) || (!decide ((2 : Int) = (2 : Int))))) (et_bool (ew_or (et_not (et_val (ex_isi (c := "tuple") (k := true) T.b_isinstance T.b_tuple (ex_var (i := 0) (x := found_) rfl) (by decide +kernel) (by decide +kernel)))) (fun hk1 => (ew_or1 (et_ne (ex_lenT (n := (2 : Int)) T.b_len (ex_var (i := 0) (x := found_) rfl)) ex_int))))) (fun hk8 => ?_) (fun hk8 => ?_)
  · replace hok := hok.1 hk8
    replace hR := cond_t (P := Rp) hk8 hR
    refine sx_ret (x := false) ex_bl ?_
    exact hR
  · replace hok := hok.2 hk8
    replace hR := cond_f (P := Rp) hk8 hR
    refine sx_ifr (k := ((!(m_l_whole found_.num)) || (!(m_l_whole ((found_.den : Nat) : Int))))) (et_bool (ew_or (et_not (et_val (ex_call (n := "_law_whole") d_l_whole (hr.mono (by decide)) (ea_cons (ex_ixT (k := 0) (x := found_.num) (ex_var (i := 0) (x := found_) rfl) ex_int rfl) ea_nil) ⟨found_.num, rfl, (okt_l_whole found_.num), rfl⟩ (dvs := []) (dxs := []) (fun _ => trivial)))) (fun hk2 => (ew_or1 (et_not (et_val (ex_call (n := "_law_whole") d_l_whole (hr.mono (by decide)) (ea_cons (ex_ixT (k := 1) (x := ((found_.den : Nat) : Int)) (ex_var (i := 0) (x := found_) rfl) ex_int rfl) ea_nil) ⟨((found_.den : Nat) : Int), rfl, (okt_l_whole ((found_.den : Nat) : Int)), rfl⟩ (dvs := []) (dxs := []) (fun _ => trivial)))))))) (fun hk7 => ?_) (fun hk7 => ?_)
    · replace hok := hok.1 hk7
      replace hR := cond_t (P := Rp) hk7 hR
      refine sx_ret (x := false) ex_bl ?_
      exact hR
    · replace hok := hok.2 hk7
      replace hR := cond_f (P := Rp) hk7 hR
      refine sx_ifr (k := ((decide (((found_.den : Nat) : Int) < (1 : Int))) || (!decide ((m_l_shared found_.num ((found_.den : Nat) : Int)) = (1 : Int))))) (et_bool (ew_or (et_lt (ex_ixT (k := 1) (x := ((found_.den : Nat) : Int)) (ex_var (i := 0) (x := found_) rfl) ex_int rfl) ex_int) (fun hk3 => (ew_or1 (et_ne (ex_call (n := "_law_shared") d_l_shared (hr.mono (by decide)) (ea_cons (ex_ixT (k := 0) (x := found_.num) (ex_var (i := 0) (x := found_) rfl) ex_int rfl) (ea_cons (ex_ixT (k := 1) (x := ((found_.den : Nat) : Int)) (ex_var (i := 0) (x := found_) rfl) ex_int rfl) ea_nil)) ⟨found_.num, ((found_.den : Nat) : Int), rfl, (okt_l_shared found_.num ((found_.den : Nat) : Int)), rfl⟩ (dvs := []) (dxs := []) (fun _ => trivial)) ex_int))))) (fun hk6 => ?_) (fun hk6 => ?_)
      · replace hok := hok.1 hk6
        replace hR := cond_t (P := Rp) hk6 hR
        refine sx_ret (x := false) ex_bl ?_
        exact hR
      · replace hok := hok.2 hk6
        replace hR := cond_f (P := Rp) hk6 hR
        obtain ⟨v4, v5, hok⟩ := hok
        refine sx_ret (x := (decide ((found_.num * bottom_) = (((found_.den : Nat) : Int) * top_)))) (ex_eq (ex_mulW (ex_ixT (k := 0) (x := found_.num) (ex_var (i := 0) (x := found_) rfl) ex_int rfl) (ex_var (i := 2) (x := bottom_) rfl) v4) (ex_mulW (ex_ixT (k := 1) (x := ((found_.den : Nat) : Int)) (ex_var (i := 0) (x := found_) rfl) ex_int rfl) (ex_var (i := 1) (x := top_) rfl) v5)) ?_
        exact hR
def ph_l_over : Phi (Bool) := fun args Rp Xp => ∃ (one_ : Rat) (other_ : Rat), args = [.dat one_, .dat other_] ∧ ok_l_over one_ other_ ∧ Rp (m_l_over one_ other_)
abbrev s_l_over : Stmt := topS 17
theorem sc_l_over : FnScope ["_law_one", "_law_other", "_law_refused", "_law_found"] ["_law_one", "_law_other"] (defScope s_l_over) := ⟨rfl, rfl, rfl, by decide +kernel, rfl, by decide +kernel, by decide +kernel⟩
theorem w_l_over {f : Addr} {fd : FuncData} (F : Fun K "_law_over" "_law_over" s_l_over f fd) (T : Top K mg) (d_over : DefOk P w K mg base "over" 3 ["one", "other"] [] (spP K mg 2 ph_over)) (d_l_is : DefOk P w K mg base "_law_is" 2 ["_law_found", "_law_top", "_law_bottom"] [] (spP K mg 3 ph_l_is)) : FnOk P w K mg base (L2.CX P w) 4 f fd ["_law_one", "_law_other"] (spP K mg 2 ph_l_over) := by
  refine fn_ok F sc_l_over rfl ?_
  rintro args Rp Xp ⟨one_, other_, rfl, hok, hR⟩ hl cdv A outer s H E W hr tk
  let refused_1 : Bool := false
  refine sx_set (i := 2) sc_l_over.nd (x := refused_1) ex_bl ?_
  let found_2 : Option (Rat) := (none : Option (Rat))
  refine sx_set (i := 3) sc_l_over.nd (x := found_2) (ex_noneO (α := Rat) ex_non) ?_
  obtain ⟨hv, hok1, hok2, hok⟩ := hok
  refine sx_tryO' (all := [("FrameError" : Str), ("NoPart" : Str)]) (some' := [("NoPart" : Str)]) (fun (s : (Option (Rat) × Bool)) (e : Env') => (List.set (List.set e 3 (.dat s.1)) 2 (.dat s.2))) (((m_over one_ other_).bind (fun found_4 => (.ok ((some found_4), refused_1)))) : Except Exn ((Option (Rat) × Bool))) (fun (e6 : Exn) => (let refused_7 : Bool := true; (found_2, refused_7))) rfl rfl T.c_NoPart tk hv (fun W' pn xe tk' hp' => ?_) (fun e6 hm17 ad oe cls d pn hz hfd => ?_) ?_
  · have hok := hok1
    have hR : (outP (fun s => (((m_over one_ other_).bind (fun found_4 => (.ok ((some found_4), refused_1)))) : Except Exn ((Option (Rat) × Bool))) = .ok s) (fun e => (((m_over one_ other_).bind (fun found_4 => (.ok ((some found_4), refused_1)))) : Except Exn ((Option (Rat) × Bool))) = .error e)) (((m_over one_ other_).bind (fun found_4 => (.ok ((some found_4), refused_1)))) : Except Exn ((Option (Rat) × Bool))) := outP_self
    obtain ⟨v3, hok⟩ := hok
    refine sx_setX (i := 3) sc_l_over.nd (exx_some (exx_call (n := "over") tk' d_over (hr.mono (by decide)) (ea_cons (ex_var (i := 0) (x := one_) rfl) (ea_cons (ex_var (i := 1) (x := other_) rfl) ea_nil)) ⟨one_, other_, rfl, v3, outP_self⟩)) (fun r hr => ?_) (fun x hx => ?_)
    · obtain ⟨found_4, hx5, rfl⟩ := hr
      replace hok := hok found_4 hx5
      replace hR := bind_ok hx5 hR
      exact sx_nil ⟨_, hR, (by repeat' (first | exact trivial | refine ⟨.inr rfl, ?_⟩ | refine ⟨.inl rfl, ?_⟩))⟩
    · exact ⟨bind_err hx hR, rfl⟩
  · replace hok := hok2 e6 hm17
    let refused_7 : Bool := true
    refine sx_set (i := 2) sc_l_over.nd (x := refused_7) ex_bl ?_
    exact sx_nil (by repeat' (first | exact trivial | refine ⟨.inr rfl, ?_⟩ | refine ⟨.inl rfl, ?_⟩))
  · skip
    let j8 : (Option (Rat) × Bool) := tryV (((m_over one_ other_).bind (fun found_4 => (.ok ((some found_4), refused_1)))) : Except Exn ((Option (Rat) × Bool))) (fun (e6 : Exn) => (let refused_7 : Bool := true; (found_2, refused_7)))
    let found_9 : Option (Rat) := j8.1
    let refused_10 : Bool := j8.2
    refine sx_ifr (k := (decide (other_.num = (0 : Int)))) (et_eq (ex_ixT (k := 0) (x := other_.num) (ex_var (i := 1) (x := other_) rfl) ex_int rfl) ex_int) (fun hk16 => ?_) (fun hk16 => ?_)
    · replace hok := hok.1 hk16
      replace hR := cond_t (P := Rp) hk16 hR
      refine sx_ret (x := refused_10) (ex_var (i := 2) (x := refused_10) rfl) ?_
      exact hR
    · replace hok := hok.2 hk16
      replace hR := cond_f (P := Rp) hk16 hR
      obtain ⟨v12, v13, v14, v15, hok⟩ := hok
      refine sx_ret (x := ((!refused_10) && (m_l_is (found_9.getD (0 : Rat)) (one_.num * ((other_.den : Nat) : Int)) (((one_.den : Nat) : Int) * other_.num)))) (ex_and (ex_not (ex_var (i := 2) (x := refused_10) rfl)) (fun hk11 => (ex_one (ex_call (n := "_law_is") d_l_is (hr.mono (by decide)) (ea_cons (ex_getO (x0 := (0 : Rat)) (ex_var (i := 3) (x := found_9) rfl) (v12 hk11)) (ea_cons (ex_mulW (ex_ixT (k := 0) (x := one_.num) (ex_var (i := 0) (x := one_) rfl) ex_int rfl) (ex_ixT (k := 1) (x := ((other_.den : Nat) : Int)) (ex_var (i := 1) (x := other_) rfl) ex_int rfl) (v13 hk11)) (ea_cons (ex_mulW (ex_ixT (k := 1) (x := ((one_.den : Nat) : Int)) (ex_var (i := 0) (x := one_) rfl) ex_int rfl) (ex_ixT (k := 0) (x := other_.num) (ex_var (i := 1) (x := other_) rfl) ex_int rfl) (v14 hk11)) ea_nil))) ⟨(found_9.getD (0 : Rat)), (one_.num * ((other_.den : Nat) : Int)), (((one_.den : Nat) : Int) * other_.num), rfl, (v15 hk11), rfl⟩ (dvs := []) (dxs := []) (fun _ => trivial))))) ?_
      exact hR
def ph_l_both : Phi (Bool) := fun args Rp Xp => ∃ (one_ : Rat) (other_ : Rat), args = [.dat one_, .dat other_] ∧ ok_l_both one_ other_ ∧ Rp (m_l_both one_ other_)
abbrev s_l_both : Stmt := topS 18
theorem sc_l_both : FnScope ["_law_one", "_law_other", "_law_left", "_law_right", "_law_bottom", "_law_less"] ["_law_one", "_law_other"] (defScope s_l_both) := ⟨rfl, rfl, rfl, by decide +kernel, rfl, by decide +kernel, by decide +kernel⟩
theorem w_l_both {f : Addr} {fd : FuncData} (F : Fun K "_law_both" "_law_both" s_l_both f fd) (T : Top K mg) (d_under : DefOk P w K mg base "under" 1 ["one", "other"] [] (spP K mg 2 ph_under)) (d_l_is : DefOk P w K mg base "_law_is" 2 ["_law_found", "_law_top", "_law_bottom"] [] (spP K mg 3 ph_l_is)) (d_l_over : DefOk P w K mg base "_law_over" 4 ["_law_one", "_law_other"] [] (spP K mg 2 ph_l_over)) (d_plus : DefOk P w K mg base "plus" 3 ["one", "other"] [] (spP K mg 2 ph_plus)) (d_minus : DefOk P w K mg base "minus" 3 ["one", "other"] [] (spP K mg 2 ph_minus)) (d_times : DefOk P w K mg base "times" 3 ["one", "other"] [] (spP K mg 2 ph_times)) : FnOk P w K mg base (L2.CX P w) 5 f fd ["_law_one", "_law_other"] (spP K mg 2 ph_l_both) := by
  refine fn_ok F sc_l_both rfl ?_
  rintro args Rp Xp ⟨one_, other_, rfl, hok, hR⟩ hl cdv A outer s H E W hr tk
  obtain ⟨v2, hok⟩ := hok
  let left_1 : Int := (one_.num * ((other_.den : Nat) : Int))
  refine sx_set (i := 2) sc_l_both.nd (x := left_1) (ex_mulW (ex_ixT (k := 0) (x := one_.num) (ex_var (i := 0) (x := one_) rfl) ex_int rfl) (ex_ixT (k := 1) (x := ((other_.den : Nat) : Int)) (ex_var (i := 1) (x := other_) rfl) ex_int rfl) v2) ?_
  obtain ⟨v4, hok⟩ := hok
  let right_3 : Int := (other_.num * ((one_.den : Nat) : Int))
  refine sx_set (i := 3) sc_l_both.nd (x := right_3) (ex_mulW (ex_ixT (k := 0) (x := other_.num) (ex_var (i := 1) (x := other_) rfl) ex_int rfl) (ex_ixT (k := 1) (x := ((one_.den : Nat) : Int)) (ex_var (i := 0) (x := one_) rfl) ex_int rfl) v4) ?_
  obtain ⟨v6, hok⟩ := hok
  let bottom_5 : Int := (((one_.den : Nat) : Int) * ((other_.den : Nat) : Int))
  refine sx_set (i := 4) sc_l_both.nd (x := bottom_5) (ex_mulW (ex_ixT (k := 1) (x := ((one_.den : Nat) : Int)) (ex_var (i := 0) (x := one_) rfl) ex_int rfl) (ex_ixT (k := 1) (x := ((other_.den : Nat) : Int)) (ex_var (i := 1) (x := other_) rfl) ex_int rfl) v6) ?_
  obtain ⟨v7, v8, v10, v11, hok⟩ := hok
  refine sx_ifr (k := ((!(m_l_is (m_plus one_ other_) (left_1 + right_3) bottom_5)) || (!(m_l_is (m_minus one_ other_) (left_1 - right_3) bottom_5)))) (et_bool (ew_or (et_not (et_val (ex_call (n := "_law_is") d_l_is (hr.mono (by decide)) (ea_cons (ex_call (n := "plus") d_plus (hr.mono (by decide)) (ea_cons (ex_var (i := 0) (x := one_) rfl) (ea_cons (ex_var (i := 1) (x := other_) rfl) ea_nil)) ⟨one_, other_, rfl, v7, rfl⟩ (dvs := []) (dxs := []) (fun _ => trivial)) (ea_cons (ex_add (ex_var (i := 2) (x := left_1) rfl) (ex_var (i := 3) (x := right_3) rfl)) (ea_cons (ex_var (i := 4) (x := bottom_5) rfl) ea_nil))) ⟨(m_plus one_ other_), (left_1 + right_3), bottom_5, rfl, v8, rfl⟩ (dvs := []) (dxs := []) (fun _ => trivial)))) (fun hk9 => (ew_or1 (et_not (et_val (ex_call (n := "_law_is") d_l_is (hr.mono (by decide)) (ea_cons (ex_call (n := "minus") d_minus (hr.mono (by decide)) (ea_cons (ex_var (i := 0) (x := one_) rfl) (ea_cons (ex_var (i := 1) (x := other_) rfl) ea_nil)) ⟨one_, other_, rfl, (v10 hk9), rfl⟩ (dvs := []) (dxs := []) (fun _ => trivial)) (ea_cons (ex_sub (ex_var (i := 2) (x := left_1) rfl) (ex_var (i := 3) (x := right_3) rfl)) (ea_cons (ex_var (i := 4) (x := bottom_5) rfl) ea_nil))) ⟨(m_minus one_ other_), (left_1 - right_3), bottom_5, rfl, (v11 hk9), rfl⟩ (dvs := []) (dxs := []) (fun _ => trivial)))))))) (fun hk21 => ?_) (fun hk21 => ?_)
  · replace hok := hok.1 hk21
    replace hR := cond_t (P := Rp) hk21 hR
    refine sx_ret (x := false) ex_bl ?_
    exact hR
  · replace hok := hok.2 hk21
    replace hR := cond_f (P := Rp) hk21 hR
    obtain ⟨v12, v13, v14, v16, hok⟩ := hok
    refine sx_ifr (k := ((!(m_l_is (m_times one_ other_) (one_.num * other_.num) bottom_5)) || (!(m_l_over one_ other_)))) (et_bool (ew_or (et_not (et_val (ex_call (n := "_law_is") d_l_is (hr.mono (by decide)) (ea_cons (ex_call (n := "times") d_times (hr.mono (by decide)) (ea_cons (ex_var (i := 0) (x := one_) rfl) (ea_cons (ex_var (i := 1) (x := other_) rfl) ea_nil)) ⟨one_, other_, rfl, v12, rfl⟩ (dvs := []) (dxs := []) (fun _ => trivial)) (ea_cons (ex_mulW (ex_ixT (k := 0) (x := one_.num) (ex_var (i := 0) (x := one_) rfl) ex_int rfl) (ex_ixT (k := 0) (x := other_.num) (ex_var (i := 1) (x := other_) rfl) ex_int rfl) v13) (ea_cons (ex_var (i := 4) (x := bottom_5) rfl) ea_nil))) ⟨(m_times one_ other_), (one_.num * other_.num), bottom_5, rfl, v14, rfl⟩ (dvs := []) (dxs := []) (fun _ => trivial)))) (fun hk15 => (ew_or1 (et_not (et_val (ex_call (n := "_law_over") d_l_over (hr.mono (by decide)) (ea_cons (ex_var (i := 0) (x := one_) rfl) (ea_cons (ex_var (i := 1) (x := other_) rfl) ea_nil)) ⟨one_, other_, rfl, (v16 hk15), rfl⟩ (dvs := []) (dxs := []) (fun _ => trivial)))))))) (fun hk20 => ?_) (fun hk20 => ?_)
    · replace hok := hok.1 hk20
      replace hR := cond_t (P := Rp) hk20 hR
      refine sx_ret (x := false) ex_bl ?_
      exact hR
    · replace hok := hok.2 hk20
      replace hR := cond_f (P := Rp) hk20 hR
      obtain ⟨v18, hok⟩ := hok
      let less_17 : Bool := (m_under one_ other_)
      refine sx_set (i := 5) sc_l_both.nd (x := less_17) (ex_call (n := "under") d_under (hr.mono (by decide)) (ea_cons (ex_var (i := 0) (x := one_) rfl) (ea_cons (ex_var (i := 1) (x := other_) rfl) ea_nil)) ⟨one_, other_, rfl, v18, rfl⟩ (dvs := []) (dxs := []) (fun _ => trivial)) ?_
      refine sx_ret (x := (true && (decide (less_17 = (decide (left_1 < right_3)))))) (ex_and (ex_isi (c := "bool") (k := true) T.b_isinstance T.b_bool (ex_var (i := 5) (x := less_17) rfl) (by decide +kernel) (by decide +kernel)) (fun hk19 => (ex_one (ex_eq (ex_var (i := 5) (x := less_17) rfl) (ex_lt (ex_var (i := 2) (x := left_1) rfl) (ex_var (i := 3) (x := right_3) rfl)))))) ?_
      exact hR
def ph_law : Phi (Bool) := fun args Rp Xp => ∃ (script_ : List Int), args = [.dat script_] ∧ ok_law script_ ∧ Rp (m_law script_)
abbrev s_law : Stmt := topS 19
theorem sc_law : FnScope ["_law_script", "_law_one", "_law_other", "_law_way"] ["_law_script"] (defScope s_law) := ⟨rfl, rfl, rfl, by decide +kernel, rfl, by decide +kernel, by decide +kernel⟩
theorem w_law {f : Addr} {fd : FuncData} (F : Fun K "law" "law" s_law f fd) (T : Top K mg) (d_l_fraction : DefOk P w K mg base "_law_fraction" 2 ["_law_up", "_law_down"] [] (spP K mg 2 ph_l_fraction)) (d_l_cell_at : DefOk P w K mg base "_law_cell_at" 1 ["_law_script", "_law_k"] [] (spP K mg 2 ph_l_cell_at)) (d_l_both : DefOk P w K mg base "_law_both" 5 ["_law_one", "_law_other"] [] (spP K mg 2 ph_l_both)) : FnOk P w K mg base (L2.CX P w) 6 f fd ["_law_script"] (spP K mg 1 ph_law) := by
  refine fn_ok F sc_law rfl ?_
  rintro args Rp Xp ⟨script_, rfl, hok, hR⟩ hl cdv A outer s H E W hr tk
  obtain ⟨v2, v3, v4, hok⟩ := hok
  let one_1 : Rat := (m_l_fraction (m_l_cell_at script_ (0 : Int)) (m_l_cell_at script_ (1 : Int)))
  refine sx_set (i := 1) sc_law.nd (x := one_1) (ex_call (n := "_law_fraction") d_l_fraction (hr.mono (by decide)) (ea_cons (ex_call (n := "_law_cell_at") d_l_cell_at (hr.mono (by decide)) (ea_cons (ex_var (i := 0) (x := script_) rfl) (ea_cons ex_int ea_nil)) ⟨script_, (0 : Int), rfl, v2, rfl⟩ (dvs := []) (dxs := []) (fun _ => trivial)) (ea_cons (ex_call (n := "_law_cell_at") d_l_cell_at (hr.mono (by decide)) (ea_cons (ex_var (i := 0) (x := script_) rfl) (ea_cons ex_int ea_nil)) ⟨script_, (1 : Int), rfl, v3, rfl⟩ (dvs := []) (dxs := []) (fun _ => trivial)) ea_nil)) ⟨(m_l_cell_at script_ (0 : Int)), (m_l_cell_at script_ (1 : Int)), rfl, v4, rfl⟩ (dvs := []) (dxs := []) (fun _ => trivial)) ?_
  obtain ⟨v6, v7, v8, hok⟩ := hok
  let other_5 : Rat := (m_l_fraction (m_l_cell_at script_ (2 : Int)) (m_l_cell_at script_ (3 : Int)))
  refine sx_set (i := 2) sc_law.nd (x := other_5) (ex_call (n := "_law_fraction") d_l_fraction (hr.mono (by decide)) (ea_cons (ex_call (n := "_law_cell_at") d_l_cell_at (hr.mono (by decide)) (ea_cons (ex_var (i := 0) (x := script_) rfl) (ea_cons ex_int ea_nil)) ⟨script_, (2 : Int), rfl, v6, rfl⟩ (dvs := []) (dxs := []) (fun _ => trivial)) (ea_cons (ex_call (n := "_law_cell_at") d_l_cell_at (hr.mono (by decide)) (ea_cons (ex_var (i := 0) (x := script_) rfl) (ea_cons ex_int ea_nil)) ⟨script_, (3 : Int), rfl, v7, rfl⟩ (dvs := []) (dxs := []) (fun _ => trivial)) ea_nil)) ⟨(m_l_cell_at script_ (2 : Int)), (m_l_cell_at script_ (3 : Int)), rfl, v8, rfl⟩ (dvs := []) (dxs := []) (fun _ => trivial)) ?_
  obtain ⟨v10, hok⟩ := hok
  let way_9 : Int := ((m_l_cell_at script_ (4 : Int)) % (6 : Int))
  refine sx_set (i := 3) sc_law.nd (x := way_9) (ex_mod (ex_call (n := "_law_cell_at") d_l_cell_at (hr.mono (by decide)) (ea_cons (ex_var (i := 0) (x := script_) rfl) (ea_cons ex_int ea_nil)) ⟨script_, (4 : Int), rfl, v10, rfl⟩ (dvs := []) (dxs := []) (fun _ => trivial)) ex_int (by decide)) ?_
  obtain ⟨hok1, hok2, hok⟩ := hok
  refine sx_ifj' (k := (decide (way_9 = (1 : Int)))) (fun (s : Rat) (e : Env') => (List.set e 2 (.dat s))) ((let other_11 : Rat := one_1; other_11) : Rat) (other_5 : Rat) (et_eq (ex_var (i := 3) (x := way_9) rfl) ex_int) (fun hk12 => ?_) (fun hk12 => ?_) ?_
  · replace hok := hok1 hk12
    let other_11 : Rat := one_1
    refine sx_set (i := 2) sc_law.nd (x := other_11) (ex_var (i := 1) (x := one_1) rfl) ?_
    exact sx_nil (by repeat' (first | exact trivial | refine ⟨.inr rfl, ?_⟩ | refine ⟨.inl rfl, ?_⟩))
  · replace hok := hok2 hk12
    exact sx_nil (by repeat' (first | exact trivial | refine ⟨.inr rfl, ?_⟩ | refine ⟨.inl rfl, ?_⟩))
  let j13 : Rat := cond (decide (way_9 = (1 : Int))) (let other_11 : Rat := one_1; other_11) other_5
  let other_14 : Rat := j13
  obtain ⟨hok1, hok2, hok⟩ := hok
  refine sx_ifj' (k := (decide (way_9 = (2 : Int)))) (fun (s : Rat) (e : Env') => (List.set e 2 (.dat s))) ((let other_15 : Rat := (Rat.divInt (((0 : Int) - one_1.num)) (((one_1.den : Nat) : Int))); other_15) : Rat) (other_14 : Rat) (et_eq (ex_var (i := 3) (x := way_9) rfl) ex_int) (fun hk17 => ?_) (fun hk17 => ?_) ?_
  · replace hok := hok1 hk17
    obtain ⟨v16, hok⟩ := hok
    let other_15 : Rat := (Rat.divInt (((0 : Int) - one_1.num)) (((one_1.den : Nat) : Int)))
    refine sx_set (i := 2) sc_law.nd (x := other_15) (ex_isQ (ex_tup (p := (((0 : Int) - one_1.num), ((one_1.den : Nat) : Int))) (ea_cons (ex_sub ex_int (ex_ixT (k := 0) (x := one_1.num) (ex_var (i := 1) (x := one_1) rfl) ex_int rfl)) (ea_cons (ex_ixT (k := 1) (x := ((one_1.den : Nat) : Int)) (ex_var (i := 1) (x := one_1) rfl) ex_int rfl) ea_nil))) v16) ?_
    exact sx_nil (by repeat' (first | exact trivial | refine ⟨.inr rfl, ?_⟩ | refine ⟨.inl rfl, ?_⟩))
  · replace hok := hok2 hk17
    exact sx_nil (by repeat' (first | exact trivial | refine ⟨.inr rfl, ?_⟩ | refine ⟨.inl rfl, ?_⟩))
  let j18 : Rat := cond (decide (way_9 = (2 : Int))) (let other_15 : Rat := (Rat.divInt (((0 : Int) - one_1.num)) (((one_1.den : Nat) : Int))); other_15) other_14
  let other_19 : Rat := j18
  obtain ⟨hok1, hok2, hok⟩ := hok
  refine sx_ifj' (k := (decide (way_9 = (3 : Int)))) (fun (s : Rat) (e : Env') => (List.set e 2 (.dat s))) ((let other_20 : Rat := (0 : Rat); other_20) : Rat) (other_19 : Rat) (et_eq (ex_var (i := 3) (x := way_9) rfl) ex_int) (fun hk21 => ?_) (fun hk21 => ?_) ?_
  · replace hok := hok1 hk21
    let other_20 : Rat := (0 : Rat)
    refine sx_set (i := 2) sc_law.nd (x := other_20) (ex_rat (q := (0 : Rat)) (ex_tup (p := ((0 : Int), (1 : Int))) (ea_cons ex_int (ea_cons ex_int ea_nil))) (by decide) (by decide)) ?_
    exact sx_nil (by repeat' (first | exact trivial | refine ⟨.inr rfl, ?_⟩ | refine ⟨.inl rfl, ?_⟩))
  · replace hok := hok2 hk21
    exact sx_nil (by repeat' (first | exact trivial | refine ⟨.inr rfl, ?_⟩ | refine ⟨.inl rfl, ?_⟩))
  let j22 : Rat := cond (decide (way_9 = (3 : Int))) (let other_20 : Rat := (0 : Rat); other_20) other_19
  let other_23 : Rat := j22
  obtain ⟨v24, v26, hok⟩ := hok
  refine sx_ret (x := ((m_l_both one_1 other_23) && (m_l_both other_23 one_1))) (ex_and (ex_call (n := "_law_both") d_l_both (hr.mono (by decide)) (ea_cons (ex_var (i := 1) (x := one_1) rfl) (ea_cons (ex_var (i := 2) (x := other_23) rfl) ea_nil)) ⟨one_1, other_23, rfl, v24, rfl⟩ (dvs := []) (dxs := []) (fun _ => trivial)) (fun hk25 => (ex_one (ex_call (n := "_law_both") d_l_both (hr.mono (by decide)) (ea_cons (ex_var (i := 2) (x := other_23) rfl) (ea_cons (ex_var (i := 1) (x := one_1) rfl) ea_nil)) ⟨other_23, one_1, rfl, (v26 hk25), rfl⟩ (dvs := []) (dxs := []) (fun _ => trivial))))) ?_
  exact hR
end G
set_option maxHeartbeats 400000
set_option autoImplicit false
namespace R
open PySem PySem.Spec PyProof.Rows L2
/-! ### plain: how large a fraction is -/
def QB (n : Nat) (q : Rat) : Prop := q.num.natAbs < 2 ^ n ∧ q.den < 2 ^ n
theorem two_le {m n : Nat} (h : m ≤ n) : 2 ^ m ≤ 2 ^ n := Nat.pow_le_pow_right (by decide) h
theorem nb_mono {a m n : Nat} (h : a < 2 ^ m) (k : m ≤ n) : a < 2 ^ n := Nat.lt_of_lt_of_le h (two_le k)
theorem nb_mul {a b : Int} {m n : Nat} (h : a.natAbs < 2 ^ m) (k : b.natAbs < 2 ^ n) : (a * b).natAbs < 2 ^ (m + n) := by
  rw [Int.natAbs_mul, Nat.pow_add]
  exact Nat.mul_lt_mul_of_lt_of_le h (Nat.le_of_lt k) (Nat.two_pow_pos n)
theorem nb_add {a b : Int} {m : Nat} (h : a.natAbs < 2 ^ m) (k : b.natAbs < 2 ^ m) : (a + b).natAbs < 2 ^ (m + 1) := by
  have := Int.natAbs_add_le a b
  rw [Nat.pow_succ]
  omega
theorem nb_sub {a b : Int} {m : Nat} (h : a.natAbs < 2 ^ m) (k : b.natAbs < 2 ^ m) : (a - b).natAbs < 2 ^ (m + 1) := by
  have := Int.natAbs_sub_le a b
  rw [Nat.pow_succ]
  omega
theorem QB.mono {m n : Nat} {q : Rat} (h : QB m q) (k : m ≤ n) : QB n q := ⟨nb_mono h.1 k, nb_mono h.2 k⟩
theorem QB.den' {n : Nat} {q : Rat} (h : QB n q) : ((q.den : Nat) : Int).natAbs < 2 ^ n := by rw [Int.natAbs_natCast]; exact h.2
theorem QB.divInt {n : Nat} {t b : Int} (h : t.natAbs < 2 ^ n) (k : b.natAbs < 2 ^ n) (z : b ≠ 0) : QB n (Rat.divInt t b) := by
  have g1 : (t / ((Int.gcd b t : Nat) : Int)).natAbs ≤ t.natAbs := Int.natAbs_ediv_le_natAbs _ _
  refine ⟨?_, ?_⟩
  · rw [Rat.num_divInt]
    refine Nat.lt_of_le_of_lt (Int.natAbs_ediv_le_natAbs _ _) ?_
    rw [Int.natAbs_mul, Int.natAbs_sign_of_ne_zero z, Nat.one_mul]
    exact h
  · rw [Rat.den_divInt, if_neg z]
    exact Nat.lt_of_le_of_lt (Nat.div_le_self _ _) k
theorem QB.add {m n : Nat} {x y : Rat} (h : QB m x) (k : QB n y) : QB (m + n + 1) (x + y) := by
  rw [← plus_eq]
  exact .divInt (nb_add (nb_mul h.1 k.den') (Nat.add_comm n m ▸ nb_mul k.1 h.den')) (nb_mono (nb_mul h.den' k.den') (by omega)) (dens_ne x y)
theorem QB.sub {m n : Nat} {x y : Rat} (h : QB m x) (k : QB n y) : QB (m + n + 1) (x - y) := by
  rw [← minus_eq]
  exact .divInt (nb_sub (nb_mul h.1 k.den') (Nat.add_comm n m ▸ nb_mul k.1 h.den')) (nb_mono (nb_mul h.den' k.den') (by omega)) (dens_ne x y)
theorem QB.mul {m n : Nat} {x y : Rat} (h : QB m x) (k : QB n y) : QB (m + n) (x * y) := by
  rw [← times_eq]
  exact .divInt (nb_mul h.1 k.1) (nb_mul h.den' k.den') (dens_ne x y)
theorem QB.neg {n : Nat} {x : Rat} (h : QB n x) : QB n (-x) := by
  have e : (-x).num = -x.num := rfl
  refine ⟨?_, h.2⟩
  rw [e, Int.natAbs_neg]
  exact h.1
theorem QB.zero : QB 1 (0 : Rat) := ⟨by decide, by decide⟩
theorem QB.one : QB 1 (1 : Rat) := ⟨by decide, by decide⟩
/-- room for a product -/
theorem mulW {a b : Int} {m n : Nat} (h : a.natAbs < 2 ^ m) (k : b.natAbs < 2 ^ n) (hm : 0 < m) (hn : 0 < n) (l : m + n ≤ 1000000) : CMulW a b := wide_mul h k hm hn l
/-- a fraction over its own parts -/
theorem divInt_cross {t b : Int} (z : b ≠ 0) : (Rat.divInt t b).num * b = (((Rat.divInt t b).den : Nat) : Int) * t := by
  have h : Rat.divInt (Rat.divInt t b).num ((Rat.divInt t b).den : Int) = Rat.divInt t b := Rat.num_divInt_den _
  have := (Rat.divInt_eq_divInt_iff (Int.ne_of_gt (den_pos _)) z).mp h
  rw [this, Int.mul_comm]
theorem gcd_own (q : Rat) : gcdI q.num ((q.den : Nat) : Int) = 1 := by
  have : q.num.natAbs.gcd q.den = 1 := q.reduced
  unfold gcdI Int.gcd
  rw [Int.natAbs_natCast, this]
  rfl
theorem isQ_own (q : Rat) : IsQ q.num (q.den : Int) := by
  have : q.num.natAbs.gcd q.den = 1 := q.reduced
  refine ⟨den_pos q, ?_⟩
  unfold Int.gcd
  rw [Int.natAbs_natCast, this]
theorem isQ_neg {t b : Int} (h : IsQ t b) : IsQ (0 - t) b := ⟨h.1, by rw [show 0 - t = -t by omega, Int.neg_gcd]; exact h.2⟩
theorem isQ_low {t b : Int} (h : 0 < b) : IsQ (t / gcdI t b) (b / gcdI t b) := by
  have h1 := isQ_own (Rat.divInt t b)
  rw [divInt_num h, divInt_den h] at h1
  exact h1
theorem divInt_low {t b : Int} (h : 0 < b) : Rat.divInt (t / gcdI t b) (b / gcdI t b) = Rat.divInt t b := by
  rw [← divInt_num h, ← divInt_den h]
  exact Rat.num_divInt_den _
theorem nb_div {t g : Int} {n : Nat} (h : t.natAbs < 2 ^ n) : (t / g).natAbs < 2 ^ n := Nat.lt_of_le_of_lt (Int.natAbs_ediv_le_natAbs _ _) h
end R
set_option maxHeartbeats 400000
set_option autoImplicit false
namespace G
open PySem PySem.Spec PyProof.Rows L2 R
theorem okt_cell (s : List Int) (k : Int) (h : 0 ≤ k) : ok_l_cell_at s k := ⟨fun q => ⟨⟨h, of_decide_eq_true q⟩, trivial⟩, fun _ => trivial⟩
theorem p_is {f : Rat} {t b : Int} (z : b ≠ 0) (e : f = Rat.divInt t b) : m_l_is f t b = true := by
  have h1 : gcdI f.num ((f.den : Nat) : Int) = 1 := gcd_own f
  have h2 : ¬ (((f.den : Nat) : Int) < 1) := by have := den_pos f; omega
  have h3 : f.num * b = (((f.den : Nat) : Int)) * t := by subst e; exact divInt_cross z
  unfold m_l_is m_l_whole m_l_shared
  rw [h1, h3]
  simp [h2]
theorem p_is_ok {f : Rat} {t b : Int} (h : QB 400 f) (ht : t.natAbs < 2 ^ 400) (hb : b.natAbs < 2 ^ 400) : ok_l_is f t b :=
  ⟨fun _ => trivial, fun _ => ⟨fun _ => trivial, fun _ => ⟨fun _ => trivial, fun _ => ⟨mulW h.1 hb (by decide) (by decide) (by decide), mulW h.den' ht (by decide) (by decide) (by decide), trivial⟩⟩⟩⟩
theorem p_partP {t b : Int} (z : b ≠ 0) (h : b.natAbs < 2 ^ 400) : ok_partP t b := ⟨z, nb_mono h (by decide)⟩
section
variable {x y : Rat} (hx : QB 40 x) (hy : QB 40 y)
include hx hy
theorem b_nd : (x.num * ((y.den : Nat) : Int)).natAbs < 2 ^ 80 := nb_mul hx.1 hy.den'
theorem b_dd : (((x.den : Nat) : Int) * ((y.den : Nat) : Int)).natAbs < 2 ^ 80 := nb_mul hx.den' hy.den'
theorem b_nn : (x.num * y.num).natAbs < 2 ^ 80 := nb_mul hx.1 hy.1
theorem b_dn : (((x.den : Nat) : Int) * y.num).natAbs < 2 ^ 80 := nb_mul hx.den' hy.1
theorem c_nd : CMulW x.num ((y.den : Nat) : Int) := mulW hx.1 hy.den' (by decide) (by decide) (by decide)
theorem c_dd : CMulW ((x.den : Nat) : Int) ((y.den : Nat) : Int) := mulW hx.den' hy.den' (by decide) (by decide) (by decide)
theorem c_nn : CMulW x.num y.num := mulW hx.1 hy.1 (by decide) (by decide) (by decide)
theorem c_dn : CMulW ((x.den : Nat) : Int) y.num := mulW hx.den' hy.1 (by decide) (by decide) (by decide)
theorem p_l_over : ok_l_over x y ∧ m_l_over x y = true := by
  have hov : ok_over x y := ⟨c_nd hx hy, c_dn hx hy, nb_mono (b_dn hx hy) (by decide), trivial⟩
  by_cases h0 : y.num = 0
  · have hm : m_over x y = .error (.one "NoPart") := by
      unfold m_over m_part
      rw [if_pos (by rw [h0, Int.mul_zero])]
    refine ⟨?_, ?_⟩
    · unfold ok_l_over
      rw [hm]
      refine ⟨?_, ⟨hov, ?_⟩, ?_, ?_, ?_⟩
      · intro e he
        cases he
        exact ⟨by decide, by decide⟩
      · intro f hf
        trivial
      · intro e he
        trivial
      · intro _; trivial
      · intro hh
        rw [h0] at hh
        exact absurd hh (by decide)
    · unfold m_l_over
      rw [hm, h0]
      rfl
  · have hz : (((x.den : Nat) : Int)) * y.num ≠ 0 := Int.mul_ne_zero (Int.ne_of_gt (den_pos x)) h0
    have hm : m_over x y = .ok (Rat.divInt (x.num * ((y.den : Nat) : Int)) (((x.den : Nat) : Int) * y.num)) := by
      unfold m_over m_part
      rw [if_neg hz]
    have hi := p_is_ok (f := Rat.divInt (x.num * ((y.den : Nat) : Int)) (((x.den : Nat) : Int) * y.num)) (.divInt (nb_mono (b_nd hx hy) (by decide)) (nb_mono (b_dn hx hy) (by decide)) hz) (nb_mono (b_nd hx hy) (by decide)) (nb_mono (b_dn hx hy) (by decide))
    refine ⟨?_, ?_⟩
    · unfold ok_l_over
      rw [hm]
      refine ⟨?_, ⟨hov, ?_⟩, ?_, ?_, ?_⟩
      · intro e he
        cases he
      · intro f hf
        trivial
      · intro e he
        trivial
      · intro hh; trivial
      · intro hh
        exact ⟨fun _ => rfl, fun _ => c_nd hx hy, fun _ => c_dn hx hy, fun _ => hi, trivial⟩
    · have h1 := p_is hz (rfl : Rat.divInt (x.num * ((y.den : Nat) : Int)) (((x.den : Nat) : Int) * y.num) = _)
      unfold m_l_over
      rw [hm, decide_eq_false h0]
      exact h1
theorem p_both : ok_l_both x y ∧ m_l_both x y = true := by
  have hz := dens_ne x y
  have e1 := p_is hz (plus_eq x y).symm
  have e2 := p_is hz (minus_eq x y).symm
  have e3 := p_is hz (times_eq x y).symm
  have e4 := p_l_over hx hy
  have hb : (((x.den : Nat) : Int) * ((y.den : Nat) : Int)).natAbs < 2 ^ 400 := nb_mono (b_dd hx hy) (by decide)
  have f1 := p_is_ok ((hx.add hy).mono (by decide)) (nb_mono (nb_add (b_nd hx hy) (b_nd hy hx)) (by decide)) hb
  have f2 := p_is_ok ((hx.sub hy).mono (by decide)) (nb_mono (nb_sub (b_nd hx hy) (b_nd hy hx)) (by decide)) hb
  have f3 := p_is_ok ((hx.mul hy).mono (by decide)) (nb_mono (b_nn hx hy) (by decide)) hb
  have hp : ∀ t : Int, ok_partP t (((x.den : Nat) : Int) * ((y.den : Nat) : Int)) := fun t => p_partP hz hb
  refine ⟨⟨c_nd hx hy, c_nd hy hx, c_dd hx hy, ⟨c_nd hx hy, c_nd hy hx, c_dd hx hy, hp _, trivial⟩, f1, fun _ => ⟨c_nd hx hy, c_nd hy hx, c_dd hx hy, hp _, trivial⟩, fun _ => f2, fun _ => trivial, fun _ => ⟨⟨c_nn hx hy, c_dd hx hy, hp _, trivial⟩, c_nn hx hy, f3, fun _ => e4.1, fun _ => trivial, fun _ => ⟨⟨c_nd hx hy, c_nd hy hx, trivial⟩, trivial⟩⟩⟩, ?_⟩
  unfold m_l_both
  unfold m_plus m_minus m_times m_under
  simp only
  rw [e1, e2, e3, e4.2, ← under_eq]
  simp
end
theorem p_frac (up down : Int) : ok_l_fraction up down ∧ QB 40 (m_l_fraction up down) := by
  have key : ∀ t b : Int, t.natAbs < 2 ^ 40 → b.natAbs < 2 ^ 40 → 0 < b → (CDivW t (m_l_shared t b) ∧ CDivW b (m_l_shared t b) ∧ IsQ (t / m_l_shared t b) (b / m_l_shared t b) ∧ True) ∧ QB 40 (Rat.divInt (t / m_l_shared t b) (b / m_l_shared t b)) := by
    intro t b h1 h2 h3
    have hq : IsQ (t / m_l_shared t b) (b / m_l_shared t b) := isQ_low h3
    exact ⟨⟨cdiv_gcd (by omega) (nb_mono h2 (by decide)), cdiv_gcd (by omega) (nb_mono h2 (by decide)), hq, trivial⟩, .divInt (nb_div h1) (nb_div h2) (Int.ne_of_gt hq.1)⟩
  unfold ok_l_fraction m_l_fraction
  by_cases h1 : down % 3 = 1
  · have h2 : ¬ (down % 3 = 2) := by omega
    simp only [decide_eq_true h1, decide_eq_false h2, cond_true, cond_false]
    have := key ((up % (41 : Int)) - (20 : Int)) ((1 : Int) + ((down / (3 : Int)) % (12 : Int))) (by omega) (by omega) (by omega)
    exact ⟨⟨fun _ => trivial, fun h => Bool.noConfusion h, fun h => Bool.noConfusion h, fun _ => trivial, this.1⟩, this.2⟩
  · by_cases h2 : down % 3 = 2
    · simp only [decide_eq_false h1, decide_eq_true h2, cond_true, cond_false]
      have := key ((up % (200000000001 : Int)) - (100000000000 : Int)) 1 (by omega) (by omega) (by omega)
      exact ⟨⟨fun h => Bool.noConfusion h, fun _ => trivial, fun _ => trivial, fun h => Bool.noConfusion h, this.1⟩, this.2⟩
    · simp only [decide_eq_false h1, decide_eq_false h2, cond_false]
      have := key ((up % (200000000001 : Int)) - (100000000000 : Int)) ((1 : Int) + ((down / (3 : Int)) % (100000000000 : Int))) (by omega) (by omega) (by omega)
      exact ⟨⟨fun h => Bool.noConfusion h, fun _ => trivial, fun h => Bool.noConfusion h, fun _ => trivial, this.1⟩, this.2⟩
theorem plain_law (ns : List Int) (h : ns.length ≤ 63) : ok_law ns ∧ m_law ns = true := by
  have c : ∀ k : Int, 0 ≤ k → ok_l_cell_at ns k := okt_cell ns
  have f1 := p_frac (m_l_cell_at ns 0) (m_l_cell_at ns 1)
  have f2 := p_frac (m_l_cell_at ns 2) (m_l_cell_at ns 3)
  unfold ok_law m_law
  generalize m_l_fraction (m_l_cell_at ns 0) (m_l_cell_at ns 1) = x at f1 ⊢
  generalize m_l_fraction (m_l_cell_at ns 2) (m_l_cell_at ns 3) = y at f2 ⊢
  generalize m_l_cell_at ns 4 = w
  have fin : ∀ z : Rat, QB 40 z → (ok_l_both x z ∧ (m_l_both x z = true → ok_l_both z x) ∧ True) ∧ (m_l_both x z && m_l_both z x) = true := fun z hz => by
    have g1 := p_both f1.2 hz
    have g2 := p_both hz f1.2
    exact ⟨⟨g1.1, fun _ => g2.1, trivial⟩, by rw [g1.2, g2.2]; rfl⟩
  have hq : IsQ (0 - x.num) ((x.den : Nat) : Int) := isQ_neg (isQ_own x)
  have hn : QB 40 (Rat.divInt (0 - x.num) ((x.den : Nat) : Int)) := .divInt (by rw [show (0 - x.num).natAbs = x.num.natAbs by omega]; exact f1.2.1) f1.2.den' (Int.ne_of_gt hq.1)
  have h0 : QB 40 (0 : Rat) := QB.zero.mono (by decide)
  have body : ∀ z : Rat, QB 40 z → _ := fin
  refine ⟨⟨c 0 (by decide), c 1 (by decide), f1.1, c 2 (by decide), c 3 (by decide), f2.1, c 4 (by decide), fun _ => trivial, fun _ => trivial, fun _ => ⟨hq, trivial⟩, fun _ => trivial, fun _ => trivial, fun _ => trivial, ?_⟩, ?_⟩
  · refine (fin _ ?_).1
    cases decide (w % 6 = 3) <;> cases decide (w % 6 = 2) <;> cases decide (w % 6 = 1) <;> first | exact h0 | exact hn | exact f1.2 | exact f2.2
  · refine (fin _ ?_).2
    cases decide (w % 6 = 3) <;> cases decide (w % 6 = 2) <;> cases decide (w % 6 = 1) <;> first | exact h0 | exact hn | exact f1.2 | exact f2.2
end G
set_option maxHeartbeats 4000000
set_option autoImplicit false
namespace G
open PySem PySem.Spec PyProof.Rows L2 R
theorem all_mk {l : PySem.W.OpenLaw} {w : World} {K : PySem.W.Frag} {h : Heap} {mg : Str → Option Value} {fa f_divisor_of f_part f_plus f_minus f_times f_over f_under f_l_cell_at f_l_whole f_l_shared f_l_fraction f_l_is f_l_over f_l_both f_law C_FrameError C_NoPart : Addr} (X : K.In h) (G : h.Ns mainGlobals mg) (hfa : mg "law" = some (.ref fa))
    {od_0 an_0 : Option Addr} {sl_0 : Array (Option Value)} {oc_0 kV_0 dc_0 pm_0 cd_0 ct_0 : Value}
    (a_divisor_of : PySem.W.nsIn K mainGlobals "divisor_of" = some (some (.ref f_divisor_of))) (l_divisor_of : K.lookup f_divisor_of = some ⟨oc_0, od_0, .func (PySem.W.fnOf "divisor_of" "divisor_of" (defArgs s_divisor_of) (defBody s_divisor_of) (defScope s_divisor_of) .none kV_0 dc_0 pm_0 an_0 cd_0 ct_0), sl_0⟩) (c_divisor_of : PySem.W.codeIn K cd_0 "divisor_of" = true) (k_divisor_of : PySem.W.keepIn K (.ref f_divisor_of) = true)
    {od_1 an_1 : Option Addr} {sl_1 : Array (Option Value)} {oc_1 kV_1 dc_1 pm_1 cd_1 ct_1 : Value}
    (a_part : PySem.W.nsIn K mainGlobals "part" = some (some (.ref f_part))) (l_part : K.lookup f_part = some ⟨oc_1, od_1, .func (PySem.W.fnOf "part" "part" (defArgs s_part) (defBody s_part) (defScope s_part) .none kV_1 dc_1 pm_1 an_1 cd_1 ct_1), sl_1⟩) (c_part : PySem.W.codeIn K cd_1 "part" = true) (k_part : PySem.W.keepIn K (.ref f_part) = true)
    {od_2 an_2 : Option Addr} {sl_2 : Array (Option Value)} {oc_2 kV_2 dc_2 pm_2 cd_2 ct_2 : Value}
    (a_plus : PySem.W.nsIn K mainGlobals "plus" = some (some (.ref f_plus))) (l_plus : K.lookup f_plus = some ⟨oc_2, od_2, .func (PySem.W.fnOf "plus" "plus" (defArgs s_plus) (defBody s_plus) (defScope s_plus) .none kV_2 dc_2 pm_2 an_2 cd_2 ct_2), sl_2⟩) (c_plus : PySem.W.codeIn K cd_2 "plus" = true) (k_plus : PySem.W.keepIn K (.ref f_plus) = true)
    {od_3 an_3 : Option Addr} {sl_3 : Array (Option Value)} {oc_3 kV_3 dc_3 pm_3 cd_3 ct_3 : Value}
    (a_minus : PySem.W.nsIn K mainGlobals "minus" = some (some (.ref f_minus))) (l_minus : K.lookup f_minus = some ⟨oc_3, od_3, .func (PySem.W.fnOf "minus" "minus" (defArgs s_minus) (defBody s_minus) (defScope s_minus) .none kV_3 dc_3 pm_3 an_3 cd_3 ct_3), sl_3⟩) (c_minus : PySem.W.codeIn K cd_3 "minus" = true) (k_minus : PySem.W.keepIn K (.ref f_minus) = true)
    {od_4 an_4 : Option Addr} {sl_4 : Array (Option Value)} {oc_4 kV_4 dc_4 pm_4 cd_4 ct_4 : Value}
    (a_times : PySem.W.nsIn K mainGlobals "times" = some (some (.ref f_times))) (l_times : K.lookup f_times = some ⟨oc_4, od_4, .func (PySem.W.fnOf "times" "times" (defArgs s_times) (defBody s_times) (defScope s_times) .none kV_4 dc_4 pm_4 an_4 cd_4 ct_4), sl_4⟩) (c_times : PySem.W.codeIn K cd_4 "times" = true) (k_times : PySem.W.keepIn K (.ref f_times) = true)
    {od_5 an_5 : Option Addr} {sl_5 : Array (Option Value)} {oc_5 kV_5 dc_5 pm_5 cd_5 ct_5 : Value}
    (a_over : PySem.W.nsIn K mainGlobals "over" = some (some (.ref f_over))) (l_over : K.lookup f_over = some ⟨oc_5, od_5, .func (PySem.W.fnOf "over" "over" (defArgs s_over) (defBody s_over) (defScope s_over) .none kV_5 dc_5 pm_5 an_5 cd_5 ct_5), sl_5⟩) (c_over : PySem.W.codeIn K cd_5 "over" = true) (k_over : PySem.W.keepIn K (.ref f_over) = true)
    {od_6 an_6 : Option Addr} {sl_6 : Array (Option Value)} {oc_6 kV_6 dc_6 pm_6 cd_6 ct_6 : Value}
    (a_under : PySem.W.nsIn K mainGlobals "under" = some (some (.ref f_under))) (l_under : K.lookup f_under = some ⟨oc_6, od_6, .func (PySem.W.fnOf "under" "under" (defArgs s_under) (defBody s_under) (defScope s_under) .none kV_6 dc_6 pm_6 an_6 cd_6 ct_6), sl_6⟩) (c_under : PySem.W.codeIn K cd_6 "under" = true) (k_under : PySem.W.keepIn K (.ref f_under) = true)
    {od_7 an_7 : Option Addr} {sl_7 : Array (Option Value)} {oc_7 kV_7 dc_7 pm_7 cd_7 ct_7 : Value}
    (a_l_cell_at : PySem.W.nsIn K mainGlobals "_law_cell_at" = some (some (.ref f_l_cell_at))) (l_l_cell_at : K.lookup f_l_cell_at = some ⟨oc_7, od_7, .func (PySem.W.fnOf "_law_cell_at" "_law_cell_at" (defArgs s_l_cell_at) (defBody s_l_cell_at) (defScope s_l_cell_at) .none kV_7 dc_7 pm_7 an_7 cd_7 ct_7), sl_7⟩) (c_l_cell_at : PySem.W.codeIn K cd_7 "_law_cell_at" = true) (k_l_cell_at : PySem.W.keepIn K (.ref f_l_cell_at) = true)
    {od_8 an_8 : Option Addr} {sl_8 : Array (Option Value)} {oc_8 kV_8 dc_8 pm_8 cd_8 ct_8 : Value}
    (a_l_whole : PySem.W.nsIn K mainGlobals "_law_whole" = some (some (.ref f_l_whole))) (l_l_whole : K.lookup f_l_whole = some ⟨oc_8, od_8, .func (PySem.W.fnOf "_law_whole" "_law_whole" (defArgs s_l_whole) (defBody s_l_whole) (defScope s_l_whole) .none kV_8 dc_8 pm_8 an_8 cd_8 ct_8), sl_8⟩) (c_l_whole : PySem.W.codeIn K cd_8 "_law_whole" = true) (k_l_whole : PySem.W.keepIn K (.ref f_l_whole) = true)
    {od_9 an_9 : Option Addr} {sl_9 : Array (Option Value)} {oc_9 kV_9 dc_9 pm_9 cd_9 ct_9 : Value}
    (a_l_shared : PySem.W.nsIn K mainGlobals "_law_shared" = some (some (.ref f_l_shared))) (l_l_shared : K.lookup f_l_shared = some ⟨oc_9, od_9, .func (PySem.W.fnOf "_law_shared" "_law_shared" (defArgs s_l_shared) (defBody s_l_shared) (defScope s_l_shared) .none kV_9 dc_9 pm_9 an_9 cd_9 ct_9), sl_9⟩) (c_l_shared : PySem.W.codeIn K cd_9 "_law_shared" = true) (k_l_shared : PySem.W.keepIn K (.ref f_l_shared) = true)
    {od_10 an_10 : Option Addr} {sl_10 : Array (Option Value)} {oc_10 kV_10 dc_10 pm_10 cd_10 ct_10 : Value}
    (a_l_fraction : PySem.W.nsIn K mainGlobals "_law_fraction" = some (some (.ref f_l_fraction))) (l_l_fraction : K.lookup f_l_fraction = some ⟨oc_10, od_10, .func (PySem.W.fnOf "_law_fraction" "_law_fraction" (defArgs s_l_fraction) (defBody s_l_fraction) (defScope s_l_fraction) .none kV_10 dc_10 pm_10 an_10 cd_10 ct_10), sl_10⟩) (c_l_fraction : PySem.W.codeIn K cd_10 "_law_fraction" = true) (k_l_fraction : PySem.W.keepIn K (.ref f_l_fraction) = true)
    {od_11 an_11 : Option Addr} {sl_11 : Array (Option Value)} {oc_11 kV_11 dc_11 pm_11 cd_11 ct_11 : Value}
    (a_l_is : PySem.W.nsIn K mainGlobals "_law_is" = some (some (.ref f_l_is))) (l_l_is : K.lookup f_l_is = some ⟨oc_11, od_11, .func (PySem.W.fnOf "_law_is" "_law_is" (defArgs s_l_is) (defBody s_l_is) (defScope s_l_is) .none kV_11 dc_11 pm_11 an_11 cd_11 ct_11), sl_11⟩) (c_l_is : PySem.W.codeIn K cd_11 "_law_is" = true) (k_l_is : PySem.W.keepIn K (.ref f_l_is) = true)
    {od_12 an_12 : Option Addr} {sl_12 : Array (Option Value)} {oc_12 kV_12 dc_12 pm_12 cd_12 ct_12 : Value}
    (a_l_over : PySem.W.nsIn K mainGlobals "_law_over" = some (some (.ref f_l_over))) (l_l_over : K.lookup f_l_over = some ⟨oc_12, od_12, .func (PySem.W.fnOf "_law_over" "_law_over" (defArgs s_l_over) (defBody s_l_over) (defScope s_l_over) .none kV_12 dc_12 pm_12 an_12 cd_12 ct_12), sl_12⟩) (c_l_over : PySem.W.codeIn K cd_12 "_law_over" = true) (k_l_over : PySem.W.keepIn K (.ref f_l_over) = true)
    {od_13 an_13 : Option Addr} {sl_13 : Array (Option Value)} {oc_13 kV_13 dc_13 pm_13 cd_13 ct_13 : Value}
    (a_l_both : PySem.W.nsIn K mainGlobals "_law_both" = some (some (.ref f_l_both))) (l_l_both : K.lookup f_l_both = some ⟨oc_13, od_13, .func (PySem.W.fnOf "_law_both" "_law_both" (defArgs s_l_both) (defBody s_l_both) (defScope s_l_both) .none kV_13 dc_13 pm_13 an_13 cd_13 ct_13), sl_13⟩) (c_l_both : PySem.W.codeIn K cd_13 "_law_both" = true) (k_l_both : PySem.W.keepIn K (.ref f_l_both) = true)
    {od_14 an_14 : Option Addr} {sl_14 : Array (Option Value)} {oc_14 kV_14 dc_14 pm_14 cd_14 ct_14 : Value}
    (a_law : PySem.W.nsIn K mainGlobals "law" = some (some (.ref f_law))) (l_law : K.lookup f_law = some ⟨oc_14, od_14, .func (PySem.W.fnOf "law" "law" (defArgs s_law) (defBody s_law) (defScope s_law) .none kV_14 dc_14 pm_14 an_14 cd_14 ct_14), sl_14⟩) (c_law : PySem.W.codeIn K cd_14 "law" = true) (k_law : PySem.W.keepIn K (.ref f_law) = true)
    (z_abs : PySem.W.nsIn K mainGlobals "abs" = some none)
    (z_bool : PySem.W.nsIn K mainGlobals "bool" = some none)
    (z_int : PySem.W.nsIn K mainGlobals "int" = some none)
    (z_isinstance : PySem.W.nsIn K mainGlobals "isinstance" = some none)
    (z_len : PySem.W.nsIn K mainGlobals "len" = some none)
    (z_tuple : PySem.W.nsIn K mainGlobals "tuple" = some none)
    (e_FrameError : PySem.W.nsIn K mainGlobals "FrameError" = some (some (.ref C_FrameError)))
    (e_NoPart : PySem.W.nsIn K mainGlobals "NoPart" = some (some (.ref C_NoPart)))
    (x1_NoPart : PySem.W.excIn K C_NoPart [.type "ValueError", .type "Exception", .type "BaseException", .type "object"] "ValueError.__new__" = true) (x2_NoPart : PySem.W.keepIn K (.ref C_NoPart) = true)
    (x3_NoPart : PySem.W.subIn K (.ref C_NoPart) (.type "BaseException") = some true) (x4_NoPart : PySem.W.typeIn K (.ref C_NoPart) = some (.type "type"))
    (y_NoPart : PySem.W.hasDictIn K C_NoPart = true)
    (y_NoPart_FrameError : PySem.W.subIn K (.ref C_FrameError) (.ref C_NoPart) = some false)
    (y_NoPart_NoPart : PySem.W.subIn K (.ref C_NoPart) (.ref C_NoPart) = some true)
    : ∃ fd : FuncData, (∀ (s : Shared) (v : Value), BindsTo s fd ⟨[v], []⟩ [("_law_script", v)]) ∧ ∀ base : Heap, K.In base → base.Ns mainGlobals mg → FnOk l.prog w K mg base (L2.CX l.prog w) 6 fa fd ["_law_script"] (spLaw K) := by
  have e := hfa.symm.trans (PySem.W.mg_of X G a_law)
  cases e
  have T : Top K mg := {
    here := trivial
    b_abs := PySem.W.mg_none_of X G z_abs
    b_bool := PySem.W.mg_none_of X G z_bool
    b_int := PySem.W.mg_none_of X G z_int
    b_isinstance := PySem.W.mg_none_of X G z_isinstance
    b_len := PySem.W.mg_none_of X G z_len
    b_tuple := PySem.W.mg_none_of X G z_tuple
    x_NoPart := ⟨C_NoPart, PySem.W.mg_of X G e_NoPart, x1_NoPart, x2_NoPart, x3_NoPart, x4_NoPart⟩
    c_NoPart := catc_mk (PySem.W.mg_of X G e_NoPart) x3_NoPart y_NoPart x4_NoPart (by
      intro n hn
      simp only [List.mem_cons, List.not_mem_nil, or_false] at hn
      rcases hn with rfl | rfl
      · exact ⟨C_FrameError, PySem.W.mg_of X G e_FrameError, y_NoPart_FrameError⟩
      · exact ⟨C_NoPart, PySem.W.mg_of X G e_NoPart, y_NoPart_NoPart⟩)
  }
  have F_divisor_of := fun_mk (st := s_divisor_of) l_divisor_of c_divisor_of k_divisor_of
  have b_divisor_of := F_divisor_of.binds (ps := ["one", "other"]) fun _ _ _ _ _ _ us hl => match us, hl with | [_, _], _ => rfl
  have F_part := fun_mk (st := s_part) l_part c_part k_part
  have b_part := F_part.binds (ps := ["top", "bottom"]) fun _ _ _ _ _ _ us hl => match us, hl with | [_, _], _ => rfl
  have F_plus := fun_mk (st := s_plus) l_plus c_plus k_plus
  have b_plus := F_plus.binds (ps := ["one", "other"]) fun _ _ _ _ _ _ us hl => match us, hl with | [_, _], _ => rfl
  have F_minus := fun_mk (st := s_minus) l_minus c_minus k_minus
  have b_minus := F_minus.binds (ps := ["one", "other"]) fun _ _ _ _ _ _ us hl => match us, hl with | [_, _], _ => rfl
  have F_times := fun_mk (st := s_times) l_times c_times k_times
  have b_times := F_times.binds (ps := ["one", "other"]) fun _ _ _ _ _ _ us hl => match us, hl with | [_, _], _ => rfl
  have F_over := fun_mk (st := s_over) l_over c_over k_over
  have b_over := F_over.binds (ps := ["one", "other"]) fun _ _ _ _ _ _ us hl => match us, hl with | [_, _], _ => rfl
  have F_under := fun_mk (st := s_under) l_under c_under k_under
  have b_under := F_under.binds (ps := ["one", "other"]) fun _ _ _ _ _ _ us hl => match us, hl with | [_, _], _ => rfl
  have F_l_cell_at := fun_mk (st := s_l_cell_at) l_l_cell_at c_l_cell_at k_l_cell_at
  have b_l_cell_at := F_l_cell_at.binds (ps := ["_law_script", "_law_k"]) fun _ _ _ _ _ _ us hl => match us, hl with | [_, _], _ => rfl
  have F_l_whole := fun_mk (st := s_l_whole) l_l_whole c_l_whole k_l_whole
  have b_l_whole := F_l_whole.binds (ps := ["_law_found"]) fun _ _ _ _ _ _ us hl => match us, hl with | [_], _ => rfl
  have F_l_shared := fun_mk (st := s_l_shared) l_l_shared c_l_shared k_l_shared
  have b_l_shared := F_l_shared.binds (ps := ["_law_one", "_law_other"]) fun _ _ _ _ _ _ us hl => match us, hl with | [_, _], _ => rfl
  have F_l_fraction := fun_mk (st := s_l_fraction) l_l_fraction c_l_fraction k_l_fraction
  have b_l_fraction := F_l_fraction.binds (ps := ["_law_up", "_law_down"]) fun _ _ _ _ _ _ us hl => match us, hl with | [_, _], _ => rfl
  have F_l_is := fun_mk (st := s_l_is) l_l_is c_l_is k_l_is
  have b_l_is := F_l_is.binds (ps := ["_law_found", "_law_top", "_law_bottom"]) fun _ _ _ _ _ _ us hl => match us, hl with | [_, _, _], _ => rfl
  have F_l_over := fun_mk (st := s_l_over) l_l_over c_l_over k_l_over
  have b_l_over := F_l_over.binds (ps := ["_law_one", "_law_other"]) fun _ _ _ _ _ _ us hl => match us, hl with | [_, _], _ => rfl
  have F_l_both := fun_mk (st := s_l_both) l_l_both c_l_both k_l_both
  have b_l_both := F_l_both.binds (ps := ["_law_one", "_law_other"]) fun _ _ _ _ _ _ us hl => match us, hl with | [_, _], _ => rfl
  have F_law := fun_mk (st := s_law) l_law c_law k_law
  refine ⟨PySem.W.fnOf "law" "law" (defArgs s_law) (defBody s_law) (defScope s_law) .none kV_14 dc_14 pm_14 an_14 cd_14 ct_14, fun s v => .of_eq rfl, fun base _ _ => ?_⟩
  have d_divisor_of : DefOk l.prog w K mg base "divisor_of" 1 ["one", "other"] [] (spP K mg 2 ph_divisor_of) := ⟨_, _, [], w_divisor_of F_divisor_of T, PySem.W.mg_of X G a_divisor_of, k_divisor_of, b_divisor_of, .nil⟩
  have d_under : DefOk l.prog w K mg base "under" 1 ["one", "other"] [] (spP K mg 2 ph_under) := ⟨_, _, [], w_under F_under T, PySem.W.mg_of X G a_under, k_under, b_under, .nil⟩
  have d_l_cell_at : DefOk l.prog w K mg base "_law_cell_at" 1 ["_law_script", "_law_k"] [] (spP K mg 2 ph_l_cell_at) := ⟨_, _, [], w_l_cell_at F_l_cell_at T, PySem.W.mg_of X G a_l_cell_at, k_l_cell_at, b_l_cell_at, .nil⟩
  have d_l_whole : DefOk l.prog w K mg base "_law_whole" 1 ["_law_found"] [] (spP K mg 1 ph_l_whole) := ⟨_, _, [], w_l_whole F_l_whole T, PySem.W.mg_of X G a_l_whole, k_l_whole, b_l_whole, .nil⟩
  have d_l_shared : DefOk l.prog w K mg base "_law_shared" 1 ["_law_one", "_law_other"] [] (spP K mg 2 ph_l_shared) := ⟨_, _, [], w_l_shared F_l_shared T, PySem.W.mg_of X G a_l_shared, k_l_shared, b_l_shared, .nil⟩
  have d_part : DefOk l.prog w K mg base "part" 2 ["top", "bottom"] [] (spP K mg 2 ph_part) := ⟨_, _, [], w_part F_part T d_divisor_of, PySem.W.mg_of X G a_part, k_part, b_part, .nil⟩
  have d_l_fraction : DefOk l.prog w K mg base "_law_fraction" 2 ["_law_up", "_law_down"] [] (spP K mg 2 ph_l_fraction) := ⟨_, _, [], w_l_fraction F_l_fraction T d_l_shared, PySem.W.mg_of X G a_l_fraction, k_l_fraction, b_l_fraction, .nil⟩
  have d_l_is : DefOk l.prog w K mg base "_law_is" 2 ["_law_found", "_law_top", "_law_bottom"] [] (spP K mg 3 ph_l_is) := ⟨_, _, [], w_l_is F_l_is T d_l_whole d_l_shared, PySem.W.mg_of X G a_l_is, k_l_is, b_l_is, .nil⟩
  have d_plus : DefOk l.prog w K mg base "plus" 3 ["one", "other"] [] (spP K mg 2 ph_plus) := ⟨_, _, [], w_plus F_plus T d_part, PySem.W.mg_of X G a_plus, k_plus, b_plus, .nil⟩
  have d_minus : DefOk l.prog w K mg base "minus" 3 ["one", "other"] [] (spP K mg 2 ph_minus) := ⟨_, _, [], w_minus F_minus T d_part, PySem.W.mg_of X G a_minus, k_minus, b_minus, .nil⟩
  have d_times : DefOk l.prog w K mg base "times" 3 ["one", "other"] [] (spP K mg 2 ph_times) := ⟨_, _, [], w_times F_times T d_part, PySem.W.mg_of X G a_times, k_times, b_times, .nil⟩
  have d_over : DefOk l.prog w K mg base "over" 3 ["one", "other"] [] (spP K mg 2 ph_over) := ⟨_, _, [], w_over F_over T d_part, PySem.W.mg_of X G a_over, k_over, b_over, .nil⟩
  have d_l_over : DefOk l.prog w K mg base "_law_over" 4 ["_law_one", "_law_other"] [] (spP K mg 2 ph_l_over) := ⟨_, _, [], w_l_over F_l_over T d_over d_l_is, PySem.W.mg_of X G a_l_over, k_l_over, b_l_over, .nil⟩
  have d_l_both : DefOk l.prog w K mg base "_law_both" 5 ["_law_one", "_law_other"] [] (spP K mg 2 ph_l_both) := ⟨_, _, [], w_l_both F_l_both T d_under d_l_is d_l_over d_plus d_minus d_times, PySem.W.mg_of X G a_l_both, k_l_both, b_l_both, .nil⟩
  exact (w_law (P := l.prog) (w := w) (base := base) F_law T d_l_fraction d_l_cell_at d_l_both).imp (law_end fun ns hn => ⟨ns, rfl, (plain_law ns hn).1, (plain_law ns hn).2⟩)
end G
open PySem PySem.W PyProof.Rows
set_option maxRecDepth 100000 in
set_option maxHeartbeats 0 in
theorem PySem.Challenge.cw_springframe_k02_reckoned_with_holds : PySem.Challenge.rw_springframe_k02_reckoned_with.Holds := by
  w_on; o_law; k_head; (case hw => w_witness2)
  k_fill
  refine L2.walk_of (l := PySem.Challenge.rw_springframe_k02_reckoned_with) (n := 63) (k := 6) (x := "_law_script") (CX := fun w => L2.CX PySem.Challenge.rw_springframe_k02_reckoned_with.prog w) (sp := fun w => R.spLaw _) rfl (by decide) rfl ⟨rfl, by decide, by decide⟩ (fun w h Y => PySem.W.kIn_of Y) ?F (fun _ _ a ns hl _ hS => ⟨a, ns, rfl, hS, hl, fun _ _ e => e⟩) (fun _ _ _ _ _ h => R.cx_end h)
  case F =>
    intro w mg fa h KX GG hmg
    refine' _root_.G.all_mk KX GG hmg ?a_divisor_of ?l_divisor_of ?c_divisor_of ?k_divisor_of ?a_part ?l_part ?c_part ?k_part ?a_plus ?l_plus ?c_plus ?k_plus ?a_minus ?l_minus ?c_minus ?k_minus ?a_times ?l_times ?c_times ?k_times ?a_over ?l_over ?c_over ?k_over ?a_under ?l_under ?c_under ?k_under ?a_l_cell_at ?l_l_cell_at ?c_l_cell_at ?k_l_cell_at ?a_l_whole ?l_l_whole ?c_l_whole ?k_l_whole ?a_l_shared ?l_l_shared ?c_l_shared ?k_l_shared ?a_l_fraction ?l_l_fraction ?c_l_fraction ?k_l_fraction ?a_l_is ?l_l_is ?c_l_is ?k_l_is ?a_l_over ?l_l_over ?c_l_over ?k_l_over ?a_l_both ?l_l_both ?c_l_both ?k_l_both ?a_law ?l_law ?c_law ?k_law ?z_abs ?z_bool ?z_int ?z_isinstance ?z_len ?z_tuple ?e_FrameError ?e_NoPart ?x1_NoPart ?x2_NoPart ?x3_NoPart ?x4_NoPart ?y_NoPart ?y_NoPart_FrameError ?y_NoPart_NoPart
    (case a_divisor_of => k_is)
    (case l_divisor_of => k_is)
    (case c_divisor_of => k_is)
    (case k_divisor_of => k_is)
    (case a_part => k_is)
    (case l_part => k_is)
    (case c_part => k_is)
    (case k_part => k_is)
    (case a_plus => k_is)
    (case l_plus => k_is)
    (case c_plus => k_is)
    (case k_plus => k_is)
    (case a_minus => k_is)
    (case l_minus => k_is)
    (case c_minus => k_is)
    (case k_minus => k_is)
    (case a_times => k_is)
    (case l_times => k_is)
    (case c_times => k_is)
    (case k_times => k_is)
    (case a_over => k_is)
    (case l_over => k_is)
    (case c_over => k_is)
    (case k_over => k_is)
    (case a_under => k_is)
    (case l_under => k_is)
    (case c_under => k_is)
    (case k_under => k_is)
    (case a_l_cell_at => k_is)
    (case l_l_cell_at => k_is)
    (case c_l_cell_at => k_is)
    (case k_l_cell_at => k_is)
    (case a_l_whole => k_is)
    (case l_l_whole => k_is)
    (case c_l_whole => k_is)
    (case k_l_whole => k_is)
    (case a_l_shared => k_is)
    (case l_l_shared => k_is)
    (case c_l_shared => k_is)
    (case k_l_shared => k_is)
    (case a_l_fraction => k_is)
    (case l_l_fraction => k_is)
    (case c_l_fraction => k_is)
    (case k_l_fraction => k_is)
    (case a_l_is => k_is)
    (case l_l_is => k_is)
    (case c_l_is => k_is)
    (case k_l_is => k_is)
    (case a_l_over => k_is)
    (case l_l_over => k_is)
    (case c_l_over => k_is)
    (case k_l_over => k_is)
    (case a_l_both => k_is)
    (case l_l_both => k_is)
    (case c_l_both => k_is)
    (case k_l_both => k_is)
    (case a_law => k_is)
    (case l_law => k_is)
    (case c_law => k_is)
    (case k_law => k_is)
    (case z_abs => k_is)
    (case z_bool => k_is)
    (case z_int => k_is)
    (case z_isinstance => k_is)
    (case z_len => k_is)
    (case z_tuple => k_is)
    (case e_FrameError => k_is)
    (case e_NoPart => k_is)
    (case x1_NoPart => k_exc)
    (case x2_NoPart => k_is)
    (case x3_NoPart => k_is)
    (case x4_NoPart => k_is)
    (case y_NoPart => k_is)
    (case y_NoPart_FrameError => k_is)
    (case y_NoPart_NoPart => (first | rfl | k_is))
