import PyProof.Rows.All
import Wide.All
import OpenK.AllK
import Wide.FinOn
import HandS.ForMost
import HandS.ForExc
import HandS.Wide
import HandS.Flow
import HandS.IsInst
import HandS.More
import HandS.Conv
import HandS.Finally
import HandS.ExcIs
import HandS.ExcField
import HandS.TryMany
import HandS.Text
import HandS.Iter
import HandS.Zip
import HandS.ListEq
import HandS.DictEq
import HandS.OwnEq
import PyProof.NeKinds
import PyProof.StrOps2
import HandS.TupAny
import PyProof.Rows.SortStr
import HandS.RevTup
import PyProof.ListNew
import HandS.SetFor
import PyProof.Rows.SetFrom
import HandS.Style
import PyProof.StrLaws
import PyProof.FitsInt
import PySem.Challenge.RW_springframe_k32_no_paper
set_option Elab.async false
set_option linter.all false
set_option maxRecDepth 100000
set_option maxHeartbeats 2000000
set_option autoImplicit false
/-! R: what a piece of Python does, told without a heap: slots hold data, a statement turns slots into slots. -/
namespace R
open PySem PySem.Spec PyProof.Rows L2
/-! ### heaps -/
def Ex (H H' : Hp) : Prop := ∀ a o, H a = some o → H' a = some o
def Pl : HO → Prop
  | .frz _ _ => False
  | _ => True
def Le (H H' : Hp) : Prop := ∀ a u, Pl u → Rd H a u → Rd H' a u
theorem Ex.refl (H : Hp) : Ex H H := fun _ _ h => h
theorem Ex.trans {H H1 H2 : Hp} (a : Ex H H1) (b : Ex H1 H2) : Ex H H2 := fun x o h => b x o (a x o h)
theorem Le.refl (H : Hp) : Le H H := fun _ _ _ h => h
theorem Le.trans {H H1 H2 : Hp} (a : Le H H1) (b : Le H1 H2) : Le H H2 := fun x o p h => b x o p (a x o p h)
theorem Ex.le {H H' : Hp} (e : Ex H H') : Le H H' := fun a u _ h => by
  rcases h with h | ⟨o, h⟩
  · exact .inl (e a _ h)
  · exact .inr ⟨o, e a _ h⟩
theorem Ex.new {H : Hp} {p : Addr} {o : HO} (h : H p = none) : Ex H (upd H p o) := fun a u e => by
  rw [upd_ne (ne_of_none e h)]
  exact e
theorem Ex.free {H H' : Hp} (e : Ex H H') {p : Addr} (h : H' p = none) : H p = none := by
  cases h1 : H p with
  | none => rfl
  | some o =>
    rw [e p o h1] at h
    cases h
theorem Le.lst {K : PySem.W.Frag} {H H' : Hp} {a : Addr} {xs : List V} (e : Le H H') (h : SqL K H a xs) : SqL K H' a xs := by
  rcases h with h | h
  · exact .inl (e a _ trivial h)
  · exact .inr h
theorem Le.tup {K : PySem.W.Frag} {H H' : Hp} {a : Addr} {xs : List V} (e : Le H H') (h : SqT K H a xs) : SqT K H' a xs := by
  rcases h with h | h
  · exact .inl (e a _ trivial h)
  · exact .inr h
/-- the heap without some addresses -/
noncomputable def wo (H : Hp) (U : Addr → Prop) : Hp := fun a => @ite _ (U a) (Classical.propDecidable _) none (H a)
theorem wo_in {H : Hp} {U : Addr → Prop} {a : Addr} (h : U a) : wo H U a = none := by unfold wo; rw [if_pos h]
theorem wo_out {H : Hp} {U : Addr → Prop} {a : Addr} (h : ¬ U a) : wo H U a = H a := by unfold wo; rw [if_neg h]
theorem wo_some {H : Hp} {U : Addr → Prop} {a : Addr} {o : HO} (h : wo H U a = some o) : ¬ U a ∧ H a = some o := by
  by_cases u : U a
  · rw [wo_in u] at h; cases h
  · rw [wo_out u] at h; exact ⟨u, h⟩
theorem wo_le {H : Hp} {U : Addr → Prop} : Le (wo H U) H := Ex.le fun _ _ h => (wo_some h).2
theorem wo_ex {H H' : Hp} {U : Addr → Prop} (e : Ex H H') : Ex (wo H U) (wo H' U) := fun a o h => by
  obtain ⟨u, h⟩ := wo_some h
  rw [wo_out u]
  exact e a o h
theorem wo_mono {H : Hp} {U U' : Addr → Prop} (h : ∀ a, U' a → U a) : Ex (wo H U) (wo H U') := fun a o q => by
  obtain ⟨u, q⟩ := wo_some q
  rw [wo_out fun z => u (h a z)]
  exact q
/-! ### data -/
class Dat (α : Type) where
  rep : PySem.W.Frag → Hp → V → α → Prop
  mono : ∀ {K : PySem.W.Frag} {H H' : Hp} {v : V} {x : α}, Le H H' → rep K H v x → rep K H' v x
class Own (α : Type) where
  own : PySem.W.Frag → Hp → Hp → V → List Addr → α → Prop
  frame : ∀ {K : PySem.W.Frag} {Hf Hf' H H' : Hp} {v : V} {L : List Addr} {x : α}, Le Hf Hf' → (∀ a ∈ L, H' a = H a) → own K Hf H v L x → own K Hf' H' v L x
instance : Dat Int := ⟨fun _ _ v x => v = .int x, fun _ h => h⟩
instance : Dat Bool := ⟨fun _ _ v x => v = .bl x, fun _ h => h⟩
instance : Dat Str := ⟨fun _ _ v x => v = .str x, fun _ h => h⟩
instance : Dat Unit := ⟨fun _ _ v _ => v = .non, fun _ h => h⟩
theorem Paired.imp {α β : Type} {F G : α → β → Prop} {xs : List α} {ys : List β} (h : Paired F xs ys) (f : ∀ a b, F a b → G a b) : Paired G xs ys := L2.Paired.mapP h f
def repL {α : Type} [Dat α] (K : PySem.W.Frag) (H : Hp) (vs : List V) (xs : List α) : Prop := Paired (fun u x => Dat.rep K H u x) vs xs
theorem repL.mono {α : Type} [Dat α] {K : PySem.W.Frag} {H H' : Hp} {vs : List V} {xs : List α} (e : Le H H') (h : repL K H vs xs) : repL K H' vs xs := Paired.imp h fun _ _ q => Dat.mono e q
instance {α : Type} [Dat α] : Dat (List α) where
  rep K H v xs := ∃ a vs, v = .ref a ∧ SqL K H a vs ∧ repL K H vs xs
  mono := fun e ⟨a, vs, h, l, r⟩ => ⟨a, vs, h, e.lst l, r.mono e⟩
/-- a dict with texts as keys -/
structure Dc (α : Type) where
  kvs : List (Str × α)
def repD {α : Type} [Dat α] (K : PySem.W.Frag) (H : Hp) (ws : List (Key × V)) (xs : List (Str × α)) : Prop := Paired (fun (q : Key × V) (p : Str × α) => q.1 = .inr p.1 ∧ Dat.rep K H q.2 p.2) ws xs
theorem repD.mono {α : Type} [Dat α] {K : PySem.W.Frag} {H H' : Hp} {vs : List (Key × V)} {xs : List (Str × α)} (e : Le H H') (h : repD K H vs xs) : repD K H' vs xs := Paired.imp h fun _ _ q => ⟨q.1, Dat.mono e q.2⟩
instance {α : Type} [Dat α] : Dat (Dc α) where
  rep K H v d := ∃ a ws, v = .ref a ∧ Rd H a (.dK ws) ∧ repD K H ws d.kvs
  mono := fun e ⟨a, ws, h, l, r⟩ => ⟨a, ws, h, e a _ trivial l, r.mono e⟩
/-! ### slots -/
inductive Sl : Type 1
  | any : Sl
  | dat {α : Type} [i : Dat α] (x : α) : Sl
  | own {α : Type} [i : Own α] (x : α) : Sl
abbrev Env' := List Sl
def SlOk (K : PySem.W.Frag) (Hf H : Hp) (o : Option (Option V)) (L : List Addr) : Sl → Prop
  | .any => True
  | .dat (i := i) x => ∃ v, o = some (some v) ∧ i.rep K Hf v x
  | .own (i := i) x => ∃ v, o = some (some v) ∧ i.own K Hf H v L x
def UU (O : Addr → Prop) (fp : Nat → List Addr) : Addr → Prop := fun a => O a ∨ ∃ i, a ∈ fp i
def nofp : Nat → List Addr := fun _ => []
theorem uu_no {O : Addr → Prop} : UU O nofp = O := by
  funext a
  apply propext
  constructor
  · rintro (h | ⟨i, h⟩)
    · exact h
    · cases h
  · exact .inl
structure SOk (K : PySem.W.Frag) (O : Addr → Prop) (fp : Nat → List Addr) (env : Env') (σ : L2.St) (H : Hp) : Prop where
  len : σ.length = env.length
  bnd : ∀ a, O a → ∃ o, H a = some o
  fpO : ∀ i a, a ∈ fp i → ¬ O a
  sep : ∀ i j a, a ∈ fp i → a ∈ fp j → i = j
  dom : ∀ i a, a ∈ fp i → ∃ o, H a = some o
  sl : ∀ i s, env[i]? = some s → SlOk K (wo H (UU O fp)) H (σ[i]?) (fp i) s
section
variable {K : PySem.W.Frag} {O : Addr → Prop} {fp fp' : Nat → List Addr} {env : Env'} {σ : L2.St} {H H' : Hp}
theorem SOk.bndU (S : SOk K O fp env σ H) : ∀ a, UU O fp a → ∃ o, H a = some o := fun a h => by
  rcases h with h | ⟨i, h⟩
  · exact S.bnd a h
  · exact S.dom i a h
theorem SOk.ex (S : SOk K O fp env σ H) (e : Ex H H') : SOk K O fp env σ H' where
  len := S.len
  bnd := fun a h => let ⟨o, q⟩ := S.bnd a h; ⟨o, e a o q⟩
  fpO := S.fpO
  sep := S.sep
  dom := fun i a h => let ⟨o, q⟩ := S.dom i a h; ⟨o, e a o q⟩
  sl := fun i s h => by
    have q := S.sl i s h
    cases s with
    | any => exact trivial
    | dat x =>
      obtain ⟨v, h1, h2⟩ := q
      exact ⟨v, h1, Dat.mono (wo_ex e).le h2⟩
    | own x =>
      obtain ⟨v, h1, h2⟩ := q
      refine ⟨v, h1, Own.frame (wo_ex e).le (fun a ha => ?_) h2⟩
      obtain ⟨o, q⟩ := S.dom i a ha
      rw [q, e a o q]
theorem SOk.fresh (S : SOk K O fp env σ H) {p : Addr} (h : H p = none) : ¬ UU O fp p := fun u => by
  obtain ⟨o, q⟩ := S.bndU p u
  rw [h] at q
  cases q
end
/-! ### expressions -/
/-- what an expression is worth: x, whatever the heap -/
def Ev {α : Type} [Dat α] (K : PySem.W.Frag) (t : TE) (env : Env') (x : α) : Prop :=
  ∀ O fp σ H, SOk K O fp env σ H → ∀ Q : VK, (∀ v H', Ex H H' → Dat.rep K (wo H' (UU O fp)) v x → Q v H') → t σ H Q
def EvT (K : PySem.W.Frag) (t : TT) (env : Env') (b : Bool) : Prop :=
  ∀ O fp σ H, SOk K O fp env σ H → ∀ Q : Bool → Hp → Prop, (∀ H', Ex H H' → Q b H') → t σ H Q
def ARep (K : PySem.W.Frag) (Hf : Hp) : List V → List Sl → Prop
  | [], [] => True
  | v :: vs, .dat (i := i) x :: xs => i.rep K Hf v x ∧ ARep K Hf vs xs
  | _, _ => False
theorem ARep.mono {K : PySem.W.Frag} {H H' : Hp} (e : Le H H') : ∀ {vs : List V} {xs : List Sl}, ARep K H vs xs → ARep K H' vs xs
  | [], [], _ => trivial
  | _ :: _, .dat (i := i) x :: _, h => ⟨i.mono e h.1, ARep.mono e h.2⟩
  | [], _ :: _, h => by simp [ARep] at h
  | _ :: _, [], h => by simp [ARep] at h
  | _ :: _, .any :: _, h => by simp [ARep] at h
  | _ :: _, .own (i := _) _ :: _, h => by simp [ARep] at h
/-! ### tuples -/
def repT (K : PySem.W.Frag) (H : Hp) (v : V) (cs : List Sl) : Prop := ∃ a vs, v = .ref a ∧ SqT K H a vs ∧ ARep K H vs cs
theorem repT.mono {K : PySem.W.Frag} {H H' : Hp} {v : V} {cs : List Sl} (e : Le H H') (h : repT K H v cs) : repT K H' v cs := let ⟨a, vs, h0, t, r⟩ := h; ⟨a, vs, h0, e.tup t, r.mono e⟩
instance {α β : Type} [Dat α] [Dat β] : Dat (α × β) := ⟨fun K H v p => repT K H v [.dat p.1, .dat p.2], fun e h => h.mono e⟩
/-- what is a tuple, with these parts -/
class Tup (τ : Type) [Dat τ] where
  comps : τ → List Sl
  is : ∀ (K : PySem.W.Frag) (H : Hp) (v : V) (x : τ), Dat.rep K H v x = repT K H v (comps x)
instance {α β : Type} [Dat α] [Dat β] : Tup (α × β) := ⟨fun p => [.dat p.1, .dat p.2], fun _ _ _ _ => rfl⟩
structure T3 (α β γ : Type) where
  a : α
  b : β
  c : γ
instance {α β γ : Type} [Dat α] [Dat β] [Dat γ] : Dat (T3 α β γ) := ⟨fun K H v p => repT K H v [.dat p.a, .dat p.b, .dat p.c], fun e h => h.mono e⟩
instance {α β γ : Type} [Dat α] [Dat β] [Dat γ] : Tup (T3 α β γ) := ⟨fun p => [.dat p.a, .dat p.b, .dat p.c], fun _ _ _ _ => rfl⟩
structure T4 (α β γ δ : Type) where
  a : α
  b : β
  c : γ
  d : δ
instance {α β γ δ : Type} [Dat α] [Dat β] [Dat γ] [Dat δ] : Dat (T4 α β γ δ) := ⟨fun K H v p => repT K H v [.dat p.a, .dat p.b, .dat p.c, .dat p.d], fun e h => h.mono e⟩
instance {α β γ δ : Type} [Dat α] [Dat β] [Dat γ] [Dat δ] : Tup (T4 α β γ δ) := ⟨fun p => [.dat p.a, .dat p.b, .dat p.c, .dat p.d], fun _ _ _ _ => rfl⟩
structure T5 (α β γ δ ε : Type) where
  a : α
  b : β
  c : γ
  d : δ
  e : ε
instance {α β γ δ ε : Type} [Dat α] [Dat β] [Dat γ] [Dat δ] [Dat ε] : Dat (T5 α β γ δ ε) := ⟨fun K H v p => repT K H v [.dat p.a, .dat p.b, .dat p.c, .dat p.d, .dat p.e], fun e h => h.mono e⟩
instance {α β γ δ ε : Type} [Dat α] [Dat β] [Dat γ] [Dat δ] [Dat ε] : Tup (T5 α β γ δ ε) := ⟨fun p => [.dat p.a, .dat p.b, .dat p.c, .dat p.d, .dat p.e], fun _ _ _ _ => rfl⟩
theorem ARep.length {K : PySem.W.Frag} {H : Hp} : ∀ {vs : List V} {xs : List Sl}, ARep K H vs xs → vs.length = xs.length
  | [], [], _ => rfl
  | _ :: _, .dat (i := i) x :: _, h => congrArg (· + 1) (ARep.length h.2)
  | [], _ :: _, h => by simp [ARep] at h
  | _ :: _, [], h => by simp [ARep] at h
  | _ :: _, .any :: _, h => by simp [ARep] at h
  | _ :: _, .own (i := _) _ :: _, h => by simp [ARep] at h
theorem ARep.get {α : Type} [Dat α] {K : PySem.W.Frag} {H : Hp} {x : α} : ∀ {vs : List V} {xs : List Sl} {i : Nat}, ARep K H vs xs → xs[i]? = some (.dat x) → ∃ v, vs[i]? = some v ∧ Dat.rep K H v x
  | [], [], i, _, q => by simp at q
  | v :: _, .dat (i := j) y :: _, 0, h, q => by
    have q : Sl.dat (i := j) y = Sl.dat x := by simpa using q
    cases q
    exact ⟨v, rfl, h.1⟩
  | _ :: vs, .dat (i := j) y :: xs, i + 1, h, q => by
    have := ARep.get (vs := vs) (xs := xs) (i := i) h.2 (by simpa using q)
    simpa using this
  | [], _ :: _, _, h, _ => by simp [ARep] at h
  | _ :: _, [], _, h, _ => by simp [ARep] at h
  | _ :: _, .any :: _, _, h, _ => by simp [ARep] at h
  | _ :: _, .own (i := _) _ :: _, _, h, _ => by simp [ARep] at h
def EvA (K : PySem.W.Frag) (t : TA) (env : Env') (xs : List Sl) : Prop :=
  ∀ O fp σ H, SOk K O fp env σ H → ∀ Q : List V → Hp → Prop, (∀ vs H', Ex H H' → ARep K (wo H' (UU O fp)) vs xs → Q vs H') → t σ H Q
/-- an operation on values -/
def RV {α β γ : Type} [Dat α] [Dat β] [Dat γ] (K : PySem.W.Frag) (r : R2) (x : α) (y : β) (z : γ) : Prop :=
  ∀ (U : Addr → Prop) (v1 v2 : V) (H : Hp), (∀ a, U a → ∃ o, H a = some o) → Dat.rep K (wo H U) v1 x → Dat.rep K (wo H U) v2 y → ∀ Q : VK, (∀ v H', Ex H H' → Dat.rep K (wo H' U) v z → Q v H') → r v1 v2 H Q
/-- a call on values -/
def RC {γ : Type} [Dat γ] (K : PySem.W.Frag) (r : List V → Hp → VK → Prop) (xs : List Sl) (z : γ) : Prop :=
  ∀ (U : Addr → Prop) (vs : List V) (H : Hp), (∀ a, U a → ∃ o, H a = some o) → ARep K (wo H U) vs xs → ∀ Q : VK, (∀ v H', Ex H H' → Dat.rep K (wo H' U) v z → Q v H') → r vs H Q
/-- the greatest reading -/
def tE (X : Cx) (e : Expr) : TE := fun σ H Q => ∀ pins s, Inv X pins σ H s → wpAny (model X.prog X.w) X.A (eval e X.env) (EP X pins σ Q) X.xe s
def tT (X : Cx) (e : Expr) : TT := fun σ H Q => ∀ pins s, Inv X pins σ H s → wpAny (model X.prog X.w) X.A (isTrue e X.env (eval e X.env)) (TP X pins σ Q) X.xe s
def tW (X : Cx) (e : Expr) : TT := fun σ H Q => ∀ (whole : Sem Value) pins s, Inv X pins σ H s → wpAny (model X.prog X.w) X.A (isTrue e X.env whole) (TP X pins σ Q) X.xe s
def tA (X : Cx) (es : List Expr) : TA := fun σ H Q => ∀ (pos : Pos) pins s, Inv X pins σ H s → wpAny (model X.prog X.w) X.A (spliced (backTo pos (starEach es X.env))) (AP X pins σ Q) X.xe s
def tS (X : Cx) (st : Stmt) : TS := fun D σ H => ∀ pins s, Inv X pins σ H s → wpAny (model X.prog X.w) X.A (exec st X.env) (SP X pins D) X.xe s
def tSs (X : Cx) (sts : List Stmt) : TS := fun D σ H => ∀ pins s, Inv X pins σ H s → wpAny (model X.prog X.w) X.A (execs sts X.env) (SP X pins D) X.xe s
def tG (X : Cx) (tg : Expr) : TG := fun v σ H Q => ∀ pins s u, Inv X pins σ H s → RelV v u → wpAny (model X.prog X.w) X.A (assign tg X.env u) (fun _ s' => ∃ σ' H', Inv X pins σ' H' s' ∧ Q σ' H') X.xe s
theorem mE (X : Cx) (e : Expr) : PE X e (tE X e) := ⟨fun pins s _ _ _ I h => h pins s I⟩
theorem mT (X : Cx) (e : Expr) : PT X e (tT X e) := ⟨fun pins s _ _ _ I h => h pins s I⟩
theorem mW (X : Cx) (e : Expr) : PW X e (tW X e) := ⟨fun w pins s _ _ _ I h => h w pins s I⟩
theorem mA (X : Cx) (es : List Expr) : PA X es (tA X es) := ⟨fun p pins s _ _ _ I h => h p pins s I⟩
theorem mS (X : Cx) (st : Stmt) : PS X st (tS X st) := ⟨fun pins s _ _ _ I h => h pins s I⟩
theorem mSs (X : Cx) (st : List Stmt) : PSs X st (tSs X st) := ⟨fun pins s _ _ _ I h => h pins s I⟩
def EX {α : Type} [Dat α] (X : Cx) (e : Expr) (env : Env') (x : α) : Prop := Ev X.K (tE X e) env x
def ET (X : Cx) (e : Expr) (env : Env') (b : Bool) : Prop := EvT X.K (tT X e) env b
def EW (X : Cx) (e : Expr) (env : Env') (b : Bool) : Prop := EvT X.K (tW X e) env b
def EA (X : Cx) (es : List Expr) (env : Env') (xs : List Sl) : Prop := EvA X.K (tA X es) env xs
section
variable {X : Cx} {K : PySem.W.Frag} {env : Env'} {α β γ : Type} [Dat α] [Dat β] [Dat γ] {x : α} {y : β} {z : γ} {e a b c : Expr} {es : List Expr} {t ta tb tc : TE} {pos : Pos}
theorem ex_of (p : PE X e t) (h : Ev X.K t env x) : EX X e env x := fun O fp σ H S Q q pins s I => p.run pins s σ H Q I (h O fp σ H S Q q)
theorem et_of {t : TT} {k : Bool} (p : PT X e t) (h : EvT X.K t env k) : ET X e env k := fun O fp σ H S Q q pins s I => p.run pins s σ H Q I (h O fp σ H S Q q)
theorem ew_of {t : TT} {k : Bool} (p : PW X e t) (h : EvT X.K t env k) : EW X e env k := fun O fp σ H S Q q w pins s I => p.run w pins s σ H Q I (h O fp σ H S Q q)
theorem ea_of {t : TA} {xs : List Sl} (p : PA X es t) (h : EvA X.K t env xs) : EA X es env xs := fun O fp σ H S Q q pos pins s I => p.run pos pins s σ H Q I (h O fp σ H S Q q)
theorem EX.eq {x' : α} (h : EX X e env x) (q : x = x') : EX X e env x' := q ▸ h
theorem ET.eq {k k' : Bool} (h : ET X e env k) (q : k = k') : ET X e env k' := q ▸ h
theorem ev_var {i : Nat} (h : env[i]? = some (Sl.dat x)) : Ev K (tVar i) env x := fun O fp σ H S Q q => by
  obtain ⟨v, h1, h2⟩ := S.sl i _ h
  exact ⟨v, h1, q v H (Ex.refl H) h2⟩
theorem ev_c {v : V} (h : ∀ Hf, Dat.rep K Hf v x) : Ev K (tC v) env x := fun O fp σ H S Q q => q v H (Ex.refl H) (h _)
theorem ev_op {r : R2} (ha : Ev K ta env x) (hb : Ev K tb env y) (hr : RV K r x y z) : Ev K (tOp r ta tb) env z := fun O fp σ H S Q q =>
  ha O fp σ H S _ fun v1 H1 e1 r1 => hb O fp σ H1 (S.ex e1) _ fun v2 H2 e2 r2 => hr (UU O fp) v1 v2 H2 ((S.ex e1).ex e2).bndU (Dat.mono (wo_ex e2).le r1) r2 Q fun v H' e r => q v H' ((e1.trans e2).trans e) r
theorem ex_var {i : Nat} {n : Str} {pos : Pos} (h : env[i]? = some (Sl.dat x)) (hN : X.N[i]? = some n := by rfl) (hv : Vis X.env.scope n := by first | exact Or.inl rfl | exact Or.inr (Or.inl rfl) | exact Or.inr (Or.inr rfl)) (hd : (n == ("__debug__" : Str)) = false := by decide) (hc : (n == ("__classdict__" : Str)) = false := by decide) : EX X (.Name n pos) env x :=
  ex_of (pe_var hN hv hd hc) (ev_var h)
theorem ex_int {i : Int} {j : Nat} {pos : Pos} : EX X (.Constant (.int i) j pos) env i := ex_of pe_int (ev_c fun _ => rfl)
theorem ex_bl {i : Bool} {j : Nat} {pos : Pos} : EX X (.Constant (.bool i) j pos) env i := ex_of pe_bl (ev_c fun _ => rfl)
theorem ex_str {i : Str} {j : Nat} {pos : Pos} : EX X (.Constant (.str i) j pos) env i := ex_of pe_str (ev_c fun _ => rfl)
theorem ex_non {j : Nat} {pos : Pos} : EX X (.Constant .none j pos) env () := ex_of pe_non (ev_c fun _ => rfl)
theorem ex_op {op : Operator} {r : R2} (ho : OpR X (binaryOp op) r) (ha : EX X a env x) (hb : EX X b env y) (hr : RV X.K r x y z) : EX X (.BinOp a op b pos) env z := ex_of (pe_op ho (mE X a) (mE X b)) (ev_op ha hb hr)
/-! whole numbers -/
theorem rv_I0 {g : Int → Int → V} {i j : Int} (h : ∀ Hf, Dat.rep K Hf (g i j) z) : RV K (rI0 g) i j z := fun U v1 v2 H _ r1 r2 Q q => ⟨i, j, r1, r2, q _ H (Ex.refl H) (h _)⟩
theorem rv_I {C : Int → Int → Prop} {g : Int → Int → V} {i j : Int} (hc : C i j) (h : ∀ Hf, Dat.rep K Hf (g i j) z) : RV K (rI C g) i j z := fun U v1 v2 H _ r1 r2 Q q => ⟨i, j, r1, r2, hc, q _ H (Ex.refl H) (h _)⟩
theorem ex_add {i j : Int} (ha : EX X a env i) (hb : EX X b env j) : EX X (.BinOp a .Add b pos) env (i + j) := ex_op op_add ha hb (rv_I0 fun _ => rfl)
theorem ex_sub {i j : Int} (ha : EX X a env i) (hb : EX X b env j) : EX X (.BinOp a .Sub b pos) env (i - j) := ex_op op_sub ha hb (rv_I0 fun _ => rfl)
theorem ex_mul {i j : Int} (ha : EX X a env i) (hb : EX X b env j) (h : CMul i j) : EX X (.BinOp a .Mult b pos) env (i * j) := ex_op op_mul ha hb (rv_I h fun _ => rfl)
theorem ex_mulW {i j : Int} (ha : EX X a env i) (hb : EX X b env j) (h : CMulW i j) : EX X (.BinOp a .Mult b pos) env (i * j) := ex_op op_mulW ha hb (rv_I h fun _ => rfl)
theorem ex_fdiv {i j : Int} (ha : EX X a env i) (hb : EX X b env j) (h : CDiv i j) : EX X (.BinOp a .FloorDiv b pos) env (i / j) := ex_op op_fdiv ha hb (rv_I h fun _ => rfl)
theorem ex_fdivW {i j : Int} (ha : EX X a env i) (hb : EX X b env j) (h : CDivW i j) : EX X (.BinOp a .FloorDiv b pos) env (i / j) := ex_op op_fdivW ha hb (rv_I h fun _ => rfl)
theorem ex_mod {i j : Int} (ha : EX X a env i) (hb : EX X b env j) (h : 0 < j) : EX X (.BinOp a .Mod b pos) env (i % j) := ex_op op_mod ha hb (rv_I h fun _ => rfl)
theorem ex_modN {i j : Int} (ha : EX X a env i) (hb : EX X b env j) (h : j ≠ 0) : EX X (.BinOp a .Mod b pos) env (i.fmod j) := ex_op op_modN ha hb (rv_I h fun _ => rfl)
theorem ex_pow {i j : Int} (ha : EX X a env i) (hb : EX X b env j) (h : CPow i j) : EX X (.BinOp a .Pow b pos) env (i ^ j.toNat) := ex_op op_pow ha hb (rv_I h fun _ => rfl)
theorem ex_neg {i : Int} (ha : EX X a env i) : EX X (.UnaryOp .USub a pos) env (-i) := ex_of (pe_un un_neg (mE X a)) fun O fp σ H S Q q => ha O fp σ H S _ fun v1 H1 e1 r1 => ⟨i, r1, q _ H1 e1 rfl⟩
/-! comparisons -/
theorem ex_cmp {op : CmpOp} {r : R2} (ho : OpR X (compareOp op) r) (ha : EX X a env x) (hb : EX X b env y) (hr : RV X.K r x y z) (hm : behindInMarks op b = false) : EX X (.Compare a [op] [b] pos) env z := ex_of (pe_cmpR ho (mE X a) (mE X b) hm) (ev_op ha hb hr)
theorem et_cmp {op : CmpOp} {r : R2} {k : Bool} (ho : OpR X (compareOp op) r) (ha : EX X a env x) (hb : EX X b env y) (hr : RV X.K r x y k) (hm : behindInMarks op b = false) : ET X (.Compare a [op] [b] pos) env k := et_of (pt_cmpR ho (mE X a) (mE X b) hm) fun O fp σ H S Q q => ev_op ha hb hr O fp σ H S _ fun v H' e r => ⟨k, r, q H' e⟩
theorem ex_lt {i j : Int} (ha : EX X a env i) (hb : EX X b env j) : EX X (.Compare a [.Lt] [b] pos) env (decide (i < j)) := ex_cmp op_lt ha hb (rv_I0 fun _ => rfl) (nomark _)
theorem ex_le {i j : Int} (ha : EX X a env i) (hb : EX X b env j) : EX X (.Compare a [.LtE] [b] pos) env (decide (i ≤ j)) := ex_cmp op_le ha hb (rv_I0 fun _ => rfl) (nomark _)
theorem ex_gt {i j : Int} (ha : EX X a env i) (hb : EX X b env j) : EX X (.Compare a [.Gt] [b] pos) env (decide (j < i)) := ex_cmp op_gt ha hb (rv_I0 fun _ => rfl) (nomark _)
theorem ex_ge {i j : Int} (ha : EX X a env i) (hb : EX X b env j) : EX X (.Compare a [.GtE] [b] pos) env (decide (j ≤ i)) := ex_cmp op_ge ha hb (rv_I0 fun _ => rfl) (nomark _)
theorem et_lt {i j : Int} (ha : EX X a env i) (hb : EX X b env j) : ET X (.Compare a [.Lt] [b] pos) env (decide (i < j)) := et_cmp op_lt ha hb (rv_I0 fun _ => rfl) (nomark _)
theorem et_le {i j : Int} (ha : EX X a env i) (hb : EX X b env j) : ET X (.Compare a [.LtE] [b] pos) env (decide (i ≤ j)) := et_cmp op_le ha hb (rv_I0 fun _ => rfl) (nomark _)
theorem et_gt {i j : Int} (ha : EX X a env i) (hb : EX X b env j) : ET X (.Compare a [.Gt] [b] pos) env (decide (j < i)) := et_cmp op_gt ha hb (rv_I0 fun _ => rfl) (nomark _)
theorem et_ge {i j : Int} (ha : EX X a env i) (hb : EX X b env j) : ET X (.Compare a [.GtE] [b] pos) env (decide (j ≤ i)) := et_cmp op_ge ha hb (rv_I0 fun _ => rfl) (nomark _)
/-- == of what is no object -/
class Flat (α : Type) [Dat α] [DecidableEq α] : Prop where
  sc : ∀ (K : PySem.W.Frag) (Hf Hf' : Hp) (v w : V) (x y : α), Dat.rep K Hf v x → Dat.rep K Hf' w y → scal v w = true ∧ (decide (v = w)) = decide (x = y)
instance : Flat Int := ⟨fun K Hf Hf' v w x y h1 h2 => by
  have h1 : v = .int x := h1
  have h2 : w = .int y := h2
  subst h1 h2
  refine ⟨rfl, ?_⟩
  by_cases h : x = y
  · subst h; simp
  · rw [decide_eq_false h, decide_eq_false]; intro z; exact h (V.int.inj z)⟩
instance : Flat Bool := ⟨fun K Hf Hf' v w x y h1 h2 => by
  have h1 : v = .bl x := h1
  have h2 : w = .bl y := h2
  subst h1 h2
  refine ⟨rfl, ?_⟩
  by_cases h : x = y
  · subst h; simp
  · rw [decide_eq_false h, decide_eq_false]; intro z; exact h (V.bl.inj z)⟩
instance : Flat Str := ⟨fun K Hf Hf' v w x y h1 h2 => by
  have h1 : v = .str x := h1
  have h2 : w = .str y := h2
  subst h1 h2
  refine ⟨rfl, ?_⟩
  by_cases h : x = y
  · subst h; simp
  · rw [decide_eq_false h, decide_eq_false]; intro z; exact h (V.str.inj z)⟩
theorem rv_eqF {α : Type} [Dat α] [DecidableEq α] [Flat α] {x y : α} : RV K rEq x y (decide (x = y)) := fun U v1 v2 H _ r1 r2 Q q => by
  obtain ⟨h1, h2⟩ := Flat.sc K _ _ v1 v2 x y r1 r2
  exact ⟨h1, q _ H (Ex.refl H) (show V.bl (decide (v1 = v2)) = V.bl (decide (x = y)) by rw [h2])⟩
theorem rv_neF {α : Type} [Dat α] [DecidableEq α] [Flat α] {x y : α} : RV K rNe x y (!decide (x = y)) := fun U v1 v2 H _ r1 r2 Q q => by
  obtain ⟨h1, h2⟩ := Flat.sc K _ _ v1 v2 x y r1 r2
  exact ⟨h1, q _ H (Ex.refl H) (show V.bl (!decide (v1 = v2)) = V.bl (!decide (x = y)) by rw [h2])⟩
theorem ex_eq {α : Type} [Dat α] [DecidableEq α] [Flat α] {x y : α} (ha : EX X a env x) (hb : EX X b env y) : EX X (.Compare a [.Eq] [b] pos) env (decide (x = y)) := ex_cmp op_eq ha hb rv_eqF (nomark _)
theorem ex_ne {α : Type} [Dat α] [DecidableEq α] [Flat α] {x y : α} (ha : EX X a env x) (hb : EX X b env y) : EX X (.Compare a [.NotEq] [b] pos) env (!decide (x = y)) := ex_cmp op_ne ha hb rv_neF (nomark _)
theorem et_eq {α : Type} [Dat α] [DecidableEq α] [Flat α] {x y : α} (ha : EX X a env x) (hb : EX X b env y) : ET X (.Compare a [.Eq] [b] pos) env (decide (x = y)) := et_cmp op_eq ha hb rv_eqF (nomark _)
theorem et_ne {α : Type} [Dat α] [DecidableEq α] [Flat α] {x y : α} (ha : EX X a env x) (hb : EX X b env y) : ET X (.Compare a [.NotEq] [b] pos) env (!decide (x = y)) := et_cmp op_ne ha hb rv_neF (nomark _)
/-! and, or, not, if-else -/
theorem et_val {k : Bool} (h : EX X e env k) (he : ∀ whole, isTrue e X.env whole = (do let v ← whole; standAt e.pos; holding [v] (truthy v)) := by intro _; rfl) : ET X e env k := et_of (pt_val (mE X e) he) fun O fp σ H S Q q => h O fp σ H S _ fun v H' e r => ⟨k, r, q H' e⟩
theorem ew_and1 {k : Bool} (h : ET X a env k) : EW X (.BoolOp .And [a] pos) env k := ew_of (pw_and1 (mT X a)) h
theorem ew_or1 {k : Bool} (h : ET X a env k) : EW X (.BoolOp .Or [a] pos) env k := ew_of (pw_or1 (mT X a)) h
theorem ew_and {k j : Bool} (h : ET X a env k) (hr : k = true → EW X (.BoolOp .And (b :: es) pos) env j) : EW X (.BoolOp .And (a :: b :: es) pos) env (k && j) := ew_of (pw_and (mT X a) (mW X _)) fun O fp σ H S Q q => h O fp σ H S _ fun H1 e1 => by
  cases k with
  | true =>
    show tW X _ σ H1 Q
    exact hr rfl O fp σ H1 (S.ex e1) Q fun H2 e2 => q H2 (e1.trans e2)
  | false =>
    show Q false H1
    exact q H1 e1
theorem ew_or {k j : Bool} (h : ET X a env k) (hr : k = false → EW X (.BoolOp .Or (b :: es) pos) env j) : EW X (.BoolOp .Or (a :: b :: es) pos) env (k || j) := ew_of (pw_or (mT X a) (mW X _)) fun O fp σ H S Q q => h O fp σ H S _ fun H1 e1 => by
  cases k with
  | false =>
    show tW X _ σ H1 Q
    exact hr rfl O fp σ H1 (S.ex e1) Q fun H2 e2 => q H2 (e1.trans e2)
  | true =>
    show Q true H1
    exact q H1 e1
theorem et_bool {k : Bool} (h : EW X e env k) : ET X e env k := et_of (PW.pt (mW X e)) h
theorem et_not {k : Bool} (h : ET X a env k) : ET X (.UnaryOp .Not a pos) env (!k) := et_of (pt_not (mT X a)) fun O fp σ H S Q q => h O fp σ H S _ fun H1 e1 => q H1 e1
theorem ex_one {op} (h : EX X a env x) : EX X (.BoolOp op [a] pos) env x := ex_of (pe_one (mE X a)) h
theorem ex_and {k j : Bool} (h : EX X a env k) (hr : k = true → EX X (.BoolOp .And (b :: es) pos) env j) : EX X (.BoolOp .And (a :: b :: es) pos) env (k && j) := ex_of (pe_and (mE X a) (mE X _)) fun O fp σ H S Q q => h O fp σ H S _ fun v H1 e1 r1 => ⟨k, r1, by
  cases k with
  | true =>
    show tE X _ σ H1 Q
    exact hr rfl O fp σ H1 (S.ex e1) Q fun v2 H2 e2 r2 => q v2 H2 (e1.trans e2) r2
  | false =>
    show Q (.bl false) H1
    exact q _ H1 e1 rfl⟩
theorem ex_or {k j : Bool} (h : EX X a env k) (hr : k = false → EX X (.BoolOp .Or (b :: es) pos) env j) : EX X (.BoolOp .Or (a :: b :: es) pos) env (k || j) := ex_of (pe_or (mE X a) (mE X _)) fun O fp σ H S Q q => h O fp σ H S _ fun v H1 e1 r1 => ⟨k, r1, by
  cases k with
  | false =>
    show tE X _ σ H1 Q
    exact hr rfl O fp σ H1 (S.ex e1) Q fun v2 H2 e2 r2 => q v2 H2 (e1.trans e2) r2
  | true =>
    show Q (.bl true) H1
    exact q _ H1 e1 rfl⟩
theorem ex_not {k : Bool} (h : EX X a env k) : EX X (.UnaryOp .Not a pos) env (!k) := ex_of (pe_not (mE X a)) fun O fp σ H S Q q => h O fp σ H S _ fun v H1 e1 r1 => ⟨k, r1, q _ H1 e1 rfl⟩
theorem ex_if {k : Bool} {z w : α} (h : ET X c env k) (h1 : k = true → EX X a env z) (h2 : k = false → EX X b env w) : EX X (.IfExp c a b pos) env (cond k z w) := ex_of (pe_ifExp (mT X c) (mE X a) (mE X b)) fun O fp σ H S Q q => h O fp σ H S _ fun H1 e1 => by
  cases k with
  | true =>
    show tE X a σ H1 Q
    exact h1 rfl O fp σ H1 (S.ex e1) Q fun v2 H2 e2 r2 => q v2 H2 (e1.trans e2) r2
  | false =>
    show tE X b σ H1 Q
    exact h2 rfl O fp σ H1 (S.ex e1) Q fun v2 H2 e2 r2 => q v2 H2 (e1.trans e2) r2
/-! argument lists, tuples, lists -/
theorem ea_nil : EA X [] env [] := ea_of pa_nil fun O fp σ H S Q q => q [] H (Ex.refl H) trivial
theorem ea_cons {xs : List Sl} (h : EX X e env x) (hr : EA X es env xs) (hs : starEach (e :: es) X.env = (false, eval e X.env) :: starEach es X.env := by rfl) : EA X (e :: es) env (Sl.dat x :: xs) := ea_of (pa_cons (mE X e) (mA X es) hs) fun O fp σ H S Q q => h O fp σ H S _ fun v H1 e1 r1 => hr O fp σ H1 (S.ex e1) _ fun vs H2 e2 r2 => q _ H2 (e1.trans e2) ⟨Dat.mono (wo_ex e2).le r1, r2⟩
theorem sz_of {n : Nat} (h : n ≤ 100000) : n ≤ sizeLine := Nat.le_trans h (by decide)
theorem upd_out {H : Hp} {U : Addr → Prop} {p : Addr} {o : HO} (h : ¬ U p) : wo (upd H p o) U p = some o := by rw [wo_out h, upd_same]
theorem ex_tup {τ : Type} [Dat τ] [T : Tup τ] {p : τ} {j : Nat} (h : EA X es env (T.comps p)) (hl : (T.comps p).length ≤ 100000 := by exact Nat.le_of_ble_eq_true rfl) : EX X (.Tuple es j pos) env p := ex_of (pe_tup (mA X _)) fun O fp σ H S Q q => h O fp σ H S _ fun vs H1 e1 r1 => by
  refine ⟨sz_of (by rw [r1.length]; exact hl), fun u hu => ?_⟩
  have e2 : Ex H1 (upd H1 u (.tup vs)) := Ex.new hu
  have np := (S.ex e1).fresh hu
  exact q _ _ (e1.trans e2) (by rw [T.is]; exact ⟨u, vs, rfl, .inl (.inl (upd_out np)), r1.mono (wo_ex e2).le⟩)
/-- t[k] of a tuple, k written -/
theorem ex_ixT {τ : Type} [Dat τ] [T : Tup τ] {p : τ} {k : Nat} (h : EX X a env p) (hb : EX X b env (k : Int)) (g : (T.comps p)[k]? = some (.dat x)) (hs : PlainIx b := by exact fun _ _ => rfl) : EX X (.Subscript a b pos) env x := ex_of (pe_ix ix_tup (mE X a) (mE X _) hs) (ev_op h hb fun U v1 v2 H _ r1 r2 Q q => by
  rw [T.is] at r1
  obtain ⟨p, vs, e, t, r⟩ := r1
  obtain ⟨v, hv, rv⟩ := r.get g
  exact ⟨p, vs, k, v, e, r2, wo_le.tup t, atI_nat hv, q _ H (Ex.refl H) rv⟩)
theorem ex_fst {p : α × β} {j : Nat} {pos' : Pos} (h : EX X a env p) : EX X (.Subscript a (.Constant (.int 0) j pos') pos) env p.1 := ex_ixT (k := 0) h ex_int rfl
theorem ex_snd {p : α × β} {j : Nat} {pos' : Pos} (h : EX X a env p) : EX X (.Subscript a (.Constant (.int 1) j pos') pos) env p.2 := ex_ixT (k := 1) h ex_int rfl
end
end R
set_option maxHeartbeats 2000000
set_option autoImplicit false
namespace R
open PySem PySem.Spec PyProof.Rows L2
/-! ### statements -/
/-- what comes back: data, or something new of one's own -/
class Res (ρ : Type) where
  inn : PySem.W.Frag → Hp → Hp → (Addr → Prop) → V → ρ → Prop
  out : PySem.W.Frag → (Addr → Prop) → Hp → Hp → V → ρ → Prop
  mono : ∀ {K : PySem.W.Frag} {Hf Hf' Hc Hc' : Hp} {own : Addr → Prop} {v : V} {r : ρ}, Le Hf Hf' → (∀ a, own a → Hc' a = Hc a) → inn K Hf Hc own v r → inn K Hf' Hc' own v r
  conv : ∀ {K : PySem.W.Frag} {O : Addr → Prop} {fp : Nat → List Addr} {H H' : Hp} {v : V} {r : ρ}, (∀ a, (∃ i, a ∈ fp i) → H a = none) → (∀ a, (∃ i, a ∈ fp i) → ∃ o, H' a = some o) → inn K (wo H' (UU O fp)) H' (fun a => ∃ i, a ∈ fp i) v r → out K O H H' v r
instance {α : Type} [Dat α] : Res α := ⟨fun K Hf _ _ v r => Dat.rep K Hf v r, fun K O _ H' v r => Dat.rep K (wo H' O) v r, fun h _ q => Dat.mono h q, fun _ _ q => Dat.mono (wo_mono fun _ z => .inl z).le q⟩
instance {β : Type} [Own β] : Res β := ⟨fun K Hf Hc own v r => ∃ L : List Addr, (∀ a ∈ L, own a) ∧ Own.own K Hf Hc v L r,
  fun K O H H' v r => ∃ L : List Addr, (∀ a ∈ L, H a = none) ∧ (∀ a ∈ L, ∃ o, H' a = some o) ∧ Own.own K (wo H' (fun a => O a ∨ a ∈ L)) H' v L r,
  fun h hc ⟨L, h1, h2⟩ => ⟨L, h1, Own.frame h (fun a ha => hc a (h1 a ha)) h2⟩,
  fun h1 h2 ⟨L, h3, h4⟩ => ⟨L, fun a ha => h1 a (h3 a ha), fun a ha => h2 a (h3 a ha), Own.frame (wo_mono fun a z => z.elim .inl fun z => .inr (h3 a z)).le (fun _ _ => rfl) h4⟩⟩
/-- what is raised: a class by its name; the two with fields -/
inductive Exn where
  | one (c : Str)
  | clash (numbers : List Int) (weights : List (Int × Int))
  | stuck (way : Str) (numbers : List Int) (weights : List (Int × Int))
def ExAt (mg : Str → Option Value) (K : PySem.W.Frag) (Hf : Hp) (e : Exn) (cls : Value) (d : Option Addr) : Prop := match e with
  | .one c => mg c = some cls ∧ d = none
  | .clash ns ws => mg "Clash" = some cls ∧ ∃ dx v1 v2, d = some dx ∧ Hf dx = some (.xd [("numbers", v1), ("weights", v2)]) ∧ Dat.rep K Hf v1 ns ∧ Dat.rep K Hf v2 ws
  | .stuck w ns ws => mg "Stuck" = some cls ∧ ∃ dx v0 v1 v2, d = some dx ∧ Hf dx = some (.xd [("direction", v0), ("numbers", v1), ("weights", v2)]) ∧ Dat.rep K Hf v0 w ∧ Dat.rep K Hf v1 ns ∧ Dat.rep K Hf v2 ws
structure Po (ρ : Type) where
  N : Env' → Prop
  R : ρ → Env' → Prop
  X : Exn → Env' → Prop := fun _ _ => False
  B : Env' → Prop := fun _ => False
  C : Env' → Prop := fun _ => False
def Keep (fp : Nat → List Addr) (H : Hp) (fp' : Nat → List Addr) (H' : Hp) : Prop :=
  (∀ a o, (¬ ∃ i, a ∈ fp i) → H a = some o → H' a = some o) ∧ ∀ i a, a ∈ fp' i → (∃ j, a ∈ fp j) ∨ H a = none
section
variable {K : PySem.W.Frag} {O : Addr → Prop} {fp fp' fp1 : Nat → List Addr} {H H' H1 : Hp}
theorem Keep.refl : Keep fp H fp H := ⟨fun _ _ _ h => h, fun i a h => .inl ⟨i, h⟩⟩
theorem Keep.ex (e : Ex H H') : Keep fp H fp H' := ⟨fun a o _ h => e a o h, fun i a h => .inl ⟨i, h⟩⟩
theorem Keep.trans (a : Keep fp H fp1 H1) (b : Keep fp1 H1 fp' H') : Keep fp H fp' H' := by
  refine ⟨fun x o n h => b.1 x o (fun ⟨i, hi⟩ => ?_) (a.1 x o n h), fun i x h => ?_⟩
  · rcases a.2 i x hi with z | z
    · exact n z
    · rw [h] at z; cases z
  · rcases b.2 i x h with ⟨j, z⟩ | z
    · exact a.2 j x z
    · by_cases n : ∃ j, x ∈ fp j
      · exact .inl n
      · refine .inr ?_
        cases q : H x with
        | none => rfl
        | some o =>
          rw [a.1 x o n q] at z
          cases z
/-- what was frozen is so still -/
theorem Keep.frz (k : Keep fp H fp' H') : Ex (wo H (UU O fp)) (wo H' (UU O fp')) := fun a o h => by
  obtain ⟨n, q⟩ := wo_some h
  have n1 : ¬ O a := fun z => n (.inl z)
  have n2 : ¬ ∃ i, a ∈ fp i := fun z => n (.inr z)
  rw [wo_out]
  · exact k.1 a o n2 q
  · rintro (z | ⟨i, z⟩)
    · exact n1 z
    · rcases k.2 i a z with y | y
      · exact n2 y
      · rw [q] at y; cases y
end
structure Goes {ρ : Type} [Res ρ] (K : PySem.W.Frag) (mg : Str → Option Value) (W : WX) (po : Po ρ) (O : Addr → Prop) (fp : Nat → List Addr) (H : Hp) (D : Ends) : Prop where
  nx : ∀ env' fp' σ' H', po.N env' → Keep fp H fp' H' → SOk K O fp' env' σ' H' → D.nx σ' H'
  rt : ∀ r env' fp' σ' v H', po.R r env' → Keep fp H fp' H' → SOk K O fp' env' σ' H' → Res.inn K (wo H' (UU O fp')) H' (fun a => ∃ i, a ∈ fp' i) v r → D.rt v H'
  ex : ∀ e env' fp' σ' cls d H', po.X e env' → Keep fp H fp' H' → SOk K O fp' env' σ' H' → ExAt mg K (wo H' (UU O fp')) e cls d → W cls d σ' H'
  bk : ∀ env' fp' σ' H', po.B env' → Keep fp H fp' H' → SOk K O fp' env' σ' H' → D.bk σ' H'
  ct : ∀ env' fp' σ' H', po.C env' → Keep fp H fp' H' → SOk K O fp' env' σ' H' → D.ct σ' H'
def SvS {ρ : Type} [Res ρ] (K : PySem.W.Frag) (mg : Str → Option Value) (W : WX) (t : TS) (env : Env') (po : Po ρ) : Prop :=
  ∀ O fp σ H, SOk K O fp env σ H → ∀ D, Goes K mg W po O fp H D → t D σ H
def SX {ρ : Type} [Res ρ] (X : Cx) (W : WX) (sts : List Stmt) (env : Env') (po : Po ρ) : Prop := SvS X.K X.mg W (tSs X sts) env po
def S1 {ρ : Type} [Res ρ] (X : Cx) (W : WX) (st : Stmt) (env : Env') (po : Po ρ) : Prop := SvS X.K X.mg W (tS X st) env po
/-- what is known less -/
def Sub : Env' → Env' → Prop
  | [], [] => True
  | s :: a, t :: b => (t = .any ∨ s = t) ∧ Sub a b
  | _, _ => False
theorem Sub.refl : ∀ e : Env', Sub e e
  | [] => trivial
  | _ :: e => ⟨.inr rfl, Sub.refl e⟩
theorem Sub.len : ∀ {a b : Env'}, Sub a b → a.length = b.length
  | [], [], _ => rfl
  | _ :: a, _ :: b, h => congrArg (· + 1) (Sub.len (a := a) (b := b) h.2)
  | [], _ :: _, h => h.elim
  | _ :: _, [], h => h.elim
theorem Sub.get : ∀ {a b : Env'} {i : Nat} {s : Sl}, Sub a b → b[i]? = some s → s = .any ∨ a[i]? = some s
  | [], [], i, s, _, q => by simp at q
  | x :: a, y :: b, 0, s, h, q => by
    have q : y = s := by simpa using q
    subst q
    rcases h.1 with z | z
    · exact .inl z
    · exact .inr (by simp [z])
  | x :: a, y :: b, i + 1, s, h, q => by
    have := Sub.get (a := a) (b := b) (i := i) (s := s) h.2 (by simpa using q)
    simpa using this
  | [], _ :: _, _, _, h, _ => h.elim
  | _ :: _, [], _, _, h, _ => h.elim
theorem SOk.sub {K : PySem.W.Frag} {O : Addr → Prop} {fp : Nat → List Addr} {env env' : Env'} {σ : L2.St} {H : Hp} (S : SOk K O fp env σ H) (h : Sub env env') : SOk K O fp env' σ H where
  len := S.len.trans h.len
  bnd := S.bnd
  fpO := S.fpO
  sep := S.sep
  dom := S.dom
  sl := fun i s q => by
    rcases h.get q with z | z
    · subst z; exact trivial
    · exact S.sl i s z
/-- a slot gets data -/
theorem SOk.set {α : Type} [Dat α] {K : PySem.W.Frag} {O : Addr → Prop} {fp : Nat → List Addr} {env : Env'} {σ : L2.St} {H : Hp} {x : α} {v : V} (S : SOk K O fp env σ H) (i : Nat) (h : Dat.rep K (wo H (UU O fp)) v x) : SOk K O fp (env.set i (.dat x)) (σ.set i (some v)) H where
  len := by rw [List.length_set, List.length_set]; exact S.len
  bnd := S.bnd
  fpO := S.fpO
  sep := S.sep
  dom := S.dom
  sl := fun j s q => by
    by_cases e : i = j
    · subst e
      have hi : i < env.length := by
        have := (List.getElem?_eq_some_iff.mp q).1
        simpa using this
      rw [List.getElem?_set_self hi] at q
      cases q
      exact ⟨v, by rw [List.getElem?_set_self (by rw [S.len]; exact hi)], h⟩
    · rw [List.getElem?_set_ne e] at q ⊢
      exact S.sl j s q
/-- a slot is forgotten -/
theorem SOk.forget {K : PySem.W.Frag} {O : Addr → Prop} {fp : Nat → List Addr} {env : Env'} {σ : L2.St} {H : Hp} {o : Option V} (S : SOk K O fp env σ H) (i : Nat) : SOk K O fp (env.set i .any) (σ.set i o) H where
  len := by rw [List.length_set, List.length_set]; exact S.len
  bnd := S.bnd
  fpO := S.fpO
  sep := S.sep
  dom := S.dom
  sl := fun j s q => by
    by_cases e : i = j
    · subst e
      have hi : i < env.length := by
        have := (List.getElem?_eq_some_iff.mp q).1
        simpa using this
      rw [List.getElem?_set_self hi] at q
      cases q
      exact trivial
    · rw [List.getElem?_set_ne e] at q ⊢
      exact S.sl j s q
/-- targets -/
def GX {α : Type} [Dat α] (X : Cx) (tg : Expr) (x : α) (env env' : Env') : Prop :=
  ∀ O fp σ H v, SOk X.K O fp env σ H → Dat.rep X.K (wo H (UU O fp)) v x → ∀ Q : L2.St → Hp → Prop, (∀ σ', SOk X.K O fp env' σ' H → Q σ' H) → tG X tg v σ H Q
section
variable {X : Cx} {K : PySem.W.Frag} {mg : Str → Option Value} {W : WX} {env env' : Env'} {ρ α β γ : Type} [Res ρ] [Dat α] [Dat β] [Dat γ] {po : Po ρ} {x : α} {y : β} {z : γ} {e a b c tg : Expr} {es : List Expr} {t ta tb tc : TE} {pos p2 : Pos} {st : Stmt} {sts rest thn els body : List Stmt}
section
variable {O : Addr → Prop} {fp fp' : Nat → List Addr} {H H' : Hp} {D : Ends}
theorem Goes.step (G : Goes K mg W po O fp H D) (k : Keep fp H fp' H') : Goes K mg W po O fp' H' D :=
  ⟨fun e f s h p q => G.nx e f s h p (k.trans q), fun r e f s v h p q => G.rt r e f s v h p (k.trans q), fun x e f s c d h p q => G.ex x e f s c d h p (k.trans q), fun e f s h p q => G.bk e f s h p (k.trans q), fun e f s h p q => G.ct e f s h p (k.trans q)⟩
end
theorem mG (X : Cx) (tg : Expr) : PG X tg (tG X tg) := ⟨fun pins s σ H v u Q I r h => h pins s u I r⟩
theorem gx_of {g : TG} (p : PG X tg g) (h : ∀ O fp σ H v, SOk X.K O fp env σ H → Dat.rep X.K (wo H (UU O fp)) v x → ∀ Q : L2.St → Hp → Prop, (∀ σ', SOk X.K O fp env' σ' H → Q σ' H) → g v σ H Q) : GX X tg x env env' :=
  fun O fp σ H v S r Q q pins s u I ru => p.run pins s σ H v u Q I ru (h O fp σ H v S r Q q)
theorem gx_name {i : Nat} {n : Str} {pos : Pos} (hN : X.N.Nodup) (hi : X.N[i]? = some n := by rfl) (hx : Loc X.env.scope n := by first | exact Or.inl rfl | exact Or.inr rfl) (hf : X.fn n = true ∨ X.env.scope.names.lookup n = some .local := by first | exact .inl rfl | exact .inr rfl | assumption) :
    GX X (.Name n pos) x env (env.set i (.dat x)) := gx_of (pg_name hN hi hx hf) fun O fp σ H v S r Q q => q _ (S.set i r)
def tGs (X : Cx) (es : List Expr) : TGs := fun vs σ H Q => ∀ (pins : List (Addr × Obj)) (s : Shared) (us : List Value), Inv X pins σ H s → Vals vs us → wpAny (model X.prog X.w) X.A (assignInOrder ((assignEach es X.env).map (·.2)) us) (fun _ s' => ∃ σ' H', Inv X pins σ' H' s' ∧ Q σ' H') X.xe s
theorem mGs (X : Cx) (es : List Expr) : PGs X es (tGs X es) := ⟨fun pins s σ H vs us Q I r h => h pins s us I r⟩
def GXs (X : Cx) (es : List Expr) (xs : List Sl) (env env' : Env') : Prop :=
  ∀ O fp σ H vs, SOk X.K O fp env σ H → ARep X.K (wo H (UU O fp)) vs xs → ∀ Q : L2.St → Hp → Prop, (∀ σ', SOk X.K O fp env' σ' H → Q σ' H) → tGs X es vs σ H Q
theorem gxs_nil : GXs X [] [] env env := fun O fp σ H vs S r Q q pins s us I ru => by
  match vs, r with
  | [], _ => exact pgs_nil.run pins s σ H [] us Q I ru ⟨rfl, q σ S⟩
theorem gxs_cons {xs : List Sl} {env1 env2 : Env'} (h1 : GX X a x env env1) (h2 : GXs X es xs env1 env2) (hs : (assignEach (a :: es) X.env).map (·.2) = assign a X.env :: (assignEach es X.env).map (·.2) := by rfl) : GXs X (a :: es) (.dat x :: xs) env env2 := fun O fp σ H vs S r Q q pins s us I ru => by
  match vs, r with
  | v :: vr, ⟨r1, r2⟩ => exact (pgs_cons (mG X a) (mGs X es) hs).run pins s σ H (v :: vr) us Q I ru ⟨v, vr, rfl, h1 O fp σ H v S r1 _ fun σ1 S1 => h2 O fp σ1 H vr S1 r2 Q q⟩
theorem gx_tup {τ : Type} [Dat τ] [T : Tup τ] {p : τ} {k : Nat} (hc : X.calm = true) (h : GXs X es (T.comps p) env env') (hn : (assignEach es X.env).length = (T.comps p).length := by rfl) (hst : (assignEach es X.env).findIdx? (·.1) = none := by rfl) : GX X (.Tuple es k pos) p env env' :=
  gx_of (pg_tup hc (mGs X es) hn hst) fun O fp σ H v S r Q q => by
    rw [T.is] at r
    obtain ⟨ad, vs, e, t, r1⟩ := r
    exact ⟨ad, vs, e, wo_le.tup t, r1.length, h O fp σ H vs S r1 Q q⟩
theorem sx_of {t : TS} (p : PSs X sts t) (h : SvS X.K X.mg W t env po) : SX X W sts env po := fun O fp σ H S D G pins s I => p.run pins s σ H D I (h O fp σ H S D G)
theorem s1_of {t : TS} (p : PS X st t) (h : SvS X.K X.mg W t env po) : S1 X W st env po := fun O fp σ H S D G pins s I => p.run pins s σ H D I (h O fp σ H S D G)
theorem sx_nil (h : po.N env) : SX X W [] env po := sx_of pss_nil fun O fp σ H S D G => G.nx env fp σ H h Keep.refl S
theorem sx_cons (M : Env' → Prop) (h1 : S1 X W st env { po with N := M }) (h2 : ∀ e, M e → SX X W rest e po) : SX X W (st :: rest) env po :=
  sx_of (pss_cons (mS X st) (mSs X rest)) fun O fp σ H S D G => h1 O fp σ H S _ ⟨fun e f s h m k S2 => h2 e m O f s h S2 D (G.step k), G.rt, G.ex, G.bk, G.ct⟩
/-- a statement that hands on -/
theorem sx_step {t : TS} (p : PS X st t) (h : ∀ O fp σ H, SOk X.K O fp env σ H → ∀ D : Ends, (∀ fp' σ' H', Keep fp H fp' H' → SOk X.K O fp' env' σ' H' → D.nx σ' H') → t D σ H) (h2 : SX X W rest env' po) : SX X W (st :: rest) env po :=
  sx_cons (fun e => e = env') (s1_of p fun O fp σ H S D G => h O fp σ H S D fun fp' σ' H' k S' => G.nx env' fp' σ' H' rfl k S') fun e he => he ▸ h2
theorem sx_sub (h : Sub env env') (h2 : SX X W sts env' po) : SX X W sts env po := fun O fp σ H S => h2 O fp σ H (S.sub h)
theorem SX.imp {po' : Po ρ} (h : SX X W sts env po) (n : ∀ e, po.N e → po'.N e) (r : ∀ x e, po.R x e → po'.R x e) (x : ∀ i e, po.X i e → po'.X i e) (b : ∀ e, po.B e → po'.B e) (c : ∀ e, po.C e → po'.C e) : SX X W sts env po' :=
  fun O fp σ H S D G => h O fp σ H S D ⟨fun e f s h m => G.nx e f s h (n e m), fun i e f s v h m => G.rt i e f s v h (r i e m), fun i e f s c d h m => G.ex i e f s c d h (x i e m), fun e f s h m => G.bk e f s h (b e m), fun e f s h m => G.ct e f s h (c e m)⟩
theorem sx_pass (h : SX X W rest env po) : SX X W (.Pass pos :: rest) env po := sx_step ps_pass (fun O fp σ H S D q => q fp σ H Keep.refl S) h
theorem sx_asg (he : EX X e env x) (hg : GX X tg x env env') (h : SX X W rest env' po) (hs : swapsWithSole [tg] e pos.line X.env = pure false := by rfl) (hw : swappedStores [tg] e X.env = pure none := by rfl) (h1 : (assignEach [tg] X.env).map (·.2) = [assign tg X.env] := by rfl) : SX X W (.Assign [tg] e pos :: rest) env po :=
  sx_step (ps_asg (mE X e) (mG X tg) hs hw h1) (fun O fp σ H S D q => he O fp σ H S _ fun v H1 e1 r1 => hg O fp σ H1 v (S.ex e1) r1 _ fun σ' S' => q fp σ' H1 (Keep.ex e1) S') h
theorem sx_set {i : Nat} {n : Str} (hN : X.N.Nodup) (he : EX X e env x) (h : SX X W rest (env.set i (.dat x)) po) (hi : X.N[i]? = some n := by rfl) (hx : Loc X.env.scope n := by first | exact Or.inl rfl | exact Or.inr rfl) (hs : swapsWith e (some (.Name n p2)) pos.line X.env = pure false := by rfl) (hf : X.fn n = true ∨ X.env.scope.names.lookup n = some .local := by first | exact .inl rfl | exact .inr rfl | assumption) :
    SX X W (.Assign [.Name n p2] e pos :: rest) env po :=
  sx_step (ps_set hN hi hx (mE X e) hs hf) (fun O fp σ H S D q => he O fp σ H S _ fun v H1 e1 r1 => q fp _ H1 (Keep.ex e1) ((S.ex e1).set i r1)) h
/-- a, b = e1, e2 -/
theorem sx_par {i j : Nat} {n m : Str} {px py pt : Pos} {kt k2 : Nat} {pt2 : Pos} (hc : X.calm = true) (hN : X.N.Nodup) (h : EA X [a, b] env [Sl.dat x, Sl.dat y]) (hr : SX X W rest ((env.set i (.dat x)).set j (.dat y)) po) (hij : i ≠ j := by decide)
    (hi : X.N[i]? = some n := by rfl) (hj : X.N[j]? = some m := by rfl) (lx : X.env.scope.names.lookup n = some .local := by rfl) (ly : X.env.scope.names.lookup m = some .local := by rfl) (hw : swappedStores [.Tuple [.Name n px, .Name m py] kt pt] (.Tuple [a, b] k2 pt2) X.env = pure (some [n, m]) := by rfl)
    (hs : swapsWithSole [.Tuple [.Name n px, .Name m py] kt pt] (.Tuple [a, b] k2 pt2) pos.line X.env = pure false := by rfl) (h1 : starEach [a, b] X.env = [(false, eval a X.env), (false, eval b X.env)] := by rfl) : SX X W (.Assign [.Tuple [.Name n px, .Name m py] kt pt] (.Tuple [a, b] k2 pt2) pos :: rest) env po :=
  sx_step (ps_par hc hN hi hj hij lx ly (mA X _) hw hs) (fun O fp σ H S D q => h O fp σ H S _ fun vs H1 e1 r1 => by
    match vs, r1 with
    | [v, w], ⟨h1, h2, _⟩ => exact ⟨v, w, rfl, q fp _ H1 (Keep.ex e1) (((S.ex e1).set i h1).set j h2)⟩) hr
theorem sx_ret (he : EX X e env x) {po : Po α} (h : po.R x env) : SX X W [.Return (some e) pos] env po :=
  sx_of (pss_one (ps_ret (mE X e))) fun O fp σ H S D G => he O fp σ H S _ fun v H1 e1 r1 => G.rt x env fp σ v H1 h (Keep.ex e1) (S.ex e1) r1
theorem sx_retN {po : Po Unit} (h : po.R () env) : SX X W [.Return none pos] env po :=
  sx_of (pss_one ps_retN) fun O fp σ H S D G => G.rt () env fp σ .non H h Keep.refl S rfl
theorem sx_expr (he : EX X e env x) (h : SX X W rest env po) (hs : swapsWith e none pos.line X.env = pure false := by rfl) : SX X W (.Expr e pos :: rest) env po :=
  sx_step (ps_expr (mE X e) hs) (fun O fp σ H S D q => he O fp σ H S _ fun v H1 e1 r1 => q fp σ H1 (Keep.ex e1) (S.ex e1)) h
theorem sx_break (h : po.B env) : SX X W [.Break pos] env po := sx_of (pss_one ps_break) fun O fp σ H S D G => G.bk env fp σ H h Keep.refl S
theorem sx_continue (h : po.C env) : SX X W [.Continue pos] env po := sx_of (pss_one ps_continue) fun O fp σ H S D G => G.ct env fp σ H h Keep.refl S
theorem sx_if {k : Bool} (M : Env' → Prop) (hc : ET X c env k) (h1 : k = true → SX X W thn env { po with N := M }) (h2 : k = false → SX X W els env { po with N := M }) (hr : ∀ e, M e → SX X W rest e po) : SX X W (.If c thn els pos :: rest) env po :=
  sx_cons M (s1_of (ps_if (mT X c) (mSs X thn) (mSs X els)) fun O fp σ H S D G => hc O fp σ H S _ fun H1 e1 => by
    cases k with
    | true =>
      show tSs X thn D σ H1
      exact h1 rfl O fp σ H1 (S.ex e1) D (G.step (Keep.ex e1))
    | false =>
      show tSs X els D σ H1
      exact h2 rfl O fp σ H1 (S.ex e1) D (G.step (Keep.ex e1))) hr
/-- if c: .. return -/
theorem sx_ifr {k : Bool} (hc : ET X c env k) (h1 : k = true → SX X W thn env { po with N := fun _ => False }) (hr : k = false → SX X W rest env po) : SX X W (.If c thn [] pos :: rest) env po :=
  sx_if (fun e => e = env ∧ k = false) hc (fun z => (h1 z).imp (fun _ h => h.elim) (fun _ _ h => h) (fun _ _ h => h) (fun _ h => h) (fun _ h => h)) (fun z => sx_nil ⟨rfl, z⟩) fun e ⟨he, z⟩ => by subst he; exact hr z
/-- if c: .. return / else: .. return -/
theorem sx_ife {k : Bool} (hc : ET X c env k) (h1 : k = true → SX X W thn env { po with N := fun _ => False }) (h2 : k = false → SX X W els env { po with N := fun _ => False }) : SX X W (.If c thn els pos :: rest) env po :=
  sx_if (fun _ => False) hc h1 h2 fun e h => h.elim
/-- if c: .. / else: .., the ways meet -/
theorem sx_ifj {k : Bool} (F : Bool → Env') (hc : ET X c env k) (h1 : k = true → SX X W thn env { po with N := fun e => Sub e (F true) }) (h2 : k = false → SX X W els env { po with N := fun e => Sub e (F false) }) (hr : SX X W rest (F k) po) : SX X W (.If c thn els pos :: rest) env po :=
  sx_if (fun e => Sub e (F k)) hc (fun z => by rw [z]; exact h1 z) (fun z => by rw [z]; exact h2 z) fun e h => sx_sub h hr
theorem sx_while {S : Type} (mk : S → Env') (I : S → Prop) (μ : S → Nat) (M : Env' → Prop) (s0 : S) (hp : PassesOwn (model X.prog X.w) X.A X.env X.xe) (h0 : Sub env (mk s0)) (hI : I s0)
    (hs : ∀ s, I s → ∃ k, ET X c (mk s) k ∧ (k = true → SX X W body (mk s) { po with N := fun e => ∃ s', Sub e (mk s') ∧ I s' ∧ μ s' < μ s, C := fun e => ∃ s', Sub e (mk s') ∧ I s' ∧ μ s' < μ s, B := M }) ∧ (k = false → SX X W rest (mk s) po))
    (hb : ∀ e, M e → SX X W rest e po) : SX X W (.While c body [] pos :: rest) env po :=
  sx_cons (fun e => M e ∨ ∃ s, Sub e (mk s) ∧ SX X W rest (mk s) po) (s1_of (ps_while hp (mT X c) (mSs X body)) fun O fp σ H S D G => by
    refine ⟨fun m σ' H' => ∃ s fp', m = μ s ∧ I s ∧ Keep fp H fp' H' ∧ SOk X.K O fp' (mk s) σ' H', ⟨μ s0, s0, fp, rfl, hI, Keep.refl, S.sub h0⟩, ?_⟩
    rintro m σ1 H1 ⟨s, fp1, rfl, Is, k1, S1⟩
    obtain ⟨k, ht, hy, hn⟩ := hs s Is
    refine ht O fp1 σ1 H1 S1 _ fun H2 e2 => ?_
    cases k with
    | true =>
      show ∃ N : L2.St → Hp → Prop, _ ∧ _
      refine ⟨fun σ' H' => ∃ s' fp', I s' ∧ μ s' < μ s ∧ Keep fp H fp' H' ∧ SOk X.K O fp' (mk s') σ' H', fun σ' H' ⟨s', fp', a, b, c, d⟩ => ⟨μ s', b, s', fp', rfl, a, c, d⟩, ?_⟩
      have kk : Keep fp H fp1 H2 := k1.trans (Keep.ex e2)
      refine hy rfl O fp1 σ1 H2 (S1.ex e2) _ ⟨fun e f s2 h ⟨s', sb, a, b⟩ q S' => ⟨s', f, a, b, kk.trans q, S'.sub sb⟩, fun r e f s2 v h p q => G.rt r e f s2 v h p (kk.trans q), fun x e f s2 c d h p q => G.ex x e f s2 c d h p (kk.trans q), fun e f s2 h p q S' => G.nx e f s2 h (.inl p) (kk.trans q) S', fun e f s2 h ⟨s', sb, a, b⟩ q S' => ⟨s', f, a, b, kk.trans q, S'.sub sb⟩⟩
    | false =>
      show D.nx σ1 H2
      exact G.nx (mk s) fp1 σ1 H2 (.inr ⟨s, Sub.refl _, hn rfl⟩) (k1.trans (Keep.ex e2)) (S1.ex e2)) fun e h => by
  rcases h with h | ⟨s, h, q⟩
  · exact hb e h
  · exact sx_sub h q
end
end R
set_option maxHeartbeats 2000000
set_option autoImplicit false
namespace R
open PySem PySem.Spec PyProof.Rows L2
/-! ### defs -/
/-- the promise of a def that changes nothing: args, what comes back, what is raised -/
abbrev Phi (ρ : Type) := List Sl → (ρ → Prop) → (Exn → Prop) → Prop
def spP {ρ : Type} [Res ρ] (K : PySem.W.Frag) (mg : Str → Option Value) (n : Nat) (Φ : Phi ρ) : Sp := fun vs H Q E =>
  vs.length = n ∧ ∃ O args R Xp, Φ args R Xp ∧ SOk K O nofp args (vs.map some) H ∧
    (∀ r v H', R r → Ex H H' → Res.out K O H H' v r → Q v H') ∧ (∀ e cls d H', Xp e → Ex H H' → ExAt mg K (wo H' O) e cls d → E cls d H')
theorem Keep.ex_of {H H' : Hp} {fp' : Nat → List Addr} (k : Keep nofp H fp' H') : Ex H H' := fun a o h => k.1 a o (fun ⟨i, z⟩ => by cases z) h
theorem SOk.pad {K : PySem.W.Frag} {O : Addr → Prop} {args : Env'} {vs : List V} {H : Hp} (S : SOk K O nofp args (vs.map some) H) (n : Nat) : SOk K O nofp (args ++ List.replicate n .any) (vs.map some ++ List.replicate n none) H where
  len := by simp [S.len] <;> simpa using S.len
  bnd := S.bnd
  fpO := S.fpO
  sep := S.sep
  dom := S.dom
  sl := fun i s q => by
    have hl : vs.length = args.length := by simpa using S.len
    by_cases h : i < args.length
    · rw [List.getElem?_append_left h] at q
      rw [List.getElem?_append_left (by simpa [hl] using h)]
      exact S.sl i s q
    · rw [List.getElem?_append_right (by omega)] at q
      have := List.mem_of_getElem? q
      rw [List.mem_replicate] at this
      rw [this.2]
      exact trivial
section
variable {P : Program} {w : World} {K : PySem.W.Frag} {mg : Str → Option Value} {base : Heap} {ρ : Type} [Res ρ]
/-- the context of a def's body -/
abbrev cxX (P : Program) (w : World) (K : PySem.W.Frag) (mg : Str → Option Value) (base : Heap) (N : List Str) (qual : Str) (scope : Scope) (f : Addr) (cd : Value) (A : Around) (outer : List PySem.Env) (s : Shared) (H : Hp) (E : XK) : Cx := cxOf (L2.CX P w) P w K mg base N qual scope f cd A outer s H E
theorem fn_ok {x qual : Str} {st : Stmt} {f : Addr} {fd : FuncData} {N ps : List Str} {k n : Nat} {Φ : Phi ρ} (F : Fun K x qual st f fd) (S : FnScope N ps (defScope st)) (hn : ps.length = n)
    (hb : ∀ (args : Env') (Rp : ρ → Prop) (Xp : Exn → Prop), Φ args Rp Xp → args.length = n → ∀ (cdv : Value) (A : Around) (outer : List PySem.Env) (s : Shared) (H : Hp) (E : XK) (W : WX), Room k (A.deeper (envOfC qual (defScope st) s.heap.objs.size f cdv)) → Takes (cxX P w K mg base N qual (defScope st) f cdv A outer s H E) W →
      SX (cxX P w K mg base N qual (defScope st) f cdv A outer s H E) W (defBody st) (args ++ List.replicate (N.length - n) .any) { N := fun _ => ∃ r, Rp r ∧ ∀ O H H', Res.out K O H H' .non r, R := fun r _ => Rp r, X := fun e _ => Xp e }) :
    FnOk P w K mg base (L2.CX P w) (k + 1) f fd ps (spP K mg n Φ) := by
  refine F.okX S (fun vs H Q E h => h.1.trans hn.symm) fun cdv A outer s H vs Q E hr h => ?_
  obtain ⟨hl, O, args, Rp, Xp, ph, SS, hq, he⟩ := h
  have hlen : args.length = n := by
    have := SS.len
    rw [List.length_map] at this
    omega
  refine ⟨tSs _ _, mSs _ _, ?_⟩
  have tk : Takes (cxOf (L2.CX P w) P w K mg base N qual (defScope st) f cdv A outer s H E) (fun cls d _ H => E cls d H) := takes_of rfl rfl rfl rfl
  refine hb args Rp Xp ph hlen cdv A outer s H E (fun cls d _ H => E cls d H) hr tk O nofp _ H ?_ _ ?_
  · have := SS.pad (N.length - n)
    rw [show L2.start N vs = vs.map some ++ List.replicate (N.length - n) none from by unfold L2.start; rw [hl]]
    exact this
  · refine ⟨fun e fp' σ' H' ⟨r, h1, h2⟩ kp S' => ?_, fun r e fp' σ' v H' h1 kp S' rp => ?_, fun x e fp' σ' cls d H' h1 kp S' xa => ?_, fun _ _ _ _ h => h.elim, fun _ _ _ _ h => h.elim⟩
    · exact hq r .non H' h1 kp.ex_of (h2 _ _ _)
    · exact hq r v H' h1 kp.ex_of (Res.conv (fun a ⟨i, z⟩ => (kp.2 i a z).elim (fun ⟨j, y⟩ => by cases y) id) (fun a ⟨i, z⟩ => S'.dom i a z) rp)
    · refine he x cls d H' h1 kp.ex_of ?_
      have le : Ex (wo H' (UU O fp')) (wo H' O) := wo_mono fun a z => .inl z
      cases x with
      | one c => exact xa
      | clash ns ws =>
        obtain ⟨m, dx, v1, v2, a, b, c, d⟩ := xa
        exact ⟨m, dx, v1, v2, a, le _ _ b, Dat.mono le.le c, Dat.mono le.le d⟩
      | stuck y ns ws =>
        obtain ⟨m, dx, v0, v1, v2, a, b, b', c, d⟩ := xa
        exact ⟨m, dx, v0, v1, v2, a, le _ _ b, Dat.mono le.le b', Dat.mono le.le c, Dat.mono le.le d⟩
end
/-- a def that may be called by its name -/
structure DefOk (P : Program) (w : World) (K : PySem.W.Frag) (mg : Str → Option Value) (base : Heap) (n : Str) (k : Nat) (ps : List Str) (dvs : List V) (sp : Sp) : Prop where
  ex : ∃ f fd ds, FnOk P w K mg base (L2.CX P w) k f fd ps sp ∧ mg n = some (.ref f) ∧ PySem.W.keepIn K (.ref f) = true ∧ Binds K fd ps ds ∧ Vals dvs ds
/-- what may raise -/
def EXX {α : Type} [Dat α] (X : Cx) (W : WX) (e : Expr) (env : Env') (Rp : α → Prop) (Xp : Exn → Prop) : Prop :=
  ∀ O fp σ H, SOk X.K O fp env σ H → ∀ Q : VK, (∀ r v H', Rp r → Ex H H' → Dat.rep X.K (wo H' (UU O fp)) v r → Q v H') → (∀ x cls d H', Xp x → Ex H H' → ExAt X.mg X.K (wo H' (UU O fp)) x cls d → W cls d σ H') → tE X e σ H Q
theorem ARep.sok {K : PySem.W.Frag} {H : Hp} {U : Addr → Prop} (bnd : ∀ a, U a → ∃ o, H a = some o) {vs : List V} {xs : List Sl} (h : ARep K (wo H U) vs xs) : SOk K U nofp xs (vs.map some) H where
  len := by rw [List.length_map]; exact h.length
  bnd := bnd
  fpO := fun i a z => by cases z
  sep := fun i j a z => by cases z
  dom := fun i a z => by cases z
  sl := by
    rw [uu_no]
    intro i s q
    have : ∀ {vs : List V} {xs : List Sl} {i : Nat} {s : Sl}, ARep K (wo H U) vs xs → xs[i]? = some s → SlOk K (wo H U) H ((vs.map some)[i]?) (nofp i) s := by
      intro vs
      induction vs with
      | nil => intro xs i s h q; cases xs with | nil => simp at q | cons _ _ => simp [ARep] at h
      | cons v vs ih =>
        intro xs i s h q
        match xs, h with
        | .dat (i := jj) x :: xs, h =>
          cases i with
          | zero =>
            have q : Sl.dat (i := jj) x = s := by simpa using q
            subst q
            exact ⟨v, rfl, h.1⟩
          | succ i =>
            have := ih (xs := xs) (i := i) (s := s) h.2 (by simpa using q)
            simpa [nofp] using this
        | .any :: xs, h => simp [ARep] at h
        | .own (i := _) _ :: xs, h => simp [ARep] at h
        | [], h => simp [ARep] at h
    exact this h q
section
variable {X : Cx} {W : WX} {env env' : Env'} {ρ α β γ : Type} [Res ρ] [Dat α] [Dat β] [Dat γ] {po : Po ρ} {x : α} {y : β} {z : γ} {e a b c tg : Expr} {es : List Expr} {pos p p2 : Pos} {rest : List Stmt}
theorem dvs_rep {K : PySem.W.Frag} {H : Hp} {vs dvs : List V} {xs dxs : List Sl} (h : ARep K H vs xs) (hd : ARep K H dvs dxs) : ARep K H (vs ++ dvs) (xs ++ dxs) := by
  induction vs generalizing xs with
  | nil => cases xs with | nil => exact hd | cons _ _ => simp [ARep] at h
  | cons v vs ih =>
    match xs, h with
    | .dat (i := jj) x :: xs, h => exact ⟨h.1, ih h.2⟩
    | .any :: xs, h => simp [ARep] at h
    | .own (i := _) _ :: xs, h => simp [ARep] at h
    | [], h => simp [ARep] at h
/-- f(..) of a def that raises nothing here -/
theorem ex_call {ρ : Type} [Dat ρ] {n : Str} {k m : Nat} {ps : List Str} {dvs : List V} {dxs xs : List Sl} {Φ : Phi ρ} {r : ρ} (d : DefOk X.prog X.w X.K X.mg X.base n k ps dvs (spP X.K X.mg m Φ)) (hr : Room k X.A) (ha : EA X (e :: es) env xs) (hΦ : Φ (xs ++ dxs) (fun r' => r' = r) (fun _ => False)) (hd : ∀ H, ARep X.K H dvs dxs)
    (hl : (xs ++ dxs).length = m := by rfl) (hg : Gl X n := by rfl) (hdb : (n == ("__debug__" : Str)) = false := by decide) (he : starEach (e :: es) X.env = (false, eval e X.env) :: starEach es X.env := by rfl) (hpl : (backTo pos (starEach es X.env)).any (·.1) = false := by rfl) : EX X (.Call (.Name n p) (e :: es) [] pos) env r := by
  obtain ⟨f, fd, ds, F, hm, hk, hb, hv⟩ := d.ex
  refine ex_of (pe_call F hr hg hm hk hb hv passL (mA X _) hdb he hpl) fun O fp σ H S Q q => ha O fp σ H S _ fun vs H1 e1 r1 => ?_
  have r2 := dvs_rep r1 (hd _)
  have S2 := ARep.sok (S.ex e1).bndU r2
  exact ⟨by rw [r2.length]; exact hl, UU O fp, xs ++ dxs, _, _, hΦ, S2, fun r' v H' hr' e2 rp => by subst hr'; exact q v H' (e1.trans e2) rp, fun _ _ _ _ h => h.elim⟩
/-- f(..) of a def that may raise -/
theorem exx_call {ρ : Type} [Dat ρ] {n : Str} {k m : Nat} {ps : List Str} {xs : List Sl} {Φ : Phi ρ} {Rp : ρ → Prop} {Xp : Exn → Prop} (tk : Takes X W) (d : DefOk X.prog X.w X.K X.mg X.base n k ps [] (spP X.K X.mg m Φ)) (hr : Room k X.A) (ha : EA X (e :: es) env xs) (hΦ : Φ xs Rp Xp)
    (hl : xs.length = m := by rfl) (hg : Gl X n := by rfl) (hdb : (n == ("__debug__" : Str)) = false := by decide) (he : starEach (e :: es) X.env = (false, eval e X.env) :: starEach es X.env := by rfl) (hpl : (backTo pos (starEach es X.env)).any (·.1) = false := by rfl) : EXX X W (.Call (.Name n p) (e :: es) [] pos) env Rp Xp := by
  obtain ⟨f, fd, ds, F, hm, hk, hb, hv⟩ := d.ex
  cases hv
  intro O fp σ H S Q q qx
  refine fun pins s I => (pe_callS F hr hg hm hk hb (fun σ => passAt tk σ) (mA X _) hdb he hpl).run pins s σ H Q I (ha O fp σ H S _ fun vs H1 e1 r1 => ?_)
  have S2 := ARep.sok (S.ex e1).bndU r1
  exact ⟨by rw [r1.length]; exact hl, UU O fp, xs, _, _, hΦ, S2, fun r' v H' hr' e2 rp => q r' v H' hr' (e1.trans e2) rp, fun x cls d H' hx e2 xa => qx x cls d H' hx (e1.trans e2) xa⟩
theorem EX.xx (h : EX X e env x) : EXX X W e env (fun r => r = x) (fun _ => False) := fun O fp σ H S Q q _ => h O fp σ H S Q fun v H' e r => q x v H' rfl e r
/-- x = e, e may raise -/
theorem sx_setX {i : Nat} {n : Str} {Rp : α → Prop} {Xp : Exn → Prop} (hN : X.N.Nodup) (he : EXX X W e env Rp Xp) (h : ∀ r, Rp r → SX X W rest (env.set i (.dat r)) po) (hx : ∀ x, Xp x → po.X x env) (hi : X.N[i]? = some n := by rfl) (hL : Loc X.env.scope n := by first | exact Or.inl rfl | exact Or.inr rfl) (hs : swapsWith e (some (.Name n p2)) pos.line X.env = pure false := by rfl) (hf : X.fn n = true ∨ X.env.scope.names.lookup n = some .local := by first | exact .inl rfl | exact .inr rfl | assumption) :
    SX X W (.Assign [.Name n p2] e pos :: rest) env po :=
  sx_cons (fun e' => ∃ r, Rp r ∧ e' = env.set i (.dat r)) (s1_of (ps_set hN hi hL (mE X e) hs hf) fun O fp σ H S D G => he O fp σ H S _ (fun r v H1 hr e1 r1 => G.nx _ fp _ H1 ⟨r, hr, rfl⟩ (Keep.ex e1) ((S.ex e1).set i r1)) fun x cls d H1 hx1 e1 xa => G.ex x env fp σ cls d H1 (hx x hx1) (Keep.ex e1) (S.ex e1) xa) fun e' ⟨r, hr, q⟩ => by subst q; exact h r hr
theorem sx_retX {Rp : α → Prop} {Xp : Exn → Prop} {po : Po α} (he : EXX X W e env Rp Xp) (h : ∀ r, Rp r → po.R r env) (hx : ∀ x, Xp x → po.X x env) : SX X W [.Return (some e) pos] env po :=
  sx_of (pss_one (ps_ret (mE X e))) fun O fp σ H S D G => he O fp σ H S _ (fun r v H1 hr e1 r1 => G.rt r env fp σ v H1 (h r hr) (Keep.ex e1) (S.ex e1) r1) fun x cls d H1 hx1 e1 xa => G.ex x env fp σ cls d H1 (hx x hx1) (Keep.ex e1) (S.ex e1) xa
theorem sx_exprX {Rp : α → Prop} {Xp : Exn → Prop} (he : EXX X W e env Rp Xp) (h : ∀ r, Rp r → SX X W rest env po) (hx : ∀ x, Xp x → po.X x env) (hs : swapsWith e none pos.line X.env = pure false := by rfl) : SX X W (.Expr e pos :: rest) env po :=
  sx_cons (fun e' => (∃ r, Rp r) ∧ e' = env) (s1_of (ps_expr (mE X e) hs) fun O fp σ H S D G => he O fp σ H S _ (fun r v H1 hr e1 r1 => G.nx env fp σ H1 ⟨⟨r, hr⟩, rfl⟩ (Keep.ex e1) (S.ex e1)) fun x cls d H1 hx1 e1 xa => G.ex x env fp σ cls d H1 (hx x hx1) (Keep.ex e1) (S.ex e1) xa) fun e' ⟨⟨r, hr⟩, q⟩ => by subst q; exact h r hr
/-- what the text's own error classes are, without fields -/
structure ErrC (K : PySem.W.Frag) (mg : Str → Option Value) (n : Str) : Prop where
  ex : ∃ C, mg n = some (.ref C) ∧ PySem.W.excIn K C [.type "ValueError", .type "Exception", .type "BaseException", .type "object"] "ValueError.__new__" = true ∧ PySem.W.keepIn K (.ref C) = true ∧ PySem.W.subIn K (.ref C) (.type "BaseException") = some true ∧ PySem.W.typeIn K (.ref C) = some (.type "type")
/-- raise C('..') -/
theorem sx_raise {n : Str} {m : Str} {j : Nat} {p0 : Pos} (hc : X.calm = true) (tk : Takes X W) (T : ErrC X.K X.mg n) (h : po.X (.one n) env) (hg : Gl X n := by rfl) (hdb : (n == ("__debug__" : Str)) = false := by decide) : SX X W (.Raise (some (.Call (.Name n p) [.Constant (.str m) j p2] [] p0)) none pos :: rest) env po := by
  obtain ⟨C, gC, xC, kC, bC, tC⟩ := T.ex
  exact sx_cons (fun _ => False) (s1_of (ps_raise hc tk (pmk_own PySem.F.excBase_ValueError xC gC kC (raises_own bC tC) hg hdb)) fun O fp σ H S D G => G.ex (.one n) env fp σ (.ref C) none H h Keep.refl S ⟨gC, rfl⟩) fun _ z => z.elim
/-! ### built-ins -/
theorem ex_callB {id : String} {n : Str} {r : List V → Hp → VK → Prop} {xs : List Sl} (hc : CallR X (.builtin id) r) (hm : X.mg n = none) (hv : bootBuiltins n = some (.builtin id)) (ha : EA X (e :: es) env xs) (hr : RC X.K r xs z) (hg : Gl X n := by rfl) (hn : n ≠ "__name__" := by decide) (hdb : (n == ("__debug__" : Str)) = false := by decide)
    (he : starEach (e :: es) X.env = (false, eval e X.env) :: starEach es X.env := by rfl) (hpl : (backTo pos (starEach es X.env)).any (·.1) = false := by rfl) : EX X (.Call (.Name n p) (e :: es) [] pos) env z :=
  ex_of (pe_callB hc hg hm hv (mA X _) hn hdb he hpl) fun O fp σ H S Q q => ha O fp σ H S _ fun vs H1 e1 r1 => hr (UU O fp) vs H1 (S.ex e1).bndU r1 Q fun v H2 e2 r2 => q v H2 (e1.trans e2) r2
theorem ex_callTy {id : String} {n : Str} {r : List V → Hp → VK → Prop} {xs : List Sl} (hc : CallR X (.type id) r) (hm : X.mg n = none) (hv : bootBuiltins n = some (.type id)) (ha : EA X (e :: es) env xs) (hr : RC X.K r xs z) (hg : Gl X n := by rfl) (hn : n ≠ "__name__" := by decide) (hdb : (n == ("__debug__" : Str)) = false := by decide)
    (he : starEach (e :: es) X.env = (false, eval e X.env) :: starEach es X.env := by rfl) (hpl : (backTo pos (starEach es X.env)).any (·.1) = false := by rfl) : EX X (.Call (.Name n p) (e :: es) [] pos) env z :=
  ex_of (pe_callTy hc hg hm hv (mA X _) hn hdb he hpl) fun O fp σ H S Q q => ha O fp σ H S _ fun vs H1 e1 r1 => hr (UU O fp) vs H1 (S.ex e1).bndU r1 Q fun v H2 e2 r2 => q v H2 (e1.trans e2) r2
theorem rc1 {K : PySem.W.Frag} {r : List V → Hp → VK → Prop} (h : ∀ (U : Addr → Prop) (v : V) (H : Hp), (∀ a, U a → ∃ o, H a = some o) → Dat.rep K (wo H U) v x → ∀ Q : VK, (∀ v H', Ex H H' → Dat.rep K (wo H' U) v z → Q v H') → r [v] H Q) : RC K r [.dat x] z := fun U vs H bn ar Q q => by
  match vs, ar with
  | [v], ⟨h1, _⟩ => exact h U v H bn h1 Q q
theorem rc2 {K : PySem.W.Frag} {r : List V → Hp → VK → Prop} (h : ∀ (U : Addr → Prop) (v u : V) (H : Hp), (∀ a, U a → ∃ o, H a = some o) → Dat.rep K (wo H U) v x → Dat.rep K (wo H U) u y → ∀ Q : VK, (∀ v H', Ex H H' → Dat.rep K (wo H' U) v z → Q v H') → r [v, u] H Q) : RC K r [.dat x, .dat y] z := fun U vs H bn ar Q q => by
  match vs, ar with
  | [v, u], ⟨h1, h2, _⟩ => exact h U v u H bn h1 h2 Q q
theorem ea1 (h : EX X e env x) (hs : starEach [e] X.env = (false, eval e X.env) :: starEach [] X.env := by rfl) : EA X [e] env [.dat x] := ea_cons h ea_nil hs
def absI (i : Int) : Int := if i < 0 then -i else i
theorem ex_abs {i : Int} (hm : X.mg "abs" = none) (h : EX X a env i) (he : starEach [a] X.env = (false, eval a X.env) :: starEach [] X.env := by rfl) (hpl : (backTo pos (starEach [] X.env)).any (·.1) = false := by rfl) (hg : Gl X "abs" := by rfl) : EX X (.Call (.Name "abs" p) [a] [] pos) env (absI i) :=
  ex_callB call_abs hm (by decide +kernel) (ea1 h he) (rc1 fun U v H bn r Q q => ⟨i, by rw [show v = .int i from r], q _ H (Ex.refl H) rfl⟩) hg (by decide) (by decide) he hpl
theorem ex_len {xs : List α} (hm : X.mg "len" = none) (h : EX X a env xs) (he : starEach [a] X.env = (false, eval a X.env) :: starEach [] X.env := by rfl) (hpl : (backTo pos (starEach [] X.env)).any (·.1) = false := by rfl) (hg : Gl X "len" := by rfl) : EX X (.Call (.Name "len" p) [a] [] pos) env (xs.length : Int) :=
  ex_callB call_len_seq hm PySem.boot_len (ea1 h he) (rc1 fun U v H bn r Q q => by
    obtain ⟨ad, vs, e, l, rl⟩ := r
    exact ⟨ad, vs, by rw [e], .inl (wo_le.lst l), q _ H (Ex.refl H) (show V.int _ = V.int _ by rw [Paired.length rl])⟩) hg (by decide) (by decide) he hpl
theorem ex_lenT {τ : Type} [Dat τ] [T : Tup τ] {t : τ} {n : Int} (hm : X.mg "len" = none) (h : EX X a env t) (hn : ((T.comps t).length : Int) = n := by rfl) (he : starEach [a] X.env = (false, eval a X.env) :: starEach [] X.env := by rfl) (hpl : (backTo pos (starEach [] X.env)).any (·.1) = false := by rfl) (hg : Gl X "len" := by rfl) : EX X (.Call (.Name "len" p) [a] [] pos) env n :=
  ex_callB call_len_seq hm PySem.boot_len (ea1 h he) (rc1 fun U v H bn r Q q => by
    rw [T.is] at r
    obtain ⟨ad, vs, e, l, rl⟩ := r
    exact ⟨ad, vs, by rw [e], .inr (wo_le.tup l), q _ H (Ex.refl H) (show V.int _ = V.int _ by rw [rl.length, hn])⟩) hg (by decide) (by decide) he hpl
theorem repL.get {K : PySem.W.Frag} {H : Hp} : ∀ {vs : List V} {xs : List α} {i : Nat} {x : α}, repL K H vs xs → xs[i]? = some x → ∃ v, vs[i]? = some v ∧ Dat.rep K H v x
  | _, _, i, x, .nil, q => by simp at q
  | _ :: _, y :: _, 0, x, .cons r t, q => by
    have q : y = x := by simpa using q
    subst q
    exact ⟨_, rfl, r⟩
  | _, _, i + 1, x, .cons r t, q => by
    have := repL.get (i := i) (x := x) t (by simpa using q)
    simpa using this
/-- xs[i] of a list, i from 0 on -/
theorem ex_ixL {xs : List α} {i : Int} (h : EX X a env xs) (hb : EX X b env i) (g : 0 ≤ i ∧ xs[i.toNat]? = some x) (hs : PlainIx b := by exact fun _ _ => rfl) : EX X (.Subscript a b pos) env x := ex_of (pe_ix ix_list (mE X a) (mE X _) hs) (ev_op h hb fun U v1 v2 H _ r1 r2 Q q => by
  obtain ⟨p, vs, e, t, r⟩ := r1
  obtain ⟨v, hv, rv⟩ := r.get g.2
  exact ⟨p, vs, i, v, e, r2, wo_le.lst t, by rw [← Int.toNat_of_nonneg g.1]; exact atI_nat hv, q _ H (Ex.refl H) rv⟩)
end
end R
set_option maxHeartbeats 2000000
set_option autoImplicit false
namespace R
open PySem PySem.Spec PyProof.Rows L2
/-! ### results of defs that may raise -/
def outP {ρ : Type} (Rp : ρ → Prop) (Xp : Exn → Prop) : Except Exn ρ → Prop
  | .ok r => Rp r
  | .error e => Xp e
theorem outP_self {ρ : Type} {o : Except Exn ρ} : outP (fun r => o = .ok r) (fun e => o = .error e) o := by cases o <;> rfl
theorem bind_ok {ρ σ : Type} {Rp : ρ → Prop} {Xp : Exn → Prop} {o : Except Exn σ} {x : σ} {k : σ → Except Exn ρ} (h : o = .ok x) (q : outP Rp Xp (o.bind k)) : outP Rp Xp (k x) := by subst h; exact q
theorem bind_err {ρ σ : Type} {Rp : ρ → Prop} {Xp : Exn → Prop} {o : Except Exn σ} {x : Exn} {k : σ → Except Exn ρ} (h : o = .error x) (q : outP Rp Xp (o.bind k)) : Xp x := by subst h; exact q
theorem cond_t {α : Type} {P : α → Prop} {c : Bool} {x y : α} (h : c = true) (q : P (cond c x y)) : P x := by subst h; exact q
theorem cond_f {α : Type} {P : α → Prop} {c : Bool} {x y : α} (h : c = false) (q : P (cond c x y)) : P y := by subst h; exact q
/-! ### what is walked -/
/-- from H1 on: at turn i the item xs[i], then it stops -/
def Yields {α : Type} [Dat α] (K : PySem.W.Frag) (J : It) (U : Addr → Prop) (H1 : Hp) (xs : List α) : Prop :=
  ∀ H' U', (∀ a, U' a → ∃ o, H' a = some o) → Ex (wo H1 U) (wo H' U') → ∀ i, (∀ x, xs[i]? = some x → J.go i H' ∧ ∀ v H'', J.yld i H' v H'' → Ex H' H'' ∧ Dat.rep K (wo H'' U') v x) ∧ (xs.length ≤ i → J.stop i H')
/-- the greatest reading of an iterable -/
def tI (X : Cx) (tg iter : Expr) : TI := fun σ H R => ∀ pins s, Inv X pins σ H s → wpAny (model X.prog X.w) X.A (eval iter X.env) (fun v s1 => wpAny (model X.prog X.w) X.A (pyIter v) (PIE X pins σ tg R) X.xe s1) X.xe s
theorem mI (X : Cx) (tg iter : Expr) : PI X tg iter (tI X tg iter) := ⟨fun pins s _ _ _ I h => h pins s I⟩
def IX {α : Type} [Dat α] (X : Cx) (tg iter : Expr) (env : Env') (xs : List α) : Prop :=
  ∀ O fp σ H, SOk X.K O fp env σ H → ∀ R : It → Hp → Prop, (∀ J H1, Ex H H1 → Yields X.K J (UU O fp) H1 xs → R J H1) → tI X tg iter σ H R
section
variable {X : Cx} {W : WX} {env env' : Env'} {ρ α β γ : Type} [Res ρ] [Dat α] [Dat β] [Dat γ] {po : Po ρ} {x : α} {y : β} {z : γ} {e a b c tg iter : Expr} {es : List Expr} {pos p p2 : Pos} {rest body : List Stmt} {xs : List α}
theorem ix_of {wi : TI} (p : PI X tg iter wi) (h : ∀ O fp σ H, SOk X.K O fp env σ H → ∀ R : It → Hp → Prop, (∀ J H1, Ex H H1 → Yields X.K J (UU O fp) H1 xs → R J H1) → wi σ H R) : IX X tg iter env xs := fun O fp σ H S R r pins s I => p.run pins s σ H R I (h O fp σ H S R r)
/-- a list that stands still -/
theorem ix_list (h : EX X iter env xs) : IX X tg iter env xs := ix_of (pi_list (mE X iter)) fun O fp σ H S R r => h O fp σ H S _ fun v H1 e1 rp => by
  obtain ⟨ad, vs, e, l, rl⟩ := rp
  refine ⟨ad, e, ⟨vs, wo_le.lst l⟩, r _ H1 e1 fun H' U' bn ex i => ⟨fun x hx => ?_, fun hi => ?_⟩⟩
  · obtain ⟨v, hv, rv⟩ := rl.get hx
    have l' : SqL X.K H' ad vs := wo_le.lst (ex.le.lst l)
    refine ⟨⟨vs, v, l', hv⟩, fun u H'' ⟨q1, q2⟩ => ?_⟩
    subst q1
    have := q2 vs l'
    rw [hv] at this
    cases this
    exact ⟨Ex.refl _, Dat.mono ex.le rv⟩
  · exact ⟨vs, wo_le.lst (ex.le.lst l), by rw [Paired.length rl]; exact hi⟩
/-- range(n) -/
def rangeI (n : Int) : List Int := (List.range n.toNat).map Int.ofNat
def rangeAB (a b : Int) : List Int := (List.range (b - a).toNat).map fun (k : Nat) => a + (k : Int)
theorem yields_range {K : PySem.W.Frag} {U : Addr → Prop} {H1 : Hp} (lo : Int) (n : Nat) : Yields K (Itr lo n) U H1 ((List.range n).map fun (k : Nat) => lo + (k : Int)) := fun H' U' bn ex i => by
  refine ⟨fun x hx => ?_, fun hi => (by simpa using hi : n ≤ i)⟩
  rw [List.getElem?_map] at hx
  by_cases hi : i < n
  · rw [List.getElem?_range hi] at hx
    have hx : lo + (i : Int) = x := by simpa using hx
    exact ⟨hi, fun v H'' ⟨q1, q2⟩ => by subst q1 q2 hx; exact ⟨Ex.refl _, rfl⟩⟩
  · rw [List.getElem?_eq_none (by simpa using hi)] at hx
    cases hx
theorem rangeI_eq (n : Int) : rangeI n = (List.range n.toNat).map fun (k : Nat) => (0 : Int) + (k : Int) := by
  unfold rangeI
  refine List.map_congr_left fun k _ => ?_
  simp
theorem ix_range1 {n : Int} (hm : X.mg "range" = none) (h : EX X a env n) (hn : -(2 ^ 62) ≤ n ∧ n < 2 ^ 62) (hg : Gl X "range" := by rfl) (hs : starEach [a] X.env = [(false, eval a X.env)] := by rfl) : IX X tg (.Call (.Name "range" p) [a] [] pos) env (rangeI n) :=
  ix_of (pi_range1 hg hm (mA X _) hs) fun O fp σ H S R r => ea1 h hs O fp σ H S _ fun vs H1 e1 ar => by
    match vs, ar with
    | [v], ⟨h1, _⟩ =>
      have h1 : v = .int n := h1
      subst h1
      refine ⟨n, rfl, hn.1, hn.2, r _ H1 e1 ?_⟩
      rw [rangeI_eq]
      exact yields_range 0 n.toNat
theorem ix_range2 {n m : Int} (hm : X.mg "range" = none) (h : EX X a env n) (h' : EX X b env m) (hn : -(2 ^ 62) ≤ n ∧ n < 2 ^ 62 ∧ -(2 ^ 62) ≤ m ∧ m < 2 ^ 62) (hg : Gl X "range" := by rfl) (hs : starEach [a, b] X.env = [(false, eval a X.env), (false, eval b X.env)] := by rfl) (hs2 : starEach [b] X.env = [(false, eval b X.env)] := by rfl) : IX X tg (.Call (.Name "range" p) [a, b] [] pos) env (rangeAB n m) :=
  ix_of (pi_range2 hg hm (mA X _) hs hs2) fun O fp σ H S R r => ea_cons h (ea_cons h' ea_nil hs2) (by rw [hs, hs2]) O fp σ H S _ fun vs H1 e1 ar => by
    match vs, ar with
    | [v, u], ⟨h1, h2, _⟩ =>
      have h1 : v = .int n := h1
      have h2 : u = .int m := h2
      subst h1 h2
      exact ⟨n, m, rfl, hn, r _ H1 e1 (yields_range n (m - n).toNat)⟩
/-! ### for -/
def okFold {S τ : Type} (okb : S → τ → Prop) (step : S → τ → S) : S → List τ → Prop
  | _, [] => True
  | s, x :: xs => okb s x ∧ okFold okb step (step s x) xs
theorem drop_cons {τ : Type} {xs : List τ} {i : Nat} {x : τ} {r : List τ} (h : xs.drop i = x :: r) : xs[i]? = some x ∧ xs.drop (i + 1) = r ∧ i < xs.length := by
  have hi : i < xs.length := by
    by_cases q : i < xs.length
    · exact q
    · rw [List.drop_eq_nil_of_le (by omega)] at h; cases h
  rw [List.drop_eq_getElem_cons hi] at h
  injection h with h1 h2
  exact ⟨by rw [List.getElem?_eq_getElem hi, h1], h2, hi⟩
/-- the heart of the for rule, at one state -/
theorem for_core {S : Type} (u : S → Env') (I : List α → S → Prop) (M : Env' → Prop) (s0 : S) {O : Addr → Prop} {fp : Nat → List Addr} {σ : L2.St} {H : Hp} {D : Ends} (S' : SOk X.K O fp env σ H) (hi : ∀ R : It → Hp → Prop, (∀ J H1, Ex H H1 → Yields X.K J (UU O fp) H1 xs → R J H1) → tI X tg iter σ H R) (h0 : Sub env (u s0)) (hI : I xs s0)
    (hb : ∀ x r s, I (x :: r) s → ∃ e1, GX X tg x (u s) e1 ∧ SX X W body e1 { po with N := fun e => ∃ s', Sub e (u s') ∧ I r s', C := fun e => ∃ s', Sub e (u s') ∧ I r s', B := M })
    (G : Goes X.K X.mg W { po with N := fun e => M e ∨ ∃ s, Sub e (u s) ∧ I [] s } O fp H D) : tFor (tI X tg iter) (tG X tg) (tSs X body) D σ H := by
    refine hi _ fun J H1 e1 yl => ?_
    refine ⟨fun i m σ' H' => ∃ s fp', m = xs.length - i ∧ i ≤ xs.length ∧ I (xs.drop i) s ∧ Keep fp H1 fp' H' ∧ SOk X.K O fp' (u s) σ' H', ⟨xs.length, s0, fp, by simp, Nat.zero_le _, hI, Keep.refl, (S'.ex e1).sub h0⟩, ?_⟩
    rintro i m σ1 H2 ⟨s, fp1, rfl, hle, Is, k1, S1⟩
    obtain ⟨y1, y2⟩ := yl H2 (UU O fp1) S1.bndU k1.frz i
    cases hr : xs.drop i with
    | nil =>
      have : xs.length ≤ i := by
        have := congrArg List.length hr
        simp at this
        omega
      rw [hr] at Is
      exact .inl ⟨y2 this, G.nx (u s) fp1 σ1 H2 (.inr ⟨s, Sub.refl _, Is⟩) ((Keep.ex e1).trans k1) S1⟩
    | cons x r =>
      obtain ⟨gx, gr, gl⟩ := drop_cons hr
      obtain ⟨go, yy⟩ := y1 x gx
      rw [hr] at Is
      obtain ⟨en, hg, hbd⟩ := hb x r s Is
      refine .inr ⟨go, fun σ' H' => ∃ s' fp', I r s' ∧ Keep fp H1 fp' H' ∧ SOk X.K O fp' (u s') σ' H', fun σ' H' ⟨s', fp', a, b, c⟩ => ⟨xs.length - (i + 1), by omega, s', fp', rfl, gl, by rw [gr]; exact a, b, c⟩, fun v H3 yv => ?_⟩
      obtain ⟨e3, rv⟩ := yy v H3 yv
      refine hg O fp1 σ1 H3 v (S1.ex e3) rv _ fun σ4 S4 => ?_
      have kk : Keep fp H1 fp1 H3 := k1.trans (Keep.ex e3)
      have kh : Keep fp H fp1 H3 := (Keep.ex e1).trans kk
      exact hbd O fp1 σ4 H3 S4 _ ⟨fun e f s2 h ⟨s', sb, a⟩ q S' => ⟨s', f, a, kk.trans q, S'.sub sb⟩, fun r e f s2 v h p q => G.rt r e f s2 v h p (kh.trans q), fun x e f s2 c d h p q => G.ex x e f s2 c d h p (kh.trans q), fun e f s2 h p q S' => G.nx e f s2 h (.inl p) (kh.trans q) S', fun e f s2 h ⟨s', sb, a⟩ q S' => ⟨s', f, a, kk.trans q, S'.sub sb⟩⟩
/-- the for rule: I of what is still to come and the state -/
theorem sx_for {S : Type} (u : S → Env') (I : List α → S → Prop) (M : Env' → Prop) (s0 : S) (hc : X.calm = true) (hp : PassesOwn (model X.prog X.w) X.A X.env X.xe) (hi : IX X tg iter env xs) (h0 : Sub env (u s0)) (hI : I xs s0)
    (hb : ∀ x r s, I (x :: r) s → ∃ e1, GX X tg x (u s) e1 ∧ SX X W body e1 { po with N := fun e => ∃ s', Sub e (u s') ∧ I r s', C := fun e => ∃ s', Sub e (u s') ∧ I r s', B := M })
    (hd : ∀ s, I [] s → SX X W rest (u s) po) (hM : ∀ e, M e → SX X W rest e po) (hs : ∀ x, foldedSetIterable iter X.env x = pure x := by intro _; rfl) : SX X W (.For tg iter body [] pos :: rest) env po :=
  sx_cons (fun e => M e ∨ ∃ s, Sub e (u s) ∧ I [] s) (s1_of (ps_for hp hc (mI X tg iter) (mG X tg) (mSs X body) hs) fun O fp σ H S' D G => for_core u I M s0 S' (hi O fp σ H S') h0 hI hb G) fun e h => by
  rcases h with h | ⟨s, h, q⟩
  · exact hM e h
  · exact sx_sub h (hd s q)
/-- a loop that runs through: a fold -/
theorem sx_forF {S : Type} (u : S → Env') (step : S → α → S) (okb : S → α → Prop) (s0 : S) (hc : X.calm = true) (hp : PassesOwn (model X.prog X.w) X.A X.env X.xe) (hi : IX X tg iter env xs) (h0 : Sub env (u s0)) (hk : okFold okb step s0 xs)
    (hb : ∀ x s, okb s x → ∃ e1, GX X tg x (u s) e1 ∧ SX X W body e1 { po with N := fun e => Sub e (u (step s x)), C := fun e => Sub e (u (step s x)), B := fun _ => False })
    (hd : SX X W rest (u (xs.foldl step s0)) po) (hs : ∀ x, foldedSetIterable iter X.env x = pure x := by intro _; rfl) : SX X W (.For tg iter body [] pos :: rest) env po :=
  sx_for u (fun r s => okFold okb step s r ∧ r.foldl step s = xs.foldl step s0) (fun _ => False) s0 hc hp hi h0 ⟨hk, rfl⟩ (fun x r s ⟨⟨h1, h2⟩, h3⟩ => by
    obtain ⟨e1, g, b⟩ := hb x s h1
    exact ⟨e1, g, b.imp (fun e h => ⟨step s x, h, h2, h3⟩) (fun _ _ h => h) (fun _ _ h => h) (fun _ h => h) (fun e h => ⟨step s x, h, h2, h3⟩)⟩) (fun s ⟨_, h⟩ => by
    have h : s = xs.foldl step s0 := h
    subst h
    exact hd) (fun _ h => h.elim) hs
/-- a turn's end -/
inductive Stp (S ρ : Type) where
  | go (s : S)
  | brk (s : S)
  | ret (r : ρ)
def runL {S ρ τ : Type} (step : S → τ → Stp S ρ) : S → List τ → Stp S ρ
  | s, [] => .go s
  | s, x :: xs => match step s x with
    | .go s' => runL step s' xs
    | .brk s' => .brk s'
    | .ret r => .ret r
def okRun {S ρ τ : Type} (okb : S → τ → Prop) (step : S → τ → Stp S ρ) : S → List τ → Prop
  | _, [] => True
  | s, x :: xs => okb s x ∧ match step s x with
    | .go s' => okRun okb step s' xs
    | _ => True
/-- behind a loop -/
def Stp.fin {S ρ τ : Type} (k : S → τ) (h : ρ → τ) : Stp S ρ → τ
  | .go s => k s
  | .brk s => k s
  | .ret r => h r
/-- a loop that may be left: T what a way out is worth, in the def's own result -/
theorem sx_forR {S T : Type} (u : S → Env') (step : S → α → Stp S T) (okb : S → α → Prop) (s0 : S) (hc : X.calm = true) (hp : PassesOwn (model X.prog X.w) X.A X.env X.xe) (hi : IX X tg iter env xs) (h0 : Sub env (u s0)) (hk : okRun okb step s0 xs)
    (hb : ∀ x r s, okb s x → (∃ s1, runL step s1 xs = runL step s1 xs) → (runL step s (x :: r) = runL step s0 xs) → ∃ e1, GX X tg x (u s) e1 ∧ SX X W body e1 { po with N := fun e => ∃ s', step s x = .go s' ∧ Sub e (u s'), C := fun e => ∃ s', step s x = .go s' ∧ Sub e (u s'), B := fun e => ∃ s', step s x = .brk s' ∧ Sub e (u s') })
    (hd : ∀ s, (runL step s0 xs = .go s ∨ runL step s0 xs = .brk s) → SX X W rest (u s) po) (hs : ∀ x, foldedSetIterable iter X.env x = pure x := by intro _; rfl) : SX X W (.For tg iter body [] pos :: rest) env po :=
  sx_for u (fun r s => okRun okb step s r ∧ runL step s r = runL step s0 xs) (fun e => ∃ s, Sub e (u s) ∧ runL step s0 xs = .brk s) s0 hc hp hi h0 ⟨hk, rfl⟩ (fun x r s ⟨⟨h1, h2⟩, h3⟩ => by
    obtain ⟨e1, g, b⟩ := hb x r s h1 ⟨s, rfl⟩ h3
    have go : ∀ e, (∃ s', step s x = .go s' ∧ Sub e (u s')) → ∃ s', Sub e (u s') ∧ okRun okb step s' r ∧ runL step s' r = runL step s0 xs := fun e ⟨s', q, sb⟩ => by
      rw [q] at h2
      have h4 : runL step s (x :: r) = runL step s' r := by
        show (match step s x with | .go s' => runL step s' r | .brk s' => .brk s' | .ret r => .ret r) = _
        rw [q]
      exact ⟨s', sb, h2, h4.symm.trans h3⟩
    refine ⟨e1, g, b.imp go (fun _ _ h => h) (fun _ _ h => h) (fun e ⟨s', q, sb⟩ => ⟨s', sb, ?_⟩) go⟩
    rw [← h3]
    show (match step s x with | .go s' => runL step s' r | .brk s' => .brk s' | .ret r => .ret r) = _
    rw [q]) (fun s ⟨_, h⟩ => hd s (.inl h.symm)) (fun e ⟨s, sb, q⟩ => sx_sub sb (hd s (.inr q))) hs
/-- the same, the slots told as changes of what stands -/
theorem sx_forF' {S : Type} (uu : S → Env' → Env') (step : S → α → S) (okb : S → α → Prop) (s0 : S) (hc : X.calm = true) (hp : PassesOwn (model X.prog X.w) X.A X.env X.xe) (hi : IX X tg iter env xs) (h0 : Sub env (uu s0 env)) (hk : okFold okb step s0 xs)
    (hb : ∀ x s, okb s x → ∃ e1, GX X tg x (uu s env) e1 ∧ SX X W body e1 { po with N := fun e => Sub e (uu (step s x) env), C := fun e => Sub e (uu (step s x) env), B := fun _ => False })
    (hd : SX X W rest (uu (xs.foldl step s0) env) po) (hs : ∀ x, foldedSetIterable iter X.env x = pure x := by intro _; rfl) : SX X W (.For tg iter body [] pos :: rest) env po := sx_forF (fun s => uu s env) step okb s0 hc hp hi h0 hk hb hd hs
theorem sx_forR' {S T : Type} (uu : S → Env' → Env') (step : S → α → Stp S T) (okb : S → α → Prop) (s0 : S) (hc : X.calm = true) (hp : PassesOwn (model X.prog X.w) X.A X.env X.xe) (hi : IX X tg iter env xs) (h0 : Sub env (uu s0 env)) (hk : okRun okb step s0 xs)
    (hb : ∀ x r s, okb s x → (runL step s (x :: r) = runL step s0 xs) → ∃ e1, GX X tg x (uu s env) e1 ∧ SX X W body e1 { po with N := fun e => ∃ s', step s x = .go s' ∧ Sub e (uu s' env), C := fun e => ∃ s', step s x = .go s' ∧ Sub e (uu s' env), B := fun e => ∃ s', step s x = .brk s' ∧ Sub e (uu s' env) })
    (hd : ∀ s, (runL step s0 xs = .go s ∨ runL step s0 xs = .brk s) → SX X W rest (uu s env) po) (hs : ∀ x, foldedSetIterable iter X.env x = pure x := by intro _; rfl) : SX X W (.For tg iter body [] pos :: rest) env po := sx_forR (fun s => uu s env) step okb s0 hc hp hi h0 hk (fun x r s h1 _ h2 => hb x r s h1 h2) hd hs
theorem sx_ifj' {k : Bool} {c : Expr} {thn els : List Stmt} {S : Type} (uu : S → Env' → Env') (p1 p0 : S) (hc : ET X c env k) (h1 : k = true → SX X W thn env { po with N := fun e => Sub e (uu p1 env) }) (h2 : k = false → SX X W els env { po with N := fun e => Sub e (uu p0 env) }) (hr : SX X W rest (uu (cond k p1 p0) env) po) : SX X W (.If c thn els pos :: rest) env po :=
  sx_ifj (fun b => uu (cond b p1 p0) env) hc h1 h2 hr
/-- what the whole loop comes to, where a turn ends it -/
theorem run_ret {S ρ τ : Type} {step : S → τ → Stp S ρ} {s : S} {x : τ} {xs : List τ} {o : Stp S ρ} {r : ρ} (h : runL step s (x :: xs) = o) (q : step s x = .ret r) : o = .ret r := by
  rw [← h]
  show (match step s x with | .go s' => runL step s' xs | .brk s' => .brk s' | .ret r => .ret r) = _
  rw [q]
theorem fin_ret {S ρ τ : Type} {P : τ → Prop} {o : Stp S ρ} {k : S → τ} {h : ρ → τ} {r : ρ} (e : o = .ret r) (q : P (o.fin k h)) : P (h r) := by subst e; exact q
theorem fin_go {S ρ τ : Type} {P : τ → Prop} {o : Stp S ρ} {k : S → τ} {h : ρ → τ} {s : S} (e : o = .go s ∨ o = .brk s) (q : P (o.fin k h)) : P (k s) := by rcases e with e | e <;> (subst e; exact q)
end
end R
set_option maxHeartbeats 2000000
set_option autoImplicit false
namespace R
open PySem PySem.Spec PyProof.Rows L2
/-! ### fractions: a tuple in lowest terms is a rational number -/
instance : Dat Rat := ⟨fun K H v q => repT K H v [.dat q.num, .dat (q.den : Int)], fun e h => h.mono e⟩
instance : Tup Rat := ⟨fun q => [.dat q.num, .dat (q.den : Int)], fun _ _ _ _ => rfl⟩
def IsQ (t b : Int) : Prop := 0 < b ∧ Int.gcd t b = 1
theorem IsQ.num {t b : Int} (h : IsQ t b) : (Rat.divInt t b).num = t := by
  rw [Rat.num_divInt, Int.sign_eq_one_of_pos h.1, Int.one_mul, Int.gcd_comm, h.2]
  simp
theorem IsQ.den {t b : Int} (h : IsQ t b) : ((Rat.divInt t b).den : Int) = b := by
  have := h.1
  rw [Rat.den_divInt, if_neg (by omega), Int.gcd_comm, h.2]
  simp
  omega
section
variable {X : Cx} {W : WX} {env env' : Env'} {ρ α β γ : Type} [Res ρ] [Dat α] [Dat β] [Dat γ] {po : Po ρ} {x : α} {y : β} {z : γ} {e a b c tg iter : Expr} {es : List Expr} {pos p p2 pc : Pos} {rest body : List Stmt} {xs : List α}
theorem ex_rat {q : Rat} {t b : Int} (h : EX X e env (t, b)) (h1 : q.num = t) (h2 : (q.den : Int) = b) : EX X e env q := fun O fp σ H S Q k => h O fp σ H S Q fun v H' e r => k v H' e (by
  subst h1 h2
  exact r)
theorem ex_isQ {t b : Int} (h : EX X e env (t, b)) (g : IsQ t b) : EX X e env (Rat.divInt t b) := ex_rat h g.num g.den
/-! ### isinstance, by the kind of the data -/
class TyN (α : Type) [Dat α] (n : outParam String) : Prop where
  ty : ∀ (K : PySem.W.Frag) (H : Hp) (v : V) (x : α), Dat.rep K H v x → TyX K H v (.type n)
instance : TyN Int "int" := ⟨fun K H v x h => by rw [show v = .int x from h]; exact .base (.int x)⟩
instance : TyN Bool "bool" := ⟨fun K H v x h => by rw [show v = .bl x from h]; exact .base (.bl x)⟩
instance : TyN Str "str" := ⟨fun K H v x h => by rw [show v = .str x from h]; exact .base (.str x)⟩
instance : TyN Unit "NoneType" := ⟨fun K H v x h => by rw [show v = .non from h]; exact .base .non⟩
theorem repT.ty {K : PySem.W.Frag} {H : Hp} {v : V} {cs : List Sl} (h : repT K H v cs) : TyX K H v (.type "tuple") := by
  obtain ⟨a, vs, e, t, _⟩ := h
  subst e
  rcases t with (t | ⟨o, t⟩) | ⟨o, its, n, l, c, _⟩
  · exact .base (.tup t)
  · exact .fTuple t
  · exact .kTuple l c
instance : TyN Rat "tuple" := ⟨fun K H v x h => repT.ty h⟩
instance : TyN (α × β) "tuple" := ⟨fun K H v x h => repT.ty h⟩
instance : TyN (T3 α β γ) "tuple" := ⟨fun K H v x h => repT.ty h⟩
instance {α β γ δ ε : Type} [Dat α] [Dat β] [Dat γ] [Dat δ] [Dat ε] : TyN (T5 α β γ δ ε) "tuple" := ⟨fun K H v x h => repT.ty h⟩
instance {α β γ δ : Type} [Dat α] [Dat β] [Dat γ] [Dat δ] : TyN (T4 α β γ δ) "tuple" := ⟨fun K H v x h => repT.ty h⟩
instance : TyN (List α) "list" := ⟨fun K H v x h => by
  obtain ⟨a, vs, e, t, _⟩ := h
  subst e
  rcases t with (t | ⟨o, t⟩) | ⟨o, its, n, l, c, _⟩
  · exact .base (.lst t)
  · exact .base (.frz t)
  · exact .kList l c⟩
instance : TyN (Dc α) "dict" := ⟨fun K H v x h => by
  obtain ⟨a, vs, e, t, _⟩ := h
  subst e
  rcases t with t | ⟨o, t⟩
  · exact .base (.dK t)
  · exact .fDict t⟩
theorem TyX.mono {K : PySem.W.Frag} {H : Hp} {U : Addr → Prop} {v : V} {n : String} (h : TyX K (wo H U) v (.type n)) : TyX K H v (.type n) := by
  cases h with
  | base h =>
    refine .base ?_
    cases h with
    | non => exact .non
    | bl x => exact .bl x
    | int x => exact .int x
    | str x => exact .str x
    | flt x => exact .flt x
    | lst e => exact .lst (wo_some e).2
    | frz e => exact .frz (wo_some e).2
    | tup e => exact .tup (wo_some e).2
    | dK e => exact .dK (wo_some e).2
    | dT e => exact .dT (wo_some e).2
  | byt b => exact .byt b
  | set e => exact .set (wo_some e).2
  | kList e c => exact .kList e c
  | kTuple e c => exact .kTuple e c
  | kDict e c => exact .kDict e c
  | fTuple e => exact .fTuple (wo_some e).2
  | fDict e => exact .fDict (wo_some e).2
theorem ex_isi {n : String} [TyN α n] {T : Str} {c : String} {k : Bool} (hi : X.mg "isinstance" = none) (hT : X.mg T = none) (h : EX X a env x) (hk : kitB n c = some k) (hv : bootBuiltins T = some (.type c)) (hg : Gl X "isinstance" := by rfl) (hgT : Gl X T := by rfl) (hn : T ≠ "__name__" := by decide) (hd : (T == ("__debug__" : Str)) = false := by decide)
    (he : starEach [a, .Name T pc] X.env = (false, eval a X.env) :: starEach [.Name T pc] X.env := by rfl) (he2 : starEach [.Name T pc] X.env = (false, eval (.Name T pc) X.env) :: starEach [] X.env := by rfl) (hpl : (backTo pos (starEach [.Name T pc] X.env)).any (·.1) = false := by rfl) : EX X (.Call (.Name "isinstance" p) [a, .Name T pc] [] pos) env k :=
  ex_of (pe_callB call_isi hg hi (by decide +kernel) (pa_cons (mE X a) (pa_cons (pe_bltn (v := .ty c) hgT hT hv rfl hn hd) pa_nil he2) he) (by decide) (by decide) he hpl) fun O fp σ H S Q q => h O fp σ H S _ fun v H1 e1 r1 => ⟨v, .ty c, .type n, .type c, k, rfl, .ty c, TyX.mono (TyN.ty _ _ _ _ r1), kit_ty hk, q _ H1 e1 rfl⟩
/-- xs[i] of a list, i from 0 on, told with a default -/
theorem ex_ixD {i : Int} {d : α} (h : EX X a env xs) (hb : EX X b env i) (g : 0 ≤ i ∧ i < (xs.length : Int)) (hs : PlainIx b := by exact fun _ _ => rfl) : EX X (.Subscript a b pos) env (xs.getD (Int.toNat i) d) := ex_ixL h hb ⟨g.1, by
  have : i.toNat < xs.length := by omega
  rw [List.getD_eq_getElem?_getD, List.getElem?_eq_getElem this]
  rfl⟩ hs
/-! ### texts -/
def StrRoom (x y : Str) : Prop := x.length + y.length ≤ 100000
theorem ex_addS {x y : Str} (ha : EX X a env x) (hb : EX X b env y) (h : StrRoom x y) : EX X (.BinOp a .Add b pos) env (x ++ y) := ex_op op_add_str ha hb fun U v1 v2 H _ r1 r2 Q q => ⟨x, y, r1, r2, sz_of h, q _ H (Ex.refl H) rfl⟩
end
/-! ### a promise told otherwise -/
theorem spP.imp {ρ : Type} [Res ρ] {K : PySem.W.Frag} {mg : Str → Option Value} {n : Nat} {Φ Φ' : Phi ρ} (h : ∀ args Rp Xp, Φ' args Rp Xp → Φ args Rp Xp) : ∀ vs H Q E, spP K mg n Φ' vs H Q E → spP K mg n Φ vs H Q E :=
  fun vs H Q E ⟨hl, O, args, Rp, Xp, ph, r⟩ => ⟨hl, O, args, Rp, Xp, h _ _ _ ph, r⟩
theorem DefOk.imp {ρ : Type} [Res ρ] {P : Program} {w : World} {K : PySem.W.Frag} {mg : Str → Option Value} {base : Heap} {n : Str} {k m : Nat} {ps : List Str} {dvs : List V} {Φ Φ' : Phi ρ} (d : DefOk P w K mg base n k ps dvs (spP K mg m Φ)) (h : ∀ args Rp Xp, Φ' args Rp Xp → Φ args Rp Xp) : DefOk P w K mg base n k ps dvs (spP K mg m Φ') := by
  obtain ⟨f, fd, ds, F, r⟩ := d.ex
  exact ⟨f, fd, ds, F.imp (spP.imp h), r⟩
/-! ### numbers: room -/
def gcdI (a b : Int) : Int := (Int.gcd a b : Int)
theorem gcd_turn (x y : Int) : Int.gcd y (x % y) = Int.gcd x y := by
  have h := Int.gcd_mul_left_add_right y (x % y) (x / y)
  rw [Int.mul_ediv_add_emod] at h
  rw [← h, Int.gcd_comm]
theorem absI_nn (i : Int) : 0 ≤ absI i := by unfold absI; split <;> omega
theorem absI_nat (i : Int) : (absI i).natAbs = i.natAbs := by unfold absI; split <;> omega
theorem divInt_num {t b : Int} (h : 0 < b) : (Rat.divInt t b).num = t / gcdI t b := by
  rw [Rat.num_divInt, Int.sign_eq_one_of_pos h, Int.one_mul, Int.gcd_comm]
  rfl
theorem divInt_den {t b : Int} (h : 0 < b) : ((Rat.divInt t b).den : Int) = b / gcdI t b := by
  rw [Rat.den_divInt, if_neg (by omega), Int.gcd_comm]
  unfold gcdI
  rw [Int.natCast_ediv, Int.natAbs_of_nonneg (by omega)]
theorem gcdI_pos {t b : Int} (h : b ≠ 0) : 0 < gcdI t b := by
  have := Int.gcd_pos_of_ne_zero_right t h
  unfold gcdI
  omega
theorem gcdI_le {t b : Int} (h : b ≠ 0) : (gcdI t b).natAbs ≤ b.natAbs := by
  have := Int.gcd_le_natAbs_right t h
  unfold gcdI
  omega
theorem cdiv_gcd {t b x : Int} (h : b ≠ 0) (hb : b.natAbs < 2 ^ 9000) : CDivW x (gcdI t b) := wide_div (gcdI_pos h) (Nat.lt_of_le_of_lt (gcdI_le h) hb) (by decide) (by decide)
theorem gcdI_neg (t b : Int) : gcdI (0 - t) (0 - b) = gcdI t b := by
  unfold gcdI
  rw [show 0 - t = -t by omega, show 0 - b = -b by omega, Int.gcd_neg, Int.neg_gcd]
theorem divInt_neg2 (t b : Int) : Rat.divInt (0 - t) (0 - b) = Rat.divInt t b := by
  rw [show 0 - t = -t by omega, show 0 - b = -b by omega, Rat.neg_divInt_neg]
theorem plus_eq (x y : Rat) : Rat.divInt (x.num * (y.den : Int) + y.num * (x.den : Int)) ((x.den : Int) * (y.den : Int)) = x + y := by
  rw [Rat.add_def', ← Rat.divInt_ofNat]
  simp
theorem minus_eq (x y : Rat) : Rat.divInt (x.num * (y.den : Int) - y.num * (x.den : Int)) ((x.den : Int) * (y.den : Int)) = x - y := by
  rw [Rat.sub_def', ← Rat.divInt_ofNat]
  simp
theorem times_eq (x y : Rat) : Rat.divInt (x.num * y.num) ((x.den : Int) * (y.den : Int)) = x * y := by
  rw [Rat.mul_def', ← Rat.divInt_ofNat]
  simp
theorem under_eq (x y : Rat) : decide (x.num * (y.den : Int) < y.num * (x.den : Int)) = decide (x < y) := by
  rw [decide_eq_decide, Rat.lt_iff]
theorem den_pos (x : Rat) : 0 < (x.den : Int) := by have := x.den_pos; omega
theorem dens_ne (x y : Rat) : (x.den : Int) * (y.den : Int) ≠ 0 := Int.ne_of_gt (Int.mul_pos (den_pos x) (den_pos y))
end R
set_option maxHeartbeats 200000
set_option autoImplicit false
namespace R
open PySem PySem.Spec PyProof.Rows L2
/-! ### options -/
def repO {α : Type} [Dat α] (K : PySem.W.Frag) (H : Hp) (v : V) : Option α → Prop
  | none => v = .non
  | some x => Dat.rep K H v x
instance {α : Type} [Dat α] : Dat (Option α) := ⟨repO, fun {K H H' v x} e h => by
  cases x with
  | none => exact h
  | some x => exact Dat.mono (α := α) e h⟩
instance {α β γ : Type} [Inhabited α] [Inhabited β] [Inhabited γ] : Inhabited (T3 α β γ) := ⟨⟨default, default, default⟩⟩
instance {α β γ δ : Type} [Inhabited α] [Inhabited β] [Inhabited γ] [Inhabited δ] : Inhabited (T4 α β γ δ) := ⟨⟨default, default, default, default⟩⟩
instance {α β γ δ ε : Type} [Inhabited α] [Inhabited β] [Inhabited γ] [Inhabited δ] [Inhabited ε] : Inhabited (T5 α β γ δ ε) := ⟨⟨default, default, default, default, default⟩⟩
instance {α : Type} : Inhabited (Dc α) := ⟨⟨[]⟩⟩
/-! ### data without lists and dicts -/
class NoMut (α : Type) [Dat α] : Prop where
  cut : ∀ (K : PySem.W.Frag) (Hf Hf' : Hp) (v : V) (x : α), (∀ a xs, Rd Hf a (.tup xs) → Rd Hf' a (.tup xs)) → Dat.rep K Hf v x → Dat.rep K Hf' v x
instance : NoMut Int := ⟨fun _ _ _ _ _ _ h => h⟩
instance : NoMut Bool := ⟨fun _ _ _ _ _ _ h => h⟩
instance : NoMut Str := ⟨fun _ _ _ _ _ _ h => h⟩
instance : NoMut Unit := ⟨fun _ _ _ _ _ _ h => h⟩
theorem cut_tup {K : PySem.W.Frag} {Hf Hf' : Hp} {a : Addr} {vs : List V} (h : ∀ a xs, Rd Hf a (.tup xs) → Rd Hf' a (.tup xs)) (t : SqT K Hf a vs) : SqT K Hf' a vs := by
  rcases t with t | t
  · exact .inl (h a vs t)
  · exact .inr t
instance : NoMut Rat := ⟨fun K Hf Hf' v x h r => by
  obtain ⟨a, vs, e, t, ar⟩ := r
  refine ⟨a, vs, e, cut_tup h t, ?_⟩
  match vs, ar with
  | [u, w], ⟨h1, h2, _⟩ => exact ⟨h1, h2, trivial⟩⟩
instance {α β : Type} [Dat α] [Dat β] [NoMut α] [NoMut β] : NoMut (α × β) := ⟨fun K Hf Hf' v x h r => by
  obtain ⟨a, vs, e, t, ar⟩ := r
  refine ⟨a, vs, e, cut_tup h t, ?_⟩
  match vs, ar with
  | [u, w], ⟨h1, h2, _⟩ => exact ⟨NoMut.cut K Hf Hf' _ _ h h1, NoMut.cut K Hf Hf' _ _ h h2, trivial⟩⟩
instance {α : Type} [Dat α] [NoMut α] : NoMut (Option α) := ⟨fun K Hf Hf' v x h r => by
  cases x with
  | none => exact r
  | some x => exact NoMut.cut (α := α) K Hf Hf' v x h r⟩
/-! ### dicts as tables -/
section
variable {α : Type}
def lookD (kvs : List (Str × α)) (k : Str) : Option α := (kvs.find? fun p => decide (p.1 = k)).map (·.2)
def putD (kvs : List (Str × α)) (k : Str) (x : α) : List (Str × α) := if (kvs.any fun p => decide (p.1 = k)) = true then kvs.map (fun p => if p.1 = k then (p.1, x) else p) else kvs ++ [(k, x)]
def dropD (kvs : List (Str × α)) (k : Str) : List (Str × α) := kvs.filter fun p => decide (p.1 ≠ k)
def Dc.look (d : Dc α) (k : Str) : Option α := lookD d.kvs k
def Dc.has (d : Dc α) (k : Str) : Bool := (lookD d.kvs k).isSome
def Dc.put (d : Dc α) (k : Str) (x : α) : Dc α := ⟨putD d.kvs k x⟩
def Dc.drop (d : Dc α) (k : Str) : Dc α := ⟨dropD d.kvs k⟩
variable [Dat α] {K : PySem.W.Frag} {H : Hp}
theorem key_dec (a b : Str) : decide ((Sum.inr a : Key) = Sum.inr b) = decide (a = b) := key_rr a b
theorem repD.look : ∀ {ws : List (Key × V)} {kvs : List (Str × α)}, repD K H ws kvs → ∀ k : Str, (valV ws (.inr k) = none ∧ lookD kvs k = none) ∨ ∃ v x, valV ws (.inr k) = some v ∧ lookD kvs k = some x ∧ Dat.rep K H v x
  | _, _, .nil, k => .inl ⟨rfl, rfl⟩
  | (k1, v) :: ws, (k2, x) :: kvs, .cons h t, k => by
    obtain ⟨h1, h2⟩ := h
    have h1 : k1 = .inr k2 := h1
    subst h1
    have ih := repD.look t k
    unfold valV lookD at *
    rw [List.find?_cons, List.find?_cons]
    by_cases e : k2 = k
    · subst e
      simp
      exact h2
    · have e1 : decide ((Sum.inr k2 : Key) = Sum.inr k) = false := by rw [key_dec]; exact decide_eq_false e
      have e2 : decide (k2 = k) = false := decide_eq_false e
      simp only [e1, e2]
      exact ih
theorem repD.any {ws : List (Key × V)} {kvs : List (Str × α)} (h : repD K H ws kvs) (k : Str) : (ws.any fun p => decide (p.1 = .inr k)) = (kvs.any fun p => decide (p.1 = k)) := by
  unfold repD at h
  induction h with
  | nil => rfl
  | cons h t ih => rw [List.any_cons, List.any_cons, ih, h.1, key_dec]
theorem repD.put {ws : List (Key × V)} {kvs : List (Str × α)} (h : repD K H ws kvs) (k : Str) {v : V} {x : α} (r : Dat.rep K H v x) : repD K H (putK ws (.inr k) v) (putD kvs k x) := by
  unfold putK putD
  rw [h.any k]
  split
  · rename_i hq
    clear hq
    unfold repD at *
    induction h with
    | nil => exact .nil
    | @cons a b _ _ h t ih =>
      rw [List.map_cons, List.map_cons]
      refine .cons ?_ ih
      obtain ⟨h1, h2⟩ := h
      by_cases e : b.1 = k
      · rw [if_pos e, if_pos (by rw [h1, e])]
        exact ⟨h1, r⟩
      · rw [if_neg e, if_neg (by rw [h1]; intro z; exact e (Sum.inr.inj z))]
        exact ⟨h1, h2⟩
  · have : ∀ {ws : List (Key × V)} {kvs : List (Str × α)}, repD K H ws kvs → repD K H (ws ++ [(.inr k, v)]) (kvs ++ [(k, x)]) := by
      intro ws kvs h
      unfold repD at *
      induction h with
      | nil => exact .cons ⟨rfl, r⟩ .nil
      | cons h t ih => exact .cons h ih
    exact this h
theorem repD.drop {ws : List (Key × V)} {kvs : List (Str × α)} (h : repD K H ws kvs) (k : Str) : repD K H (dropK ws (.inr k)) (dropD kvs k) := by
  unfold dropK dropD repD at *
  induction h with
  | nil => exact .nil
  | @cons a b _ _ h t ih =>
    rw [List.filter_cons, List.filter_cons]
    obtain ⟨h1, h2⟩ := h
    by_cases e : b.1 = k
    · have e1 : decide (a.1 ≠ .inr k) = false := decide_eq_false (by rw [h1, e]; simp)
      have e2 : decide (b.1 ≠ k) = false := decide_eq_false (by simp [e])
      simp only [e1, e2]
      exact ih
    · have e1 : decide (a.1 ≠ .inr k) = true := decide_eq_true (by rw [h1]; intro z; exact e (Sum.inr.inj z))
      have e2 : decide (b.1 ≠ k) = true := decide_eq_true e
      simp only [e1, e2]
      exact .cons ⟨h1, h2⟩ ih
theorem putD_length (kvs : List (Str × α)) (k : Str) (x : α) : (putD kvs k x).length ≤ kvs.length + 1 := by
  unfold putD
  split
  · rw [List.length_map]; omega
  · simp
end
/-! ### one's own lists and dicts -/
structure OL (α : Type) where
  l : List α
structure OD (α : Type) where
  d : Dc α
instance {α : Type} [Dat α] : Own (OL α) where
  own K Hf H v L x := ∃ a vs, v = .ref a ∧ L = [a] ∧ H a = some (.lst vs) ∧ repL K Hf vs x.l
  frame := fun e f ⟨a, vs, h1, h2, h3, h4⟩ => ⟨a, vs, h1, h2, by rw [f a (by rw [h2]; exact List.mem_singleton.mpr rfl)]; exact h3, h4.mono e⟩
instance {α : Type} [Dat α] : Own (OD α) where
  own K Hf H v L x := ∃ a ws, v = .ref a ∧ L = [a] ∧ H a = some (.dK ws) ∧ repD K Hf ws x.d.kvs
  frame := fun e f ⟨a, vs, h1, h2, h3, h4⟩ => ⟨a, vs, h1, h2, by rw [f a (by rw [h2]; exact List.mem_singleton.mpr rfl)]; exact h3, h4.mono e⟩
def setF (fp : Nat → List Addr) (i : Nat) (L : List Addr) : Nat → List Addr := fun j => if j = i then L else fp j
theorem wo_upd_in {H : Hp} {U : Addr → Prop} {a : Addr} {o : HO} (h : U a) : wo (upd H a o) U = wo H U := by
  funext b
  by_cases u : U b
  · rw [wo_in u, wo_in u]
  · rw [wo_out u, wo_out u, upd_ne]
    intro e
    subst e
    exact u h
section
variable {K : PySem.W.Frag} {O : Addr → Prop} {fp : Nat → List Addr} {env : Env'} {σ : L2.St} {H H' : Hp}
/-- the object of slot i is changed -/
theorem SOk.mut {β γ : Type} [Own β] [Own γ] (S : SOk K O fp env σ H) {i : Nat} {x : β} {y : γ} {a : Addr} {o : HO} (hi : env[i]? = some (.own x)) (ha : fp i = [a]) (hy : ∀ v, σ[i]? = some (some v) → Own.own K (wo H (UU O fp)) (upd H a o) v [a] y) : SOk K O fp (env.set i (.own y)) σ (upd H a o) where
  len := by rw [List.length_set]; exact S.len
  bnd := fun b h => by
    by_cases e : b = a
    · subst e; exact ⟨o, upd_same⟩
    · rw [upd_ne e]; exact S.bnd b h
  fpO := S.fpO
  sep := S.sep
  dom := fun j b h => by
    by_cases e : b = a
    · subst e; exact ⟨o, upd_same⟩
    · rw [upd_ne e]; exact S.dom j b h
  sl := fun j s q => by
    have hU : UU O fp a := .inr ⟨i, by rw [ha]; exact List.mem_singleton.mpr rfl⟩
    rw [wo_upd_in hU]
    by_cases e : i = j
    · subst e
      have hl : i < env.length := (List.getElem?_eq_some_iff.mp hi).1
      rw [List.getElem?_set_self hl] at q
      cases q
      obtain ⟨v, hv, _⟩ := S.sl i _ hi
      exact ⟨v, hv, by rw [ha]; exact hy v hv⟩
    · rw [List.getElem?_set_ne e] at q
      have r := S.sl j s q
      cases s with
      | any => exact trivial
      | dat x => exact r
      | own x =>
        obtain ⟨v, h1, h2⟩ := r
        refine ⟨v, h1, Own.frame (Le.refl _) (fun b hb => ?_) h2⟩
        rw [upd_ne]
        intro z
        subst z
        exact e (S.sep i j b (by rw [ha]; exact List.mem_singleton.mpr rfl) hb)
theorem Keep.mut {a : Addr} {o : HO} (h : ∃ i, a ∈ fp i) : Keep fp H fp (upd H a o) := ⟨fun b u n q => by
  rw [upd_ne]
  · exact q
  · intro e; subst e; exact n h, fun i b q => .inl ⟨i, q⟩⟩
/-- a new object of one's own comes into slot i -/
theorem SOk.new {β : Type} [Own β] (S : SOk K O fp env σ H) {i : Nat} {x : β} {v : V} {L : List Addr} (e : Ex H H') (hL : ∀ a ∈ L, H a = none) (hd : ∀ a ∈ L, ∃ o, H' a = some o) (hx : ∀ Hf, Le (wo H' (fun a => UU O fp a ∨ a ∈ L)) Hf → Own.own K Hf H' v L x) : SOk K O (setF fp i L) (env.set i (.own x)) (σ.set i (some v)) H' := by
  have hn : ∀ a ∈ L, ¬ UU O fp a := fun a ha => S.fresh (hL a ha)
  have sub : ∀ a, UU O (setF fp i L) a → UU O fp a ∨ a ∈ L := fun a h => by
    rcases h with h | ⟨j, h⟩
    · exact .inl (.inl h)
    · unfold setF at h
      split at h
      · exact .inr h
      · exact .inl (.inr ⟨j, h⟩)
  have le : Le (wo H (UU O fp)) (wo H' (UU O (setF fp i L))) := Ex.le fun a o q => by
    obtain ⟨n, q⟩ := wo_some q
    rw [wo_out fun z => (sub a z).elim n fun m => by rw [hL a m] at q; cases q]
    exact e a o q
  exact {
    len := by rw [List.length_set, List.length_set]; exact S.len
    bnd := fun a h => let ⟨o, q⟩ := S.bnd a h; ⟨o, e a o q⟩
    fpO := fun j a h => by
      unfold setF at h
      split at h
      · exact fun z => hn a h (.inl z)
      · exact S.fpO j a h
    sep := fun j k a h1 h2 => by
      unfold setF at h1 h2
      split at h1 <;> split at h2
      · omega
      · exact absurd (.inr ⟨k, h2⟩) (hn a h1)
      · exact absurd (.inr ⟨j, h1⟩) (hn a h2)
      · exact S.sep j k a h1 h2
    dom := fun j a h => by
      unfold setF at h
      split at h
      · exact hd a h
      · let ⟨o, q⟩ := S.dom j a h
        exact ⟨o, e a o q⟩
    sl := fun j s q => by
      by_cases e' : i = j
      · subst e'
        have hl : i < env.length := by
          have := (List.getElem?_eq_some_iff.mp q).1
          simpa using this
        rw [List.getElem?_set_self hl] at q
        cases q
        refine ⟨v, by rw [List.getElem?_set_self (by rw [S.len]; exact hl)], ?_⟩
        have : setF fp i L i = L := by unfold setF; rw [if_pos rfl]
        rw [this]
        exact hx _ (wo_mono sub).le
      · rw [List.getElem?_set_ne e'] at q
        rw [List.getElem?_set_ne e']
        have r := S.sl j s q
        have ef : setF fp i L j = fp j := by unfold setF; rw [if_neg (fun z => e' z.symm)]
        rw [ef]
        cases s with
        | any => exact trivial
        | dat x =>
          obtain ⟨v, h1, h2⟩ := r
          exact ⟨v, h1, Dat.mono le h2⟩
        | own x =>
          obtain ⟨v, h1, h2⟩ := r
          refine ⟨v, h1, Own.frame le (fun a ha => ?_) h2⟩
          obtain ⟨o, q⟩ := S.dom j a ha
          rw [q, e a o q] }
theorem Keep.new {i : Nat} {L : List Addr} (e : Ex H H') (hL : ∀ a ∈ L, H a = none) : Keep fp H (setF fp i L) H' := ⟨fun a o _ h => e a o h, fun j a h => by
  unfold setF at h
  split at h
  · exact .inr (hL a h)
  · exact .inl ⟨j, h⟩⟩
/-- one's own becomes data -/
theorem SOk.frz {β α : Type} [Own β] [Dat α] (S : SOk K O fp env σ H) {i : Nat} {x : β} {y : α} (hi : env[i]? = some (.own x)) (hy : ∀ v Hf, Own.own K Hf H v (fp i) x → (∀ a ∈ fp i, Hf a = H a) → Dat.rep K Hf v y) : SOk K O (setF fp i []) (env.set i (.dat y)) σ H := by
  have sub : ∀ a, UU O (setF fp i []) a → UU O fp a := fun a h => by
    rcases h with h | ⟨j, h⟩
    · exact .inl h
    · unfold setF at h
      split at h
      · cases h
      · exact .inr ⟨j, h⟩
  have le : Le (wo H (UU O fp)) (wo H (UU O (setF fp i []))) := (wo_mono sub).le
  exact {
    len := by rw [List.length_set]; exact S.len
    bnd := S.bnd
    fpO := fun j a h => by
      unfold setF at h
      split at h
      · cases h
      · exact S.fpO j a h
    sep := fun j k a h1 h2 => by
      unfold setF at h1 h2
      split at h1
      · cases h1
      · split at h2
        · cases h2
        · exact S.sep j k a h1 h2
    dom := fun j a h => by
      unfold setF at h
      split at h
      · cases h
      · exact S.dom j a h
    sl := fun j s q => by
      by_cases e : i = j
      · subst e
        have hl : i < env.length := (List.getElem?_eq_some_iff.mp hi).1
        rw [List.getElem?_set_self hl] at q
        cases q
        obtain ⟨v, h1, h2⟩ := S.sl i _ hi
        refine ⟨v, h1, hy v _ (Own.frame le (fun _ _ => rfl) h2) fun a ha => wo_out fun z => ?_⟩
        rcases z with z | ⟨k, z⟩
        · exact S.fpO i a ha z
        · unfold setF at z
          split at z
          · cases z
          · rename_i ne
            exact ne (S.sep k i a z ha)
      · rw [List.getElem?_set_ne e] at q
        have r := S.sl j s q
        have ef : setF fp i [] j = fp j := by unfold setF; rw [if_neg (fun z => e z.symm)]
        rw [ef]
        cases s with
        | any => exact trivial
        | dat x =>
          obtain ⟨v, h1, h2⟩ := r
          exact ⟨v, h1, Dat.mono le h2⟩
        | own x =>
          obtain ⟨v, h1, h2⟩ := r
          exact ⟨v, h1, Own.frame le (fun _ _ => rfl) h2⟩ }
theorem Keep.frz' {i : Nat} : Keep fp H (setF fp i []) H := ⟨fun _ _ _ h => h, fun j a h => by
  unfold setF at h
  split at h
  · cases h
  · exact .inl ⟨j, h⟩⟩
end
theorem own_frzL {α : Type} [Dat α] {K : PySem.W.Frag} {Hf H : Hp} {v : V} {L : List Addr} {xs : List α} (h : Own.own K Hf H v L (OL.mk xs)) (q : ∀ a ∈ L, Hf a = H a) : Dat.rep K Hf v xs := by
  obtain ⟨a, vs, h1, h2, h3, h4⟩ := h
  exact ⟨a, vs, h1, .inl (.inl (by rw [q a (by rw [h2]; exact List.mem_singleton.mpr rfl)]; exact h3)), h4⟩
theorem own_frzD {α : Type} [Dat α] {K : PySem.W.Frag} {Hf H : Hp} {v : V} {L : List Addr} {d : Dc α} (h : Own.own K Hf H v L (OD.mk d)) (q : ∀ a ∈ L, Hf a = H a) : Dat.rep K Hf v d := by
  obtain ⟨a, vs, h1, h2, h3, h4⟩ := h
  exact ⟨a, vs, h1, .inl (by rw [q a (by rw [h2]; exact List.mem_singleton.mpr rfl)]; exact h3), h4⟩
/-- what makes a new object of one's own -/
def EN {β : Type} [Own β] (X : Cx) (e : Expr) (env : Env') (x : β) : Prop :=
  ∀ O fp σ H, SOk X.K O fp env σ H → ∀ Q : VK, (∀ v L H', Ex H H' → (∀ a ∈ L, H a = none) → (∀ a ∈ L, ∃ o, H' a = some o) → (∀ Hf, Le (wo H' (fun a => UU O fp a ∨ a ∈ L)) Hf → Own.own X.K Hf H' v L x) → Q v H') → tE X e σ H Q
section
variable {X : Cx} {W : WX} {env env' : Env'} {ρ α β γ : Type} [Res ρ] [Dat α] [Dat β] [Dat γ] {po : Po ρ} {x : α} {y : β} {z : γ} {e a b c tg iter o : Expr} {es : List Expr} {pos p p2 pc p3 apos cpos : Pos} {rest body : List Stmt} {xs : List α}
theorem sx_new {β : Type} [Own β] {x : β} {i : Nat} {n : Str} (hN : X.N.Nodup) (he : EN X e env x) (h : SX X W rest (env.set i (.own x)) po) (hi : X.N[i]? = some n := by rfl) (hx : Loc X.env.scope n := by first | exact Or.inl rfl | exact Or.inr rfl) (hs : swapsWith e (some (.Name n p2)) pos.line X.env = pure false := by rfl) (hf : X.fn n = true ∨ X.env.scope.names.lookup n = some .local := by first | exact .inl rfl | exact .inr rfl | assumption) :
    SX X W (.Assign [.Name n p2] e pos :: rest) env po :=
  sx_step (ps_set hN hi hx (mE X e) hs hf) (fun O fp σ H S D q => he O fp σ H S _ fun v L H1 e1 hL hd r1 => q (setF fp i L) _ H1 (Keep.new e1 hL) (S.new e1 hL hd r1)) h
theorem en_nil : EN X (.List [] pos) env (OL.mk ([] : List α)) := fun O fp σ H S Q q pins s I => (pe_lst pa_nil).run pins s σ H Q I ⟨Nat.zero_le _, fun p hp => q (.ref p) [p] _ (Ex.new hp) (fun a ha => by rw [List.mem_singleton.mp ha]; exact hp) (fun a ha => by rw [List.mem_singleton.mp ha]; exact ⟨_, upd_same⟩) fun Hf _ => ⟨p, [], rfl, rfl, upd_same, .nil⟩⟩
theorem en_dnew : EN X (.Dict [] [] pos) env (OD.mk (⟨[]⟩ : Dc α)) := fun O fp σ H S Q q pins s I => pe_dnewK.run pins s σ H Q I fun p hp => q (.ref p) [p] _ (Ex.new hp) (fun a ha => by rw [List.mem_singleton.mp ha]; exact hp) (fun a ha => by rw [List.mem_singleton.mp ha]; exact ⟨_, upd_same⟩) fun Hf _ => ⟨p, [], rfl, rfl, upd_same, .nil⟩
theorem sx_frzL {i : Nat} (hi : env[i]? = some (.own (OL.mk xs))) (h : SX X W rest (env.set i (.dat xs)) po) : SX X W rest env po := fun O fp σ H S D G => h O (setF fp i []) σ H (S.frz hi fun v Hf r q => own_frzL r q) D (G.step Keep.frz')
theorem sx_frzD {i : Nat} {d : Dc α} (hi : env[i]? = some (.own (OD.mk d))) (h : SX X W rest (env.set i (.dat d)) po) : SX X W rest env po := fun O fp σ H S D G => h O (setF fp i []) σ H (S.frz hi fun v Hf r q => own_frzD r q) D (G.step Keep.frz')
/-- one's own is read as data, where the answer has no lists -/
theorem ex_thawL [NoMut γ] {i : Nat} (hi : env[i]? = some (.own (OL.mk xs))) (h : EX X e (env.set i (.dat xs)) z) : EX X e env z := fun O fp σ H S Q q => h O (setF fp i []) σ H (S.frz hi fun v Hf r q => own_frzL r q) Q fun v H' e1 r => q v H' e1 (by
  obtain ⟨v0, _, ow⟩ := S.sl i _ hi
  obtain ⟨a, vs, _, hL, hl, _⟩ := ow
  refine NoMut.cut X.K _ _ v z (fun b ys t => ?_) r
  have hb : ¬ UU O fp b → Rd (wo H' (UU O fp)) b (.tup ys) := fun n => by
    rcases t with t | ⟨o, t⟩
    · exact .inl (by rw [wo_out n]; exact (wo_some t).2)
    · exact .inr ⟨o, by rw [wo_out n]; exact (wo_some t).2⟩
  refine hb fun u => ?_
  have nb : b ≠ a := fun z => by
    subst z
    have := e1 b _ hl
    rcases t with t | ⟨o, t⟩ <;> (rw [(wo_some t).2] at this; cases this)
  have : UU O (setF fp i []) b := by
    rcases u with u | ⟨j, u⟩
    · exact .inl u
    · refine .inr ⟨j, ?_⟩
      unfold setF
      split
      · rename_i ej
        subst ej
        rw [hL] at u
        exact absurd (List.mem_singleton.mp u) nb
      · exact u
  rcases t with t | ⟨o, t⟩ <;> exact (wo_some t).1 this)
theorem ex_thawD [NoMut γ] {i : Nat} {d : Dc α} (hi : env[i]? = some (.own (OD.mk d))) (h : EX X e (env.set i (.dat d)) z) : EX X e env z := fun O fp σ H S Q q => h O (setF fp i []) σ H (S.frz hi fun v Hf r q => own_frzD r q) Q fun v H' e1 r => q v H' e1 (by
  obtain ⟨v0, _, ow⟩ := S.sl i _ hi
  obtain ⟨a, vs, _, hL, hl, _⟩ := ow
  refine NoMut.cut X.K _ _ v z (fun b ys t => ?_) r
  have hb : ¬ UU O fp b → Rd (wo H' (UU O fp)) b (.tup ys) := fun n => by
    rcases t with t | ⟨o, t⟩
    · exact .inl (by rw [wo_out n]; exact (wo_some t).2)
    · exact .inr ⟨o, by rw [wo_out n]; exact (wo_some t).2⟩
  refine hb fun u => ?_
  have nb : b ≠ a := fun z => by
    subst z
    have := e1 b _ hl
    rcases t with t | ⟨o, t⟩ <;> (rw [(wo_some t).2] at this; cases this)
  have : UU O (setF fp i []) b := by
    rcases u with u | ⟨j, u⟩
    · exact .inl u
    · refine .inr ⟨j, ?_⟩
      unfold setF
      split
      · rename_i ej
        subst ej
        rw [hL] at u
        exact absurd (List.mem_singleton.mp u) nb
      · exact u
  rcases t with t | ⟨o, t⟩ <;> exact (wo_some t).1 this)
theorem et_thawL {k : Bool} {i : Nat} (hi : env[i]? = some (.own (OL.mk xs))) (h : ET X e (env.set i (.dat xs)) k) : ET X e env k := fun O fp σ H S Q q => h O (setF fp i []) σ H (S.frz hi fun v Hf r q => own_frzL r q) Q q
theorem et_thawD {k : Bool} {i : Nat} {d : Dc α} (hi : env[i]? = some (.own (OD.mk d))) (h : ET X e (env.set i (.dat d)) k) : ET X e env k := fun O fp σ H S Q q => h O (setF fp i []) σ H (S.frz hi fun v Hf r q => own_frzD r q) Q q
/-- the slot of one's own object: its address and what stands there -/
theorem SOk.ol {O : Addr → Prop} {fp : Nat → List Addr} {σ : L2.St} {H : Hp} {i : Nat} (S : SOk X.K O fp env σ H) (hi : env[i]? = some (.own (OL.mk xs))) : ∃ ad vs, σ[i]? = some (some (.ref ad)) ∧ fp i = [ad] ∧ H ad = some (.lst vs) ∧ repL X.K (wo H (UU O fp)) vs xs := by
  obtain ⟨v, h1, ad, vs, h2, h3, h4, h5⟩ := S.sl i _ hi
  subst h2
  exact ⟨ad, vs, h1, h3, h4, h5⟩
theorem SOk.od {O : Addr → Prop} {fp : Nat → List Addr} {σ : L2.St} {H : Hp} {i : Nat} {d : Dc α} (S : SOk X.K O fp env σ H) (hi : env[i]? = some (.own (OD.mk d))) : ∃ ad ws, σ[i]? = some (some (.ref ad)) ∧ fp i = [ad] ∧ H ad = some (.dK ws) ∧ repD X.K (wo H (UU O fp)) ws d.kvs := by
  obtain ⟨v, h1, ad, vs, h2, h3, h4, h5⟩ := S.sl i _ hi
  subst h2
  exact ⟨ad, vs, h1, h3, h4, h5⟩
theorem Paired.app {α β : Type} {F : α → β → Prop} {xs : List α} {ys : List β} {x : α} {y : β} (h : Paired F xs ys) (r : F x y) : Paired F (xs ++ [x]) (ys ++ [y]) := by
  induction h with
  | nil => exact .cons r .nil
  | cons h t ih => exact .cons h ih
/-- l.append(e): the statement's own derivation is handed in -/
theorem sx_app {i : Nat} {st : Stmt} (ps : PS X st (tDrop (tBM X.K "list" rAppend (tVar i) (tCons (tE X e) tNil)))) (hi : env[i]? = some (.own (OL.mk xs))) (he : EX X e env x) (hz : xs.length < 100000) (h : SX X W rest (env.set i (.own (OL.mk (xs ++ [x])))) po) : SX X W (st :: rest) env po :=
  sx_step ps (fun O fp σ H S D q => by
    obtain ⟨ad, vs, h1, h2, h3, h4⟩ := S.ol hi
    refine ⟨.ref ad, h1, .inl ⟨rfl, vs, .inl (.inl h3)⟩, he O fp σ H S _ fun v H1 e1 r1 => ⟨ad, vs, v, rfl, rfl, e1 ad _ h3, ?_, ?_⟩⟩
    · rw [Paired.length h4]
      exact Nat.lt_of_lt_of_le hz (by decide)
    · have S1 := S.ex e1
      refine q fp σ _ ((Keep.ex e1).trans (Keep.mut ⟨i, by rw [h2]; exact List.mem_singleton.mpr rfl⟩)) (S1.mut hi h2 fun v' hv' => ?_)
      rw [h1] at hv'
      cases hv'
      exact ⟨ad, vs ++ [v], rfl, rfl, upd_same, Paired.app (h4.mono (wo_ex e1).le) r1⟩) h
/-- d[k] = e -/
theorem sx_dput {i : Nat} {st : Stmt} {d : Dc α} {k : Str} (ps : PS X st (sDPut (tVar i) (tE X a) (tE X e))) (hi : env[i]? = some (.own (OD.mk d))) (he : EX X e env x) (hk : EX X a env k) (hz : d.kvs.length < 100000) (h : SX X W rest (env.set i (.own (OD.mk (d.put k x)))) po) : SX X W (st :: rest) env po :=
  sx_step ps (fun O fp σ H S D q => he O fp σ H S _ fun v H1 e1 r1 => by
    have S1 := S.ex e1
    obtain ⟨ad, ws, h1, h2, h3, h4⟩ := S1.od hi
    refine ⟨.ref ad, h1, hk O fp σ H1 S1 _ fun u H2 e2 r2 => ?_⟩
    have S2 := S1.ex e2
    have r2 : u = .str k := r2
    subst r2
    refine ⟨ad, _, rfl, DPut.k (k := .inr k) (e2 ad _ h3) ?_, ?_⟩
    · rw [Paired.length h4]
      exact Nat.lt_of_lt_of_le hz (by decide)
    · refine q fp σ _ ((Keep.ex (e1.trans e2)).trans (Keep.mut ⟨i, by rw [h2]; exact List.mem_singleton.mpr rfl⟩)) (S2.mut hi h2 fun v' hv' => ?_)
      rw [h1] at hv'
      cases hv'
      exact ⟨ad, _, rfl, rfl, upd_same, (h4.mono (wo_ex e2).le).put k (Dat.mono (wo_ex e2).le r1)⟩) h
/-! ### dicts read -/
theorem ev_path {O : Addr → Prop} {fp : Nat → List Addr} {σ : L2.St} {H : Hp} (S : SOk X.K O fp env σ H) : True := trivial
/-- d[k] -/
theorem ex_dget {d : Dc α} {k : Str} (hu : X.A.units + 1 < cLine) (ho : EX X o env d) (hk : EX X a env k) (g : d.look k = some x) (hs : NoSl a := by exact fun _ _ => rfl) : EX X (.Subscript o a pos) env x :=
  ex_of (pe_dget hu (mE X o) (mE X a) hs) fun O fp σ H S Q q => ho O fp σ H S _ fun v1 H1 e1 r1 => hk O fp σ H1 (S.ex e1) _ fun v2 H2 e2 r2 => by
    obtain ⟨ad, ws, h1, h2, h3⟩ := Dat.mono (wo_ex e2).le r1
    have r2 : v2 = .str k := r2
    subst h1 r2
    rcases h3.look k with ⟨_, n⟩ | ⟨v, x', hv, hx, rx⟩
    · unfold Dc.look at g; rw [n] at g; cases g
    · unfold Dc.look at g
      rw [g] at hx
      cases hx
      exact ⟨ad, v, rfl, .inl ⟨ws, .inr k, wo_le _ _ trivial h2, rfl, hv.symm⟩, q v H2 (e1.trans e2) rx⟩
theorem ex_dgetD {d : Dc α} {k : Str} {x0 : α} (hu : X.A.units + 1 < cLine) (ho : EX X o env d) (hk : EX X a env k) (g : (d.look k).isSome = true) (hs : NoSl a := by exact fun _ _ => rfl) : EX X (.Subscript o a pos) env ((d.look k).getD x0) := ex_dget hu ho hk (by
  cases h : d.look k with
  | none => rw [h] at g; cases g
  | some y => rfl) hs
/-- d.get(k, e) -/
theorem ex_dget2 {d : Dc α} {k : Str} (hu : X.A.units + 1 < cLine) (ho : EX X o env d) (hk : EX X a env k) (he : EX X e env x) (m : M2 X o "get" apos a e cpos) : EX X (.Call (.Attribute o "get" apos) [a, e] [] cpos) env ((d.look k).getD x) :=
  ex_of (pe_dget2 hu (mE X o) (mE X a) (mE X e) m) fun O fp σ H S Q q => ho O fp σ H S _ fun v1 H1 e1 r1 => by
    obtain ⟨ad, ws, h1, h2, h3⟩ := r1
    subst h1
    refine ⟨ad, rfl, .inl ⟨ws, wo_le _ _ trivial h2⟩, hk O fp σ H1 (S.ex e1) _ fun v2 H2 e2 r2 => he O fp σ H2 ((S.ex e1).ex e2) _ fun v3 H3 e3 r3 => ?_⟩
    have r2 : v2 = .str k := r2
    subst r2
    have e23 := e2.trans e3
    have h2' := (wo_ex (U := UU O fp) e23).le _ _ (show Pl (.dK ws) from trivial) h2
    have h3' := h3.mono (wo_ex (U := UU O fp) e23).le
    refine ⟨valV ws (.inr k), .inl ⟨ws, .inr k, wo_le _ _ trivial h2', rfl, rfl⟩, q _ H3 ((e1.trans e2).trans e3) ?_⟩
    rcases h3'.look k with ⟨n1, n2⟩ | ⟨v, x', hv, hx, rx⟩
    · unfold Dc.look; rw [n1, n2]; exact r3
    · unfold Dc.look; rw [hv, hx]; exact rx
theorem ex_din {d : Dc α} {k : Str} (hu : X.A.units + 1 < cLine) (hk : EX X a env k) (ho : EX X o env d) (hm : behindInMarks .In o = false := by rfl) : EX X (.Compare a [.In] [o] pos) env (d.has k) :=
  ex_of (pe_cmp (pc_din hu (mE X a) (mE X o)) hm) fun O fp σ H S Q q => hk O fp σ H S _ fun v2 H1 e1 r2 => ho O fp σ H1 (S.ex e1) _ fun v1 H2 e2 r1 => by
    obtain ⟨ad, ws, h1, h2, h3⟩ := r1
    have r2 : v2 = .str k := r2
    subst h1 r2
    refine ⟨ad, valV ws (.inr k), rfl, .inl ⟨ws, .inr k, wo_le _ _ trivial h2, rfl, rfl⟩, q _ H2 (e1.trans e2) ?_⟩
    show V.bl _ = V.bl _
    unfold Dc.has
    rcases h3.look k with ⟨n1, n2⟩ | ⟨v, x', hv, hx, rx⟩
    · rw [n1, n2]; rfl
    · rw [hv, hx]; rfl
theorem ex_dnotin {d : Dc α} {k : Str} (hu : X.A.units + 1 < cLine) (hk : EX X a env k) (ho : EX X o env d) (hm : behindInMarks .NotIn o = false := by rfl) : EX X (.Compare a [.NotIn] [o] pos) env (!d.has k) :=
  ex_of (pe_cmp (pc_dnotin hu (mE X a) (mE X o)) hm) fun O fp σ H S Q q => hk O fp σ H S _ fun v2 H1 e1 r2 => ho O fp σ H1 (S.ex e1) _ fun v1 H2 e2 r1 => by
    obtain ⟨ad, ws, h1, h2, h3⟩ := r1
    have r2 : v2 = .str k := r2
    subst h1 r2
    refine ⟨ad, valV ws (.inr k), rfl, .inl ⟨ws, .inr k, wo_le _ _ trivial h2, rfl, rfl⟩, q _ H2 (e1.trans e2) ?_⟩
    show V.bl _ = V.bl _
    unfold Dc.has
    rcases h3.look k with ⟨n1, n2⟩ | ⟨v, x', hv, hx, rx⟩
    · rw [n1, n2]; rfl
    · rw [hv, hx]; rfl
theorem call_lenD' : CallR X (.builtin "len") (fun xs H Q => ∃ a kvs, xs = [V.ref a] ∧ Rd H a (.dK kvs) ∧ Q (.int kvs.length) H) := by
  intro pins s σ H xs us Q I r h
  obtain ⟨a, kvs, rfl, ha, q⟩ := h
  obtain ⟨u, rfl, ru⟩ := vals1 r
  cases ru
  exact d_len I ha fun t s' I' => ⟨.int kvs.length, H, I', ⟨t, rfl⟩, q⟩
theorem ex_lenD {d : Dc α} (hm : X.mg "len" = none) (h : EX X a env d) (he : starEach [a] X.env = (false, eval a X.env) :: starEach [] X.env := by rfl) (hpl : (backTo pos (starEach [] X.env)).any (·.1) = false := by rfl) (hg : Gl X "len" := by rfl) : EX X (.Call (.Name "len" p) [a] [] pos) env (d.kvs.length : Int) :=
  ex_callB call_lenD' hm PySem.boot_len (ea1 h he) (rc1 fun U v H bn r Q q => by
    obtain ⟨ad, ws, e, l, rl⟩ := r
    exact ⟨ad, ws, by rw [e], wo_le _ _ trivial l, q _ H (Ex.refl H) (show V.int _ = V.int _ by rw [Paired.length rl])⟩) hg (by decide) (by decide) he hpl
/-- a call of a built-in class that makes something new -/
theorem en_callTy {β : Type} [Own β] {y : β} {id : String} {n : Str} {r : List V → Hp → VK → Prop} {ys : List Sl} (hc : CallR X (.type id) r) (hm : X.mg n = none) (hv : bootBuiltins n = some (.type id)) (ha : EA X (e :: es) env ys)
    (hr : ∀ (U : Addr → Prop) (vs : List V) (H : Hp), (∀ a, U a → ∃ o, H a = some o) → ARep X.K (wo H U) vs ys → ∀ Q : VK, (∀ v L H', Ex H H' → (∀ a ∈ L, H a = none) → (∀ a ∈ L, ∃ o, H' a = some o) → (∀ Hf, Le (wo H' (fun a => U a ∨ a ∈ L)) Hf → Own.own X.K Hf H' v L y) → Q v H') → r vs H Q)
    (hg : Gl X n) (hn : n ≠ "__name__") (hdb : (n == ("__debug__" : Str)) = false) (he : starEach (e :: es) X.env = (false, eval e X.env) :: starEach es X.env) (hpl : (backTo pos (starEach es X.env)).any (·.1) = false) : EN X (.Call (.Name n p) (e :: es) [] pos) env y := by
  intro O fp σ H S Q q pins s I
  refine (pe_callTy hc hg hm hv (mA X _) hn hdb he hpl).run pins s σ H Q I ?_
  refine ha O fp σ H S _ fun vs H1 e1 ar => ?_
  exact hr (UU O fp) vs H1 (S.ex e1).bndU ar Q fun v L H' e2 hL hd ow => q v L H' (e1.trans e2) (fun b hb => e1.free (hL b hb)) hd ow
theorem en_callTy1 {β : Type} [Own β] {y : β} {id : String} {n : Str} {r : List V → Hp → VK → Prop} (hc : CallR X (.type id) r) (hm : X.mg n = none) (hv : bootBuiltins n = some (.type id)) (ha : EX X e env x)
    (hr : ∀ (U : Addr → Prop) (v : V) (H : Hp), Dat.rep X.K (wo H U) v x → ∀ Q : VK, (∀ v L H', Ex H H' → (∀ a ∈ L, H a = none) → (∀ a ∈ L, ∃ o, H' a = some o) → (∀ Hf, Le (wo H' (fun a => U a ∨ a ∈ L)) Hf → Own.own X.K Hf H' v L y) → Q v H') → r [v] H Q)
    (hg : Gl X n) (hn : n ≠ "__name__") (hdb : (n == ("__debug__" : Str)) = false) (he : starEach [e] X.env = (false, eval e X.env) :: starEach [] X.env) (hpl : (backTo pos (starEach [] X.env)).any (·.1) = false) : EN X (.Call (.Name n p) [e] [] pos) env y :=
  en_callTy hc hm hv (ea1 ha he) (fun U vs H bn ar Q q => by
    match vs, ar with
    | [v], ⟨r1, _⟩ => exact hr U v H r1 Q q) hg hn hdb he hpl
theorem le_new {H : Hp} {U : Addr → Prop} {u : Addr} {ob : HO} (hu : H u = none) : Le (wo H U) (wo (upd H u ob) (fun a => U a ∨ a ∈ [u])) := Ex.le fun b o hb => by
  obtain ⟨n, hb⟩ := wo_some hb
  have nb : b ≠ u := ne_of_none hb hu
  rw [wo_out fun z => z.elim n fun m => nb (List.mem_singleton.mp m), upd_ne nb]
  exact hb
/-- dict(d), one's own copy; as data -/
theorem en_dictD {d : Dc α} (hm : X.mg "dict" = none) (h : EX X a env d) (he : starEach [a] X.env = (false, eval a X.env) :: starEach [] X.env := by rfl) (hpl : (backTo pos (starEach [] X.env)).any (·.1) = false := by rfl) (hg : Gl X "dict" := by rfl) : EN X (.Call (.Name "dict" p) [a] [] pos) env (OD.mk d) :=
  en_callTy1 call_dictD hm (by decide +kernel) h (fun U v H r1 Q q => by
      obtain ⟨ad, ws, h1, h2, h3⟩ := r1
      refine ⟨ad, ws, by rw [h1], wo_le _ _ trivial h2, fun u hu => ?_⟩
      exact q (.ref u) [u] _ (Ex.new hu) (fun b hb => by rw [List.mem_singleton.mp hb]; exact hu) (fun b hb => by rw [List.mem_singleton.mp hb]; exact ⟨_, upd_same⟩) fun Hf le => ⟨u, ws, rfl, rfl, upd_same, h3.mono (Le.trans (le_new hu) le)⟩) hg (by decide) (by decide) he hpl
theorem ex_new {β : Type} [Own β] {x : β} (h : EN X e env x) (hf : ∀ K Hf H v L, Own.own K Hf H v L x → (∀ a ∈ L, Hf a = H a) → Dat.rep K Hf v y) : EX X e env y := fun O fp σ H S Q q => h O fp σ H S Q fun v L H' e1 hL hd ow => q v H' e1 (hf _ _ H' v L (ow _ (wo_mono fun a z => .inl z).le) fun a ha => wo_out fun z => by
  obtain ⟨o, q⟩ := S.bndU a z
  rw [hL a ha] at q
  cases q)
theorem ex_newL (h : EN X e env (OL.mk xs)) : EX X e env xs := ex_new h fun _ _ _ _ _ => own_frzL
theorem ex_newD {d : Dc α} (h : EN X e env (OD.mk d)) : EX X e env d := ex_new h fun _ _ _ _ _ => own_frzD
theorem ARep.all {K : PySem.W.Frag} {H : Hp} : ∀ {vs : List V} {ys : List α}, ARep K H vs (ys.map Sl.dat) → repL K H vs ys
  | [], [], _ => .nil
  | _ :: _, _ :: _, h => .cons h.1 (ARep.all h.2)
  | [], _ :: _, h => by simp [ARep] at h
  | _ :: _, [], h => by simp [ARep] at h
/-- [a, b, ..] -/
theorem en_lst (h : EA X es env (xs.map Sl.dat)) (hl : xs.length ≤ 100000 := by exact Nat.le_of_ble_eq_true rfl) : EN X (.List es pos) env (OL.mk xs) := by
  intro O fp σ H S Q q pins s I
  refine (pe_lst (mA X es)).run pins s σ H Q I ?_
  refine h O fp σ H S _ fun vs H1 e1 ar => ?_
  have rl := ARep.all ar
  refine ⟨sz_of (by rw [Paired.length rl]; exact hl), fun u hu => ?_⟩
  exact q (.ref u) [u] _ (e1.trans (Ex.new hu)) (fun b hb => by rw [List.mem_singleton.mp hb]; exact e1.free hu) (fun b hb => by rw [List.mem_singleton.mp hb]; exact ⟨_, upd_same⟩) fun Hf le => ⟨u, vs, rfl, rfl, upd_same, rl.mono (Le.trans (le_new hu) le)⟩
theorem ex_lst (h : EA X es env (xs.map Sl.dat)) (hl : xs.length ≤ 100000 := by exact Nat.le_of_ble_eq_true rfl) : EX X (.List es pos) env xs := ex_newL (en_lst h hl)
/-- list(xs) -/
theorem en_list (hm : X.mg "list" = none) (h : EX X a env xs) (he : starEach [a] X.env = (false, eval a X.env) :: starEach [] X.env := by rfl) (hpl : (backTo pos (starEach [] X.env)).any (·.1) = false := by rfl) (hg : Gl X "list" := by rfl) : EN X (.Call (.Name "list" p) [a] [] pos) env (OL.mk xs) :=
  en_callTy1 call_list_of hm (by decide +kernel) h (fun U v H r1 Q q => by
      obtain ⟨ad, ws, h1, h2, h3⟩ := r1
      refine ⟨ad, ws, by rw [h1], .inl (wo_le.lst h2), fun u hu => ?_⟩
      exact q (.ref u) [u] _ (Ex.new hu) (fun b hb => by rw [List.mem_singleton.mp hb]; exact hu) (fun b hb => by rw [List.mem_singleton.mp hb]; exact ⟨_, upd_same⟩) fun Hf le => ⟨u, ws, rfl, rfl, upd_same, h3.mono (Le.trans (le_new hu) le)⟩) hg (by decide) (by decide) he hpl
theorem ex_some (h : EX X e env x) : EX X e env (some x) := fun O fp σ H S Q q => h O fp σ H S Q fun v H' e1 r => q v H' e1 r
theorem ex_noneO (h : EX X e env ()) : EX X e env (none : Option α) := fun O fp σ H S Q q => h O fp σ H S Q fun v H' e1 r => q v H' e1 r
theorem ex_getO {m : Option α} {x0 : α} (h : EX X e env m) (g : m.isSome = true) : EX X e env (m.getD x0) := fun O fp σ H S Q q => h O fp σ H S Q fun v H' e1 r => q v H' e1 (by
  cases m with
  | none => cases g
  | some y => exact r)
end
end R
set_option maxHeartbeats 400000
set_option autoImplicit false
namespace R
open PySem PySem.Spec PyProof.Rows L2
/-! ### paths: expressions that lead to a thing that is there -/
def EPth {α : Type} [Dat α] (X : Cx) (e : Expr) (env : Env') (x : α) : Prop :=
  ∀ O fp σ H, SOk X.K O fp env σ H → ∃ v, Dat.rep X.K (wo H (UU O fp)) v x ∧ ∀ H1, Le H H1 → ∀ Q : VK, Q v H1 → tE X e σ H1 Q
section
variable {K : PySem.W.Frag} {O : Addr → Prop} {fp fp' : Nat → List Addr} {env : Env'} {σ : L2.St} {H H' : Hp}
theorem SOk.conv (S : SOk K O fp env σ H) (h1 : Le (wo H (UU O fp)) (wo H' (UU O fp))) (h2 : ∀ i a, a ∈ fp i → H' a = H a) (h3 : ∀ a o, H a = some o → ∃ o', H' a = some o') : SOk K O fp env σ H' where
  len := S.len
  bnd := fun a h => let ⟨o, q⟩ := S.bnd a h; h3 a o q
  fpO := S.fpO
  sep := S.sep
  dom := fun i a h => let ⟨o, q⟩ := S.dom i a h; h3 a o q
  sl := fun i s q => by
    have r := S.sl i s q
    cases s with
    | any => exact trivial
    | dat x =>
      obtain ⟨v, a, b⟩ := r
      exact ⟨v, a, Dat.mono h1 b⟩
    | own x =>
      obtain ⟨v, a, b⟩ := r
      exact ⟨v, a, Own.frame h1 (fun c hc => h2 i c hc) b⟩
theorem lock_le {a : Addr} {ws : List (Key × V)} {od : Obj} (h : H a = some (.dK ws)) : Le H (upd H a (.frz od (.dK ws))) := fun b w pl r => by
  by_cases e : b = a
  · subst e
    rcases r with r | ⟨o, r⟩
    · rw [h] at r; cases r; exact .inr ⟨od, upd_same⟩
    · rw [h] at r; cases r
  · rcases r with r | ⟨o, r⟩
    · exact .inl (by rw [upd_ne e]; exact r)
    · exact .inr ⟨o, by rw [upd_ne e]; exact r⟩
theorem unlock_le {a : Addr} {ws : List (Key × V)} {od : Obj} (h : H a = some (.frz od (.dK ws))) : Le H (upd H a (.dK ws)) := fun b w pl r => by
  by_cases e : b = a
  · subst e
    rcases r with r | ⟨o, r⟩
    · rw [h] at r; cases r; exact pl.elim
    · rw [h] at r; cases r; exact .inl upd_same
  · rcases r with r | ⟨o, r⟩
    · exact .inl (by rw [upd_ne e]; exact r)
    · exact .inr ⟨o, by rw [upd_ne e]; exact r⟩
theorem wo_upd_out {U : Addr → Prop} {a : Addr} {o : HO} (h : ¬ U a) : wo (upd H a o) U = upd (wo H U) a o := by
  funext b
  by_cases e : b = a
  · subst e; rw [upd_same, wo_out h, upd_same]
  · rw [upd_ne e]
    by_cases u : U b
    · rw [wo_in u, wo_in u]
    · rw [wo_out u, wo_out u, upd_ne e]
theorem SOk.lock (S : SOk K O fp env σ H) {a : Addr} {ws : List (Key × V)} {od : Obj} (h : wo H (UU O fp) a = some (.dK ws)) : SOk K O fp env σ (upd H a (.frz od (.dK ws))) := by
  obtain ⟨n, h'⟩ := wo_some h
  refine S.conv ?_ (fun i b hb => upd_ne fun e => n (.inr ⟨i, by rw [← e]; exact hb⟩)) fun b o q => ?_
  · rw [wo_upd_out n]; exact lock_le h
  · by_cases e : b = a
    · subst e; exact ⟨_, upd_same⟩
    · exact ⟨o, by rw [upd_ne e]; exact q⟩
theorem SOk.unlock (S : SOk K O fp env σ H) {a : Addr} {ws : List (Key × V)} {od : Obj} (h : H a = some (.frz od (.dK ws))) (n : ¬ UU O fp a) : SOk K O fp env σ (upd H a (.dK ws)) := by
  refine S.conv ?_ (fun i b hb => upd_ne fun e => n (.inr ⟨i, by rw [← e]; exact hb⟩)) fun b o q => ?_
  · rw [wo_upd_out n]; exact unlock_le (by rw [wo_out n]; exact h)
  · by_cases e : b = a
    · subst e; exact ⟨_, upd_same⟩
    · exact ⟨o, by rw [upd_ne e]; exact q⟩
end
section
variable {X : Cx} {W : WX} {env env' : Env'} {ρ α β γ : Type} [Res ρ] [Dat α] [Dat β] [Dat γ] {po : Po ρ} {x : α} {y : β} {z : γ} {e a b c tg iter o : Expr} {es : List Expr} {pos p p2 pc p3 apos cpos : Pos} {rest body : List Stmt} {xs : List α}
theorem ep_var {i : Nat} {n : Str} {pos : Pos} (h : env[i]? = some (Sl.dat x)) (hN : X.N[i]? = some n := by rfl) (hv : Vis X.env.scope n := by first | exact Or.inl rfl | exact Or.inr (Or.inl rfl) | exact Or.inr (Or.inr rfl)) (hd : (n == ("__debug__" : Str)) = false := by decide) (hc : (n == ("__classdict__" : Str)) = false := by decide) : EPth X (.Name n pos) env x := fun O fp σ H S => by
  obtain ⟨v, h1, h2⟩ := S.sl i _ h
  exact ⟨v, h2, fun H1 le Q q pins s I => (pe_var hN hv hd hc).run pins s σ H1 Q I ⟨v, h1, q⟩⟩
theorem ep_ixT {τ : Type} [Dat τ] [T : Tup τ] {p : τ} {k j : Nat} {pos' : Pos} (h : EPth X a env p) (g : (T.comps p)[k]? = some (.dat x)) : EPth X (.Subscript a (.Constant (.int (k : Int)) j pos') pos) env x := fun O fp σ H S => by
  obtain ⟨v, h1, h2⟩ := h O fp σ H S
  rw [T.is] at h1
  obtain ⟨ad, vs, e, t, r⟩ := h1
  obtain ⟨u, hu, ru⟩ := r.get g
  refine ⟨u, ru, fun H1 le Q q pins s I => (pe_ix ix_tup (mE X a) pe_int (fun _ _ => rfl)).run pins s σ H1 Q I ?_⟩
  exact h2 H1 le _ ⟨ad, vs, k, u, e, rfl, le.tup (wo_le.tup t), atI_nat hu, q⟩
/-- a loop over what a dict has: J its turns, xs what they give -/
theorem sx_forD {S : Type} {δ : Type} [Dat δ] {d : Dc δ} (u : S → Env') (I : List α → S → Prop) (s0 : S) (J : Addr → Obj → List (Key × V) → It) (wi : TI) (hc : X.calm = true) (hp : PassesOwn (model X.prog X.w) X.A X.env X.xe) (hPI : PI X tg iter wi)
    (hw : ∀ σ H1 ad od ws (R : It → Hp → Prop), H1 ad = some (.frz od (.dK ws)) → (∀ Q : VK, Q (.ref ad) H1 → tE X e σ H1 Q) → R (J ad od ws) H1 → wi σ H1 R)
    (hy : ∀ U H1 ad od ws, wo H1 U ad = some (.frz od (.dK ws)) → repD X.K (wo H1 U) ws d.kvs → Yields X.K (J ad od ws) U H1 xs)
    (he : EPth X e env d) (h0 : Sub env (u s0)) (hI : I xs s0)
    (hb : ∀ x r s, I (x :: r) s → ∃ e1, GX X tg x (u s) e1 ∧ SX X W body e1 { po with N := fun e => ∃ s', Sub e (u s') ∧ I r s', C := fun e => ∃ s', Sub e (u s') ∧ I r s', B := fun e => ∃ s', Sub e (u s') ∧ I [] s', X := fun _ _ => False })
    (hd : ∀ s, I [] s → SX X W rest (u s) po) (hs : ∀ x, foldedSetIterable iter X.env x = pure x := by intro _; rfl) : SX X W (.For tg iter body [] pos :: rest) env po :=
  sx_cons (fun e => ∃ s, Sub e (u s) ∧ I [] s) (fun O fp σ H S' D G => by
    intro pins s In
    obtain ⟨v, ⟨ad, ws, rfl, rd, rl⟩, hpth⟩ := he O fp σ H S'
    have key : ∀ (H1 : Hp) (od : Obj) (D1 : Ends), Le H H1 → H1 ad = some (.frz od (.dK ws)) → SOk X.K O fp env σ H1 → wo H1 (UU O fp) ad = some (.frz od (.dK ws)) → repD X.K (wo H1 (UU O fp)) ws d.kvs → Goes X.K X.mg W { po with N := fun e => (∃ s, Sub e (u s) ∧ I [] s) ∨ ∃ s, Sub e (u s) ∧ I [] s, X := fun _ _ => False } O fp H1 D1 →
        tFor (tI X tg iter) (tG X tg) (tSs X body) D1 σ H1 := fun H1 od D1 le hl S1 hv hr G1 =>
      for_core (po := { po with X := fun _ _ => False }) u I (fun e => ∃ s, Sub e (u s) ∧ I [] s) s0 S1 (fun R r pins s In => hPI.run pins s σ H1 R In (hw σ H1 ad od ws R hl (fun Q q => hpth H1 le Q q) (r _ H1 (Ex.refl _) (hy _ H1 ad od ws hv hr)))) h0 hI hb G1
    have pf := ps_for (pos := pos) hp hc (mI X tg iter) (mG X tg) (mSs X body) hs
    rcases rd with rd | ⟨od, rd⟩
    · obtain ⟨n, rd'⟩ := wo_some rd
      refine (ps_lock pf).run pins s σ H D In ⟨ad, .dK ws, rd', trivial, fun od => ?_⟩
      refine key _ od _ (lock_le rd') upd_same (S'.lock rd) (by rw [wo_out n, upd_same]) (rl.mono (by rw [wo_upd_out n]; exact lock_le rd)) ?_
      have nf : ¬ ∃ i, ad ∈ fp i := fun z => n (.inr z)
      have un : ∀ {fp' : Nat → List Addr} {H' : Hp}, Keep fp (upd H ad (.frz od (.dK ws))) fp' H' → H' ad = some (.frz od (.dK ws)) ∧ Keep fp H fp' (upd H' ad (.dK ws)) ∧ ¬ UU O fp' ad := fun {fp' H'} kp => by
        have h1 := kp.1 ad _ nf upd_same
        refine ⟨h1, ⟨fun b o nb q => ?_, fun i b hb => ?_⟩, ?_⟩
        · by_cases e : b = ad
          · subst e; rw [rd'] at q; cases q; exact upd_same
          · rw [upd_ne e]
            exact kp.1 b o nb (by rw [upd_ne e]; exact q)
        · rcases kp.2 i b hb with z | z
          · exact .inl z
          · refine .inr ?_
            have e : b ≠ ad := fun e => by subst e; rw [upd_same] at z; cases z
            rw [upd_ne e] at z
            exact z
        · rintro (z | ⟨i, z⟩)
          · exact n (.inl z)
          · rcases kp.2 i ad z with y | y
            · exact nf y
            · rw [upd_same] at y; cases y
      refine ⟨fun e' f s2 h m k q => ?_, fun r e' f s2 v h m k q rp => ?_, fun _ _ _ _ _ _ _ m => m.elim, fun e' f s2 h m k q => ?_, fun e' f s2 h m k q => ?_⟩
      · obtain ⟨a1, a2, a3⟩ := un k
        exact ⟨a1, G.nx e' f s2 _ (m.elim id id) a2 (q.unlock a1 a3)⟩
      · obtain ⟨a1, a2, a3⟩ := un k
        refine ⟨a1, G.rt r e' f s2 v _ m a2 (q.unlock a1 a3) (Res.mono ?_ (fun b hb => upd_ne fun e => a3 (.inr (e ▸ hb))) rp)⟩
        rw [wo_upd_out a3]
        exact unlock_le (by rw [wo_out a3]; exact a1)
      · obtain ⟨a1, a2, a3⟩ := un k
        exact ⟨a1, G.bk e' f s2 _ m a2 (q.unlock a1 a3)⟩
      · obtain ⟨a1, a2, a3⟩ := un k
        exact ⟨a1, G.ct e' f s2 _ m a2 (q.unlock a1 a3)⟩
    · obtain ⟨n, rd'⟩ := wo_some rd
      refine pf.run pins s σ H D In (key H od D (Le.refl H) rd' S' rd rl ⟨fun e' f s2 h m k q => G.nx e' f s2 h (m.elim id id) k q, G.rt, fun _ _ _ _ _ _ _ m => m.elim, G.bk, G.ct⟩)) fun e ⟨s, h, q⟩ => sx_sub h (hd s q)
theorem repD.get {δ : Type} [Dat δ] {K : PySem.W.Frag} {H : Hp} : ∀ {ws : List (Key × V)} {kvs : List (Str × δ)} {i : Nat} {k : Str} {x : δ}, repD K H ws kvs → kvs[i]? = some (k, x) → ∃ v, ws[i]? = some (.inr k, v) ∧ Dat.rep K H v x
  | _, _, i, k, x, .nil, q => by simp at q
  | (k1, v1) :: _, (k2, x2) :: _, 0, k, x, .cons h t, q => by
    have q : (k2, x2) = (k, x) := by simpa using q
    cases q
    obtain ⟨h1, h2⟩ := h
    have h1 : k1 = .inr k2 := h1
    subst h1
    exact ⟨v1, rfl, h2⟩
  | _, _, i + 1, k, x, .cons h t, q => by
    have := repD.get (i := i) (k := k) (x := x) t (by simpa using q)
    simpa using this
theorem yields_items {δ : Type} [Dat δ] {d : Dc δ} (K : PySem.W.Frag) : ∀ U H1 ad od ws, wo H1 U ad = some (.frz od (.dK ws)) → repD K (wo H1 U) ws d.kvs → Yields K (Iti ad od ws) U H1 d.kvs := fun U H1 ad od ws hv hr H' U' bn ex i => by
  have hl : H' ad = some (.frz od (.dK ws)) := (wo_some (ex ad _ hv)).2
  refine ⟨fun ⟨k, x⟩ hx => ?_, fun hi => ⟨hl, by rw [Paired.length hr]; exact hi⟩⟩
  obtain ⟨v, hv2, rv⟩ := hr.get hx
  refine ⟨⟨hl, (List.getElem?_eq_some_iff.mp hv2).1⟩, fun u H'' ⟨T, k', v', g, e1, e2, e3⟩ => ?_⟩
  rw [hv2] at g
  cases g
  subst e1 e3
  have n : ¬ U' T := fun z => by obtain ⟨o, q⟩ := bn T z; rw [e2] at q; cases q
  exact ⟨Ex.new e2, T, [_, _], rfl, .inl (.inl (upd_out n)), rfl, Dat.mono (ex.le.trans (wo_ex (Ex.new e2)).le) rv, trivial⟩
theorem yields_values {δ : Type} [Dat δ] {d : Dc δ} (K : PySem.W.Frag) : ∀ U H1 ad od ws, wo H1 U ad = some (.frz od (.dK ws)) → repD K (wo H1 U) ws d.kvs → Yields K (Itd ad od ws) U H1 (d.kvs.map (·.2)) := fun U H1 ad od ws hv hr H' U' bn ex i => by
  have hl : H' ad = some (.frz od (.dK ws)) := (wo_some (ex ad _ hv)).2
  refine ⟨fun x hx => ?_, fun hi => ⟨hl, by rw [Paired.length hr]; simpa using hi⟩⟩
  rw [List.getElem?_map] at hx
  cases hk : d.kvs[i]? with
  | none => rw [hk] at hx; cases hx
  | some kx =>
    obtain ⟨k, x'⟩ := kx
    rw [hk] at hx
    have hx : x' = x := by simpa using hx
    subst hx
    obtain ⟨v, hv2, rv⟩ := hr.get hk
    refine ⟨⟨hl, (List.getElem?_eq_some_iff.mp hv2).1⟩, fun u H'' ⟨e1, k', g⟩ => ?_⟩
    rw [hv2] at g
    cases g
    subst e1
    exact ⟨Ex.refl _, Dat.mono ex.le rv⟩
theorem yields_keys {δ : Type} [Dat δ] {d : Dc δ} (K : PySem.W.Frag) : ∀ U H1 ad od ws, wo H1 U ad = some (.frz od (.dK ws)) → repD K (wo H1 U) ws d.kvs → Yields K (Itk ad od ws) U H1 (d.kvs.map (·.1)) := fun U H1 ad od ws hv hr H' U' bn ex i => by
  have hl : H' ad = some (.frz od (.dK ws)) := (wo_some (ex ad _ hv)).2
  refine ⟨fun x hx => ?_, fun hi => ⟨hl, by rw [Paired.length hr]; simpa using hi⟩⟩
  rw [List.getElem?_map] at hx
  cases hk : d.kvs[i]? with
  | none => rw [hk] at hx; cases hx
  | some kx =>
    obtain ⟨k, x'⟩ := kx
    rw [hk] at hx
    have hx : k = x := by simpa using hx
    subst hx
    obtain ⟨v, hv2, rv⟩ := hr.get hk
    refine ⟨⟨hl, (List.getElem?_eq_some_iff.mp hv2).1⟩, fun u H'' ⟨e1, k', v', g, e2⟩ => ?_⟩
    rw [hv2] at g
    cases g
    subst e1 e2
    exact ⟨Ex.refl _, rfl⟩
theorem hw_items : ∀ σ H1 ad od ws (R : It → Hp → Prop), H1 ad = some (.frz od (.dK ws)) → (∀ Q : VK, Q (.ref ad) H1 → tE X e σ H1 Q) → R (Iti ad od ws) H1 → iItems (tE X e) σ H1 R := fun σ H1 ad od ws R hl hp r => hp _ ⟨ad, od, ws, rfl, hl, r⟩
theorem hw_values : ∀ σ H1 ad od ws (R : It → Hp → Prop), H1 ad = some (.frz od (.dK ws)) → (∀ Q : VK, Q (.ref ad) H1 → tE X e σ H1 Q) → R (Itd ad od ws) H1 → iVals (tE X e) σ H1 R := fun σ H1 ad od ws R hl hp r => hp _ ⟨ad, od, ws, rfl, hl, r⟩
theorem hw_keys : ∀ σ H1 ad od ws (R : It → Hp → Prop), H1 ad = some (.frz od (.dK ws)) → (∀ Q : VK, Q (.ref ad) H1 → tE X e σ H1 Q) → R (Itk ad od ws) H1 → iKeys (tE X e) σ H1 R := fun σ H1 ad od ws R hl hp r => hp _ ⟨ad, od, rfl, .inl ⟨ws, hl, r⟩⟩
theorem hw_keysM : ∀ σ H1 ad od ws (R : It → Hp → Prop), H1 ad = some (.frz od (.dK ws)) → (∀ Q : VK, Q (.ref ad) H1 → tE X e σ H1 Q) → R (Itk ad od ws) H1 → iKeysM (tE X e) σ H1 R := fun σ H1 ad od ws R hl hp r => hp _ ⟨ad, od, ws, rfl, hl, r⟩
theorem sx_forDF' {S : Type} {δ : Type} [Dat δ] {d : Dc δ} (uu : S → Env' → Env') (step : S → α → S) (okb : S → α → Prop) (s0 : S) {J : Addr → Obj → List (Key × V) → It} {wi : TI} (hc : X.calm = true) (hp : PassesOwn (model X.prog X.w) X.A X.env X.xe) (hPI : PI X tg iter wi)
    (hw : ∀ σ H1 ad od ws (R : It → Hp → Prop), H1 ad = some (.frz od (.dK ws)) → (∀ Q : VK, Q (.ref ad) H1 → tE X e σ H1 Q) → R (J ad od ws) H1 → wi σ H1 R)
    (hy : ∀ U H1 ad od ws, wo H1 U ad = some (.frz od (.dK ws)) → repD X.K (wo H1 U) ws d.kvs → Yields X.K (J ad od ws) U H1 xs)
    (he : EPth X e env d) (h0 : Sub env (uu s0 env)) (hk : okFold okb step s0 xs)
    (hb : ∀ x s, okb s x → ∃ e1, GX X tg x (uu s env) e1 ∧ SX X W body e1 { po with N := fun e => Sub e (uu (step s x) env), C := fun e => Sub e (uu (step s x) env), B := fun _ => False, X := fun _ _ => False })
    (hd : SX X W rest (uu (xs.foldl step s0) env) po) (hs : ∀ x, foldedSetIterable iter X.env x = pure x := by intro _; rfl) : SX X W (.For tg iter body [] pos :: rest) env po :=
  sx_forD (fun s => uu s env) (fun r s => okFold okb step s r ∧ r.foldl step s = xs.foldl step s0) s0 J wi hc hp hPI hw hy he h0 ⟨hk, rfl⟩ (fun x r s ⟨⟨h1, h2⟩, h3⟩ => by
    obtain ⟨e1, g, b⟩ := hb x s h1
    exact ⟨e1, g, b.imp (fun e h => ⟨step s x, h, h2, h3⟩) (fun _ _ h => h) (fun _ _ h => h) (fun _ h => h.elim) (fun e h => ⟨step s x, h, h2, h3⟩)⟩) (fun s ⟨_, h⟩ => by
    have h : s = xs.foldl step s0 := h
    subst h
    exact hd) hs
theorem sx_forDR' {S T : Type} {δ : Type} [Dat δ] {d : Dc δ} (uu : S → Env' → Env') (step : S → α → Stp S T) (okb : S → α → Prop) (s0 : S) {J : Addr → Obj → List (Key × V) → It} {wi : TI} (hc : X.calm = true) (hp : PassesOwn (model X.prog X.w) X.A X.env X.xe) (hPI : PI X tg iter wi)
    (hw : ∀ σ H1 ad od ws (R : It → Hp → Prop), H1 ad = some (.frz od (.dK ws)) → (∀ Q : VK, Q (.ref ad) H1 → tE X e σ H1 Q) → R (J ad od ws) H1 → wi σ H1 R)
    (hy : ∀ U H1 ad od ws, wo H1 U ad = some (.frz od (.dK ws)) → repD X.K (wo H1 U) ws d.kvs → Yields X.K (J ad od ws) U H1 xs)
    (he : EPth X e env d) (h0 : Sub env (uu s0 env)) (hk : okRun okb step s0 xs)
    (hb : ∀ x r s, okb s x → (runL step s (x :: r) = runL step s0 xs) → ∃ e1, GX X tg x (uu s env) e1 ∧ SX X W body e1 { po with N := fun e => ∃ s', step s x = .go s' ∧ Sub e (uu s' env), C := fun e => ∃ s', step s x = .go s' ∧ Sub e (uu s' env), B := fun _ => False, X := fun _ _ => False })
    (hd : ∀ s, (runL step s0 xs = .go s ∨ runL step s0 xs = .brk s) → SX X W rest (uu s env) po) (hs : ∀ x, foldedSetIterable iter X.env x = pure x := by intro _; rfl) : SX X W (.For tg iter body [] pos :: rest) env po :=
  sx_forD (fun s => uu s env) (fun r s => okRun okb step s r ∧ runL step s r = runL step s0 xs) s0 J wi hc hp hPI hw hy he h0 ⟨hk, rfl⟩ (fun x r s ⟨⟨h1, h2⟩, h3⟩ => by
    obtain ⟨e1, g, b⟩ := hb x r s h1 h3
    have go : ∀ e, (∃ s', step s x = .go s' ∧ Sub e (uu s' env)) → ∃ s', Sub e (uu s' env) ∧ okRun okb step s' r ∧ runL step s' r = runL step s0 xs := fun e ⟨s', q, sb⟩ => by
      rw [q] at h2
      have h4 : runL step s (x :: r) = runL step s' r := by
        show (match step s x with | .go s' => runL step s' r | .brk s' => .brk s' | .ret r => .ret r) = _
        rw [q]
      exact ⟨s', sb, h2, h4.symm.trans h3⟩
    exact ⟨e1, g, b.imp go (fun _ _ h => h) (fun _ _ h => h) (fun _ h => h.elim) go⟩) (fun s ⟨_, h⟩ => hd s (.inl h.symm)) hs
/-! ### try -/
def tryV {S : Type} (b : Except Exn S) (h : Exn → S) : S := match b with | .ok s => s | .error e => h e
theorem tryV_ok {S : Type} {b : Except Exn S} {h : Exn → S} {s : S} (q : b = .ok s) : tryV b h = s := by subst q; rfl
theorem tryV_err {S : Type} {b : Except Exn S} {h : Exn → S} {e : Exn} (q : b = .error e) : tryV b h = h e := by subst q; rfl
def exnIn (l : List Str) : Exn → Bool
  | .one c => l.contains c
  | .clash _ _ => l.contains ("Clash" : Str)
  | .stuck _ _ _ => l.contains ("Stuck" : Str)
/-- a clause's class: which of the known errors it takes -/
structure CatC (K : PySem.W.Frag) (mg : Str → Option Value) (all some' : List Str) (x : Str) : Prop where
  ex : ∃ cv, mg x = some cv ∧ ∀ e Hf cls d, exnIn all e = true → ExAt mg K Hf e cls d → PySem.W.exmOne K cls cv = some (exnIn some' e)
/-- the class of an error as the clause's class takes it -/
theorem sx_tryO {x : Str} {cv : Value} {np ps' : Pos} {b0 : Stmt} {suite : List Stmt} (M : Env' → Prop) (Xb : Exn → Env' → Prop) (cat : Exn → Bool) (hs : X.stack = X.env :: X.outer) (hf : X.env.frame = some X.env.locals) (hc : Names X x cv) (tk : Takes X W)
    (hb : ∀ (W' : WX) (pn : List (Addr × Obj)) (xe : Value → Shared → Prop), Takes (X.tr pn xe) W' → PassesOwn (model X.prog X.w) X.A X.env xe → SX (X.tr pn xe) W' body env { po with N := M, X := Xb })
    (hk : ∀ e env', Xb e env' → ∀ Hf cls d, ExAt X.mg X.K Hf e cls d → PySem.W.exmOne X.K cls cv = some (cat e))
    (hsu : ∀ e env', Xb e env' → cat e = true → ∀ (ad : Addr) (oe : Obj) (cls : Value) (d : Option Addr) (pn : List (Addr × Obj)), Zc cls d oe → (∃ vs, oe.data = .fields vs) → SX (X.suite ad ((ad, oe) :: pn)) W (b0 :: suite) env' { po with N := M })
    (hn : ∀ e env', Xb e env' → cat e = false → po.X e env') (hr : ∀ e, M e → SX X W rest e po) : SX X W (.Try body [.ExceptHandler (some (.Name x np)) none (b0 :: suite) ps'] [] [] pos :: rest) env po :=
  sx_cons M (s1_of (ps_try_only (tb := fun W' D σ H => ∀ pn xe, Takes (X.tr pn xe) W' → PassesOwn (model X.prog X.w) X.A X.env xe → tSs (X.tr pn xe) body D σ H) (ts := fun ad cls d D σ H => ∀ oe pn, Zc cls d oe → (∃ vs, oe.data = .fields vs) → tSs (X.suite ad ((ad, oe) :: pn)) (b0 :: suite) D σ H) hs hf hc tk
    (fun W' pn xe t q => ⟨fun pins s σ H D I h => h pn xe t q pins s I⟩) (fun ad oe cls d pn hz hfd => ⟨fun pins s σ H D I h => h oe pn hz hfd pins s I⟩)) fun O fp σ H S D G => fun pn xe t q => hb _ pn xe t q O fp σ H S D ⟨G.nx, G.rt, fun e env' fp' σ' cls d H' hx kp S' xa => by
      refine ⟨cat e, hk e env' hx _ cls d xa, fun hce ad ha oe pn hz hfd => ?_, fun hce => G.ex e env' fp' σ' cls d H' (hn e env' hx hce) kp S' xa⟩
      exact hsu e env' hx hce ad oe cls d pn hz hfd O fp' σ' H' S' D (G.step kp), G.bk, G.ct⟩) hr
/-- try: .. except X: .. in a def where all that is raised is caught -/
theorem sx_tryO' {S : Type} {x : Str} {np ps' : Pos} {b0 : Stmt} {suite : List Stmt} {all some' : List Str} (uu : S → Env' → Env') (m : Except Exn S) (h : Exn → S) (hs : X.stack = X.env :: X.outer) (hf : X.env.frame = some X.env.locals) (cc : CatC X.K X.mg all some' x) (tk : Takes X W)
    (hv : ∀ e, m = .error e → exnIn all e = true ∧ exnIn some' e = true)
    (hb : ∀ (W' : WX) (pn : List (Addr × Obj)) (xe : Value → Shared → Prop), Takes (X.tr pn xe) W' → PassesOwn (model X.prog X.w) X.A X.env xe → SX (X.tr pn xe) W' body env { po with N := fun e => ∃ s, m = .ok s ∧ Sub e (uu s env), X := fun e env' => m = .error e ∧ env' = env })
    (hsu : ∀ e, m = .error e → ∀ (ad : Addr) (oe : Obj) (cls : Value) (d : Option Addr) (pn : List (Addr × Obj)), Zc cls d oe → (∃ vs, oe.data = .fields vs) → SX (X.suite ad ((ad, oe) :: pn)) W (b0 :: suite) env { po with N := fun e' => Sub e' (uu (h e) env) })
    (hr : SX X W rest (uu (tryV m h) env) po) (hg : Gl X x := by rfl) (hdb : (x == ("__debug__" : Str)) = false := by decide) : SX X W (.Try body [.ExceptHandler (some (.Name x np)) none (b0 :: suite) ps'] [] [] pos :: rest) env po := by
  obtain ⟨cv, hm, hx⟩ := cc.ex
  refine sx_tryO (fun e => Sub e (uu (tryV m h) env)) (fun e env' => m = .error e ∧ env' = env) (exnIn some') hs hf ⟨hg, hdb, .inl hm⟩ tk (fun W' pn xe t q => (hb W' pn xe t q).imp (fun e ⟨s, h1, h2⟩ => by rw [tryV_ok h1]; exact h2) (fun _ _ h => h) (fun _ _ h => h) (fun _ h => h) (fun _ h => h)) (fun e env' ⟨h1, _⟩ Hf cls d xa => hx e Hf cls d (hv e h1).1 xa) (fun e env' ⟨h1, h2⟩ _ ad oe cls d pn hz hfd => ?_) (fun e env' ⟨h1, _⟩ h2 => by rw [(hv e h1).2] at h2; cases h2) fun e h => sx_sub h hr
  subst h2
  exact (hsu e h1 ad oe cls d pn hz hfd).imp (fun e' h => by rw [tryV_err h1]; exact h) (fun _ _ h => h) (fun _ _ h => h) (fun _ h => h) (fun _ h => h)
end
end R
set_option maxHeartbeats 400000
set_option autoImplicit false
namespace R
open PySem PySem.Spec PyProof.Rows L2
/-! ### comprehensions -/
def wipeE (env : Env') : List Nat → Env'
  | [] => env
  | v :: vs => (wipeE env vs).set v .any
theorem SOk.wipe {K : PySem.W.Frag} {O : Addr → Prop} {fp : Nat → List Addr} {env : Env'} {σ : L2.St} {H : Hp} (S : SOk K O fp env σ H) : ∀ vs : List Nat, SOk K O fp (wipeE env vs) (L2.wipe σ vs) H
  | [] => S
  | v :: vs => (SOk.wipe S vs).forget v
/-- an own list in the making, out of sight -/
theorem SOk.hide {K : PySem.W.Frag} {O : Addr → Prop} {fp : Nat → List Addr} {env : Env'} {σ : L2.St} {H : Hp} {D : Addr} {o : HO} (S : SOk K O fp env σ H) (hD : H D = none) : SOk K (fun a => O a ∨ a = D) fp env σ (upd H D o) := by
  have nD : ¬ UU O fp D := S.fresh hD
  have le : Le (wo H (UU O fp)) (wo (upd H D o) (UU (fun a => O a ∨ a = D) fp)) := Ex.le fun b w h => by
    obtain ⟨n, q⟩ := wo_some h
    have nb : b ≠ D := ne_of_none q hD
    rw [wo_out, upd_ne nb]
    · exact q
    · rintro ((z | z) | z)
      · exact n (.inl z)
      · exact nb z
      · exact n (.inr z)
  exact {
    len := S.len
    bnd := fun a h => by
      rcases h with h | h
      · obtain ⟨w, q⟩ := S.bnd a h
        exact ⟨w, by rw [upd_ne (ne_of_none q hD)]; exact q⟩
      · subst h; exact ⟨o, upd_same⟩
    fpO := fun i a h => by
      rintro (z | z)
      · exact S.fpO i a h z
      · subst z; exact nD (.inr ⟨i, h⟩)
    sep := S.sep
    dom := fun i a h => by
      obtain ⟨w, q⟩ := S.dom i a h
      exact ⟨w, by rw [upd_ne (ne_of_none q hD)]; exact q⟩
    sl := fun i s q => by
      have r := S.sl i s q
      cases s with
      | any => exact trivial
      | dat x =>
        obtain ⟨v, a, b⟩ := r
        exact ⟨v, a, Dat.mono le b⟩
      | own x =>
        obtain ⟨v, a, b⟩ := r
        refine ⟨v, a, Own.frame le (fun c hc => ?_) b⟩
        obtain ⟨w, q⟩ := S.dom i c hc
        rw [upd_ne (ne_of_none q hD)] }
section
variable {X : Cx} {W : WX} {env env' : Env'} {ρ α β γ : Type} [Res ρ] [Dat α] [Dat β] [Dat γ] {po : Po ρ} {x : α} {y : β} {z : γ} {e a b c tg iter o : Expr} {es : List Expr} {pos p p2 pc p3 apos cpos : Pos} {rest body : List Stmt} {xs : List α}
/-- the block's contexts -/
abbrev Blk (X : Cx) (scope : Scope) (Φ : Cx → Prop) : Prop := ∀ (s : Shared) (H : Hp) (C : Addr) (cl : List (Str × Addr)) (fp : List Addr), Φ (X.blk s H scope (compEnvC scope cl C X.env) fp)
def tEb (X : Cx) (scope : Scope) (e : Expr) : TE := fun σ H Q => Blk X scope fun Y => tE Y e σ H Q
def tTb (X : Cx) (scope : Scope) (e : Expr) : TT := fun σ H Q => Blk X scope fun Y => tT Y e σ H Q
theorem mEb {scope : Scope} {e : Expr} (s : Shared) (H : Hp) (C : Addr) (cl : List (Str × Addr)) (fp : List Addr) : PE (X.blk s H scope (compEnvC scope cl C X.env) fp) e (tEb X scope e) := ⟨fun pins s1 σ H1 Q I h => h s H C cl fp pins s1 I⟩
theorem mTb {scope : Scope} {e : Expr} (s : Shared) (H : Hp) (C : Addr) (cl : List (Str × Addr)) (fp : List Addr) : PTs (X.blk s H scope (compEnvC scope cl C X.env) fp) [e] (tTb X scope e) := pts_one ⟨fun pins s1 σ H1 Q I h => h s H C cl fp pins s1 I⟩
/-- how a target stores an item: its own slots only -/
structure TgOk (α : Type) [Dat α] (X : Cx) (g : TG) (vs : List Nat) (env : Env') (mk : α → Env') : Prop where
  run : ∀ (x : α) O fp σ H v, SOk X.K O fp env σ H → Dat.rep X.K (wo H (UU O fp)) v x → L2.wipe σ vs = σ → ∀ Q : L2.St → Hp → Prop, (∀ σ', SOk X.K O fp (mk x) σ' H → L2.wipe σ' vs = σ → Q σ' H) → g v σ H Q
/-- what a comprehension gives -/
theorem lc_ev {scope : Scope} {tt : TT} {g : TG} {vs : List Nat} (mk : α → Env') (f : α → β) (t : α → Bool) (hi : IX X tg iter env xs) (hz : xs.length ≤ 100000) (hg : TgOk α X g vs (wipeE env vs) mk) (hww : ∀ σ : L2.St, L2.wipe (L2.wipe σ vs) vs = L2.wipe σ vs)
    (ht : ∀ x ∈ xs, EvT X.K tt (mk x) (t x)) (he : ∀ x ∈ xs, t x = true → Ev X.K (tEb X scope e) (mk x) (f x)) :
    ∀ O fp σ H, SOk X.K O fp env σ H → ∀ Q : VK, (∀ v L H', Ex H H' → (∀ a ∈ L, H a = none) → (∀ a ∈ L, ∃ o, H' a = some o) → (∀ Hf, Le (wo H' (fun a => UU O fp a ∨ a ∈ L)) Hf → Own.own X.K Hf H' v L (OL.mk ((xs.filter t).map f))) → Q v H') → tLc (tI X tg iter) g tt (tEb X scope e) vs σ H Q := by
  intro O fp σ H S Q q
  refine hi O fp σ H S _ fun J H1 e1 yl D hD => ?_
  have S1 := S.ex e1
  have S2 := S1.hide (o := .lst []) hD
  have hU : ∀ a, UU (fun a => O a ∨ a = D) fp a ↔ (UU O fp a ∨ a = D) := fun a => by
    constructor
    · rintro ((z | z) | z)
      · exact .inl (.inl z)
      · exact .inr z
      · exact .inl (.inr z)
    · rintro ((z | z) | z)
      · exact .inl (.inl z)
      · exact .inr z
      · exact .inl (.inr z)
  -- where one stands at turn i
  let Pv : Nat → Hp → Prop := fun i H' => ∃ ws, H' D = some (.lst ws) ∧ (∀ a o, a ≠ D → H1 a = some o → H' a = some o) ∧ repL X.K (wo H' (UU (fun a => O a ∨ a = D) fp)) ws (((xs.take i).filter t).map f)
  have SP : ∀ i H', Pv i H' → SOk X.K (fun a => O a ∨ a = D) fp env σ H' := fun i H' ⟨ws, h1, h2, _⟩ => by
    refine S2.conv (Ex.le fun a o hq => ?_) (fun j a ha => ?_) fun a o hq => ?_
    · obtain ⟨n, hq⟩ := wo_some hq
      have na : a ≠ D := fun z => n ((hU a).mpr (.inr z))
      rw [upd_ne na] at hq
      rw [wo_out n]
      exact h2 a o na hq
    · obtain ⟨o, hq⟩ := S1.dom j a ha
      have na : a ≠ D := ne_of_none hq hD
      rw [h2 a o na hq, upd_ne na, hq]
    · by_cases na : a = D
      · subst na; exact ⟨_, h1⟩
      · rw [upd_ne na] at hq; exact ⟨o, h2 a o na hq⟩
  have YL : ∀ i H', Pv i H' → (∀ x, xs[i]? = some x → J.go i H' ∧ ∀ v H'', J.yld i H' v H'' → Ex H' H'' ∧ Dat.rep X.K (wo H'' (UU (fun a => O a ∨ a = D) fp)) v x) ∧ (xs.length ≤ i → J.stop i H') := fun i H' pv => by
    refine yl H' _ (SP i H' pv).bndU (fun a o hq => ?_) i
    obtain ⟨ws, h1, h2, _⟩ := pv
    obtain ⟨n, hq⟩ := wo_some hq
    have na : a ≠ D := ne_of_none hq hD
    rw [wo_out fun z => ((hU a).mp z).elim n na]
    exact h2 a o na hq
  refine ⟨fun i m H' => m = xs.length - i ∧ i ≤ xs.length ∧ Pv i H', ⟨xs.length, by simp, Nat.zero_le _, [], upd_same, fun a o na h => by rw [upd_ne na]; exact h, .nil⟩, ?_⟩
  rintro i m H2 ⟨rfl, hle, pv⟩
  obtain ⟨y1, y2⟩ := YL i H2 pv
  by_cases hlt : i < xs.length
  · obtain ⟨x, hx⟩ : ∃ x, xs[i]? = some x := ⟨_, List.getElem?_eq_getElem hlt⟩
    have hm : x ∈ xs := List.mem_of_getElem? hx
    obtain ⟨go, yy⟩ := y1 x hx
    refine .inr ⟨go, Pv (i + 1), fun H' p' => ⟨_, by omega, rfl, hlt, p'⟩, fun v H3 yv => ?_⟩
    obtain ⟨e3, rv⟩ := yy v H3 yv
    have S3 := (SP i H2 pv).ex e3
    obtain ⟨ws, h1, h2, h3⟩ := pv
    have tk : xs.take (i + 1) = xs.take i ++ [x] := by rw [List.take_add_one, hx]; rfl
    refine hg.run x _ fp _ H3 v (S3.wipe vs) rv (hww σ) _ fun σ4 S4 w4 => ⟨w4.trans rfl, ?_⟩
    refine ht x hm _ fp σ4 H3 S4 _ fun H5 e5 => ?_
    cases htx : t x with
    | true =>
      show tEb X scope e σ4 H5 _
      refine he x hm htx _ fp σ4 H5 (S4.ex e5) _ fun y H6 e6 ry => ?_
      have e36 : Ex H2 H6 := (e3.trans e5).trans e6
      refine ⟨ws, e36 D _ h1, ?_, ws ++ [y], upd_same, fun a o na h => by rw [upd_ne na]; exact e36 a o (h2 a o na h), ?_⟩
      · have := Paired.length h3
        rw [List.length_map] at this
        have l2 := List.length_filter_le t (xs.take i)
        have l3 : (xs.take i).length ≤ xs.length := by rw [List.length_take]; omega
        exact Nat.lt_of_lt_of_le (show ws.length < 100001 by omega) (by decide)
      · rw [tk, List.filter_append, List.map_append]
        have : (List.filter t [x]).map f = [f x] := by simp [htx]
        rw [this, wo_upd_in (show UU (fun a => O a ∨ a = D) fp D from (hU D).mpr (.inr rfl))]
        exact Paired.app (h3.mono (wo_ex e36).le) ry
    | false =>
      show Pv (i + 1) H5
      have e35 : Ex H2 H5 := e3.trans e5
      refine ⟨ws, e35 D _ h1, fun a o na h => e35 a o (h2 a o na h), ?_⟩
      rw [tk, List.filter_append, List.map_append]
      have : (List.filter t [x]).map f = [] := by simp [htx]
      rw [this, List.append_nil]
      exact h3.mono (wo_ex e35).le
  · have ei : i = xs.length := by omega
    subst ei
    obtain ⟨ws, h1, h2, h3⟩ := pv
    have ek : ∀ a o, H1 a = some o → H2 a = some o := fun a o h => h2 a o (ne_of_none h hD) h
    refine .inl ⟨y2 (Nat.le_refl _), q (.ref D) [D] H2 (e1.trans ek) (fun a ha => by rw [List.mem_singleton.mp ha]; exact e1.free hD) (fun a ha => by rw [List.mem_singleton.mp ha]; exact ⟨_, h1⟩) fun Hf le => ⟨D, ws, rfl, rfl, h1, ?_⟩⟩
    rw [List.take_length] at h3
    refine h3.mono (Le.trans (wo_mono fun a z => ?_).le le)
    rcases z with z | z
    · exact (hU a).mpr (.inl z)
    · exact (hU a).mpr (.inr (List.mem_singleton.mp z))
/-- [e for n in it], [e for n in it if c] -/
theorem tg_name {j : Nat} {vs : List Nat} (hj : ∀ (σ : L2.St) (o : Option V), L2.wipe (σ.set j o) vs = L2.wipe σ vs) : TgOk α X (gName j) vs env (fun x => env.set j (.dat x)) := ⟨fun x O fp σ H v S r w Q q => q _ (S.set j r) (by rw [hj, w])⟩
theorem tg_pair {i j : Nat} {vs : List Nat} (hi : ∀ (σ : L2.St) (o : Option V), L2.wipe (σ.set i o) vs = L2.wipe σ vs) (hj : ∀ (σ : L2.St) (o : Option V), L2.wipe (σ.set j o) vs = L2.wipe σ vs) : TgOk (α × β) X (gTup X.K 2 (gCons (gName i) (gCons (gName j) gNil))) vs env (fun x => (env.set i (.dat x.1)).set j (.dat x.2)) := ⟨fun x O fp σ H v S r w Q q => by
  obtain ⟨ad, us, e, t, ar⟩ := r
  match us, ar with
  | [u1, u2], ⟨h1, h2, _⟩ =>
    exact ⟨ad, [u1, u2], e, wo_le.tup t, rfl, u1, [u2], rfl, u2, [], rfl, rfl, q _ ((S.set i h1).set j h2) (by rw [hj, hi, w])⟩⟩
theorem et_yes : EvT X.K tYes env true := fun O fp σ H S Q q => q H (Ex.refl H)
theorem ev_b {scope : Scope} (h : Blk X scope fun Y => EX Y e env x) : Ev X.K (tEb X scope e) env x := fun O fp σ H S Q q s H0 C cl fpp => h s H0 C cl fpp O fp σ H S Q q
theorem et_b {scope : Scope} {k : Bool} (h : Blk X scope fun Y => ET Y e env k) : EvT X.K (tTb X scope e) env k := fun O fp σ H S Q q s H0 C cl fpp => h s H0 C cl fpp O fp σ H S Q q
theorem en_lc {scope : Scope} {ifs : List Expr} {own : List (Str × Nat)} {tt : TT} {g : TG} (mk : α → Env') (f : α → β) (t : α → Bool) (hc : X.calm = true) (hN : X.N.Nodup) (ok : BlkOk X.N X.env.scope scope own) (hi : IX X tg iter env xs) (hz : xs.length ≤ 100000) (hg : TgOk α X g (own.map (·.2)) (wipeE env (own.map (·.2))) mk) (hww : ∀ σ : L2.St, L2.wipe (L2.wipe σ (own.map (·.2))) (own.map (·.2)) = L2.wipe σ (own.map (·.2)))
    (pg : ∀ (s : Shared) (H : Hp) (C : Addr) (cl : List (Str × Addr)) (fp : List Addr), PG (X.blk s H scope (compEnvC scope cl C X.env) fp) tg g) (pt : ∀ (s : Shared) (H : Hp) (C : Addr) (cl : List (Str × Addr)) (fp : List Addr), PTs (X.blk s H scope (compEnvC scope cl C X.env) fp) ifs tt)
    (ht : ∀ x ∈ xs, EvT X.K tt (mk x) (t x)) (he : ∀ x ∈ xs, t x = true → Blk X scope fun Y => EX Y e (mk x) (f x)) (hs : ∀ x, foldedSetIterable iter X.env x = pure x := by intro _; rfl) : EN X (.ListComp e [⟨tg, iter, ifs, 0⟩] scope pos) env (OL.mk ((xs.filter t).map f)) := fun O fp σ H S Q q pins s I =>
  (pe_lc hc hN (mI X tg iter) ok pg pt (fun s H C cl fp => mEb s H C cl fp) hs).run pins s σ H Q I (lc_ev mk f t hi hz hg hww ht (fun x hx h => ev_b (he x hx h)) O fp σ H S Q q)
/-- y = [..], y a local name: one's own list -/
theorem sx_newLc {i : Nat} {y : Str} {scope : Scope} {ifs : List Expr} {own : List (Str × Nat)} {tt : TT} {g : TG} (mk : α → Env') (f : α → β) (t : α → Bool) (hc : X.calm = true) (hN : X.N.Nodup) (ok : BlkOk X.N X.env.scope scope own) (hi : IX X tg iter env xs) (hz : xs.length ≤ 100000) (hg : TgOk α X g (own.map (·.2)) (wipeE env (own.map (·.2))) mk) (hww : ∀ σ : L2.St, L2.wipe (L2.wipe σ (own.map (·.2))) (own.map (·.2)) = L2.wipe σ (own.map (·.2)))
    (pg : ∀ (s : Shared) (H : Hp) (C : Addr) (cl : List (Str × Addr)) (fp : List Addr), PG (X.blk s H scope (compEnvC scope cl C X.env) fp) tg g) (pt : ∀ (s : Shared) (H : Hp) (C : Addr) (cl : List (Str × Addr)) (fp : List Addr), PTs (X.blk s H scope (compEnvC scope cl C X.env) fp) ifs tt)
    (ht : ∀ x ∈ xs, EvT X.K tt (mk x) (t x)) (he : ∀ x ∈ xs, t x = true → Blk X scope fun Y => EX Y e (mk x) (f x)) (hr : SX X W rest (env.set i (.own (OL.mk ((xs.filter t).map f)))) po)
    (hy : X.N[i]? = some y) (hyl : X.env.scope.names.lookup y = some .local) (hsw : swapsWith (.ListComp e [⟨tg, iter, ifs, 0⟩] scope pos) (some (.Name y p2)) p3.line X.env = pure true) (hs : ∀ x, foldedSetIterable iter X.env x = pure x := by intro _; rfl) : SX X W (.Assign [.Name y p2] (.ListComp e [⟨tg, iter, ifs, 0⟩] scope pos) p3 :: rest) env po :=
  sx_step (ps_setLc hc hN hy hyl hsw (mI X tg iter) ok pg pt (fun s H C cl fp => mEb s H C cl fp) hs) (fun O fp σ H S D q => lc_ev mk f t hi hz hg hww ht (fun x hx h => ev_b (he x hx h)) O fp σ H S _ fun v L H1 e1 hL hd r1 => q (setF fp i L) _ H1 (Keep.new e1 hL) (S.new e1 hL hd r1)) hr
end
theorem wipe_set {i : Nat} (σ : L2.St) (o : Option V) : (σ.set i o).set i none = σ.set i none := List.set_set _
theorem wipe_1 (j : Nat) : ∀ (σ : L2.St) (o : Option V), L2.wipe (σ.set j o) [j] = L2.wipe σ [j] := fun σ o => List.set_set _
theorem hww_1 (j : Nat) : ∀ σ : L2.St, L2.wipe (L2.wipe σ [j]) [j] = L2.wipe σ [j] := fun σ => List.set_set _
theorem set2 (i j : Nat) (σ : L2.St) : ((((σ.set j none).set i none).set j none).set i none) = (σ.set j none).set i none := by
  by_cases e : i = j
  · subst e; rw [List.set_set, List.set_set, List.set_set]
  · rw [List.set_comm _ _ e, List.set_set, List.set_set]
theorem hww_2 (i j : Nat) : ∀ σ : L2.St, L2.wipe (L2.wipe σ [i, j]) [i, j] = L2.wipe σ [i, j] := fun σ => set2 i j σ
theorem wipe_2a (i j : Nat) : ∀ (σ : L2.St) (o : Option V), L2.wipe (σ.set i o) [i, j] = L2.wipe σ [i, j] := fun σ o => by
  show (((σ.set i o).set j none).set i none) = (σ.set j none).set i none
  by_cases e : i = j
  · subst e; rw [List.set_set, List.set_set, List.set_set]
  · rw [List.set_comm _ _ e, List.set_set]
theorem wipe_2b (i j : Nat) : ∀ (σ : L2.St) (o : Option V), L2.wipe (σ.set j o) [i, j] = L2.wipe σ [i, j] := fun σ o => by
  show (((σ.set j o).set j none).set i none) = (σ.set j none).set i none
  rw [List.set_set]
end R
set_option maxHeartbeats 400000
set_option autoImplicit false
namespace R
open PySem PySem.Spec PyProof.Rows L2
section
variable {X : Cx} {W : WX} {env env' : Env'} {ρ α β γ : Type} [Res ρ] [Dat α] [Dat β] [Dat γ] {po : Po ρ} {x : α} {y : β} {z : γ} {e a b c tg iter o : Expr} {es : List Expr} {pos p p2 pc p3 apos cpos : Pos} {rest body : List Stmt} {xs : List α} {st : Stmt}
theorem exx_some {Rp : α → Prop} {Xp : Exn → Prop} (h : EXX X W e env Rp Xp) : EXX X W e env (fun (o : Option α) => ∃ x, Rp x ∧ o = some x) Xp := fun O fp σ H S Q q qx => h O fp σ H S Q (fun r v H' hr e1 rp => q (some r) v H' ⟨r, hr, rfl⟩ e1 rp) qx
theorem filter_all {τ : Type} (xs : List τ) : (xs.filter fun _ => true) = xs := by simp
theorem en_all {τ υ : Type} [Dat υ] {f : τ → υ} {xs : List τ} (h : EN X e env (OL.mk ((xs.filter fun _ => true).map f))) : EN X e env (OL.mk (xs.map f)) := by rw [filter_all] at h; exact h
theorem hu64 {A : Around} {k : Nat} (hr : Room k A) : A.units + 64 < cLine := hr.units
abbrev Rng (n : Int) : Prop := -(2 ^ 62) ≤ n ∧ n < 2 ^ 62
abbrev Rng2 (n m : Int) : Prop := -(2 ^ 62) ≤ n ∧ n < 2 ^ 62 ∧ -(2 ^ 62) ≤ m ∧ m < 2 ^ 62
/-! any, all, min, max -/
theorem repL.bls {K : PySem.W.Frag} {H : Hp} : ∀ {vs : List V} {bs : List Bool}, repL K H vs bs → vs = bs.map V.bl
  | _, _, .nil => rfl
  | _, _, .cons h t => by
    have h : _ = V.bl _ := h
    rw [h, repL.bls t]; rfl
theorem repL.ints {K : PySem.W.Frag} {H : Hp} : ∀ {vs : List V} {bs : List Int}, repL K H vs bs → vs = bs.map V.int
  | _, _, .nil => rfl
  | _, _, .cons h t => by
    have h : _ = V.int _ := h
    rw [h, repL.ints t]; rfl
theorem repL.strs {K : PySem.W.Frag} {H : Hp} : ∀ {vs : List V} {bs : List Str}, repL K H vs bs → vs = bs.map V.str
  | _, _, .nil => rfl
  | _, _, .cons h t => by
    have h : _ = V.str _ := h
    rw [h, repL.strs t]; rfl
theorem ex_any {bs : List Bool} (hc : X.calm = true) (hm : X.mg "any" = none) (h : EX X a env bs) (he : starEach [a] X.env = (false, eval a X.env) :: starEach [] X.env := by rfl) (hpl : (backTo pos (starEach [] X.env)).any (·.1) = false := by rfl) (hg : Gl X "any" := by rfl) : EX X (.Call (.Name "any" p) [a] [] pos) env (bs.any id) :=
  ex_callB (cr_any hc) hm (by decide +kernel) (ea1 h he) (rc1 fun U v H bn r Q q => by
    obtain ⟨ad, vs, e, l, rl⟩ := r
    have := rl.bls
    subst this
    exact ⟨ad, bs, by rw [e], wo_le.lst l, q _ H (Ex.refl H) rfl⟩) hg (by decide) (by decide) he hpl
theorem ex_all {bs : List Bool} (hc : X.calm = true) (hm : X.mg "all" = none) (h : EX X a env bs) (he : starEach [a] X.env = (false, eval a X.env) :: starEach [] X.env := by rfl) (hpl : (backTo pos (starEach [] X.env)).any (·.1) = false := by rfl) (hg : Gl X "all" := by rfl) : EX X (.Call (.Name "all" p) [a] [] pos) env (bs.all id) :=
  ex_callB (cr_all hc) hm (by decide +kernel) (ea1 h he) (rc1 fun U v H bn r Q q => by
    obtain ⟨ad, vs, e, l, rl⟩ := r
    have := rl.bls
    subst this
    exact ⟨ad, bs, by rw [e], wo_le.lst l, q _ H (Ex.refl H) rfl⟩) hg (by decide) (by decide) he hpl
def maxI (i j : Int) : Int := if j > i then j else i
def minI (i j : Int) : Int := if j < i then j else i
theorem ex_max {i j : Int} (hc : X.calm = true) (hm : X.mg "max" = none) (h : EX X a env i) (h' : EX X b env j) (he : starEach [a, b] X.env = (false, eval a X.env) :: starEach [b] X.env := by rfl) (he2 : starEach [b] X.env = (false, eval b X.env) :: starEach [] X.env := by rfl) (hpl : (backTo pos (starEach [b] X.env)).any (·.1) = false := by rfl) (hg : Gl X "max" := by rfl) : EX X (.Call (.Name "max" p) [a, b] [] pos) env (maxI i j) :=
  ex_callB (call_max2 hc) hm (by decide +kernel) (ea_cons h (ea_cons h' ea_nil he2) he) (rc2 fun U v u H bn r1 r2 Q q => ⟨i, j, by rw [show v = .int i from r1, show u = .int j from r2], q _ H (Ex.refl H) rfl⟩) hg (by decide) (by decide) he hpl
theorem ex_min {i j : Int} (hc : X.calm = true) (hm : X.mg "min" = none) (h : EX X a env i) (h' : EX X b env j) (he : starEach [a, b] X.env = (false, eval a X.env) :: starEach [b] X.env := by rfl) (he2 : starEach [b] X.env = (false, eval b X.env) :: starEach [] X.env := by rfl) (hpl : (backTo pos (starEach [b] X.env)).any (·.1) = false := by rfl) (hg : Gl X "min" := by rfl) : EX X (.Call (.Name "min" p) [a, b] [] pos) env (minI i j) :=
  ex_callB (call_min2 hc) hm (by decide +kernel) (ea_cons h (ea_cons h' ea_nil he2) he) (rc2 fun U v u H bn r1 r2 Q q => ⟨i, j, by rw [show v = .int i from r1, show u = .int j from r2], q _ H (Ex.refl H) rfl⟩) hg (by decide) (by decide) he hpl
/-! options -/
theorem ex_isN {m : Option α} (hno : ∀ K H v (y : α), Dat.rep K H v y → v ≠ .non) (h : EX X a env m) {j : Nat} {pos' : Pos} : EX X (.Compare a [.Is] [.Constant .none j pos'] pos) env m.isNone := ex_of (pe_cmp (pc_isN (mE X a)) (nobehind _ (by decide) (by decide))) fun O fp σ H S Q q => h O fp σ H S _ fun v H' e1 r => by
  refine q _ H' e1 ?_
  show V.bl _ = V.bl _
  cases m with
  | none => rw [show v = .non from r]; rfl
  | some y => rw [decide_eq_false (hno _ _ _ _ r)]; rfl
theorem ex_isNotN {m : Option α} (hno : ∀ K H v (y : α), Dat.rep K H v y → v ≠ .non) (h : EX X a env m) {j : Nat} {pos' : Pos} : EX X (.Compare a [.IsNot] [.Constant .none j pos'] pos) env (!m.isNone) := ex_of (pe_cmp (pc_notN (mE X a)) (nobehind _ (by decide) (by decide))) fun O fp σ H S Q q => h O fp σ H S _ fun v H' e1 r => by
  refine q _ H' e1 ?_
  show V.bl _ = V.bl _
  cases m with
  | none => rw [show v = .non from r]; rfl
  | some y => rw [decide_eq_false (hno _ _ _ _ r)]; rfl
end
theorem catc_mk {K : PySem.W.Frag} {mg : Str → Option Value} {all some' : List Str} {x : Str} {Cx : Addr} (hm : mg x = some (.ref Cx)) (h1 : PySem.W.subIn K (.ref Cx) (.type "BaseException") = some true) (h2 : PySem.W.hasDictIn K Cx = true) (h3 : PySem.W.typeIn K (.ref Cx) = some (.type "type"))
    (tbl : ∀ n ∈ all, ∃ Cn, mg n = some (.ref Cn) ∧ PySem.W.subIn K (.ref Cn) (.ref Cx) = some (some'.contains n)) : CatC K mg all some' x := by
  refine ⟨.ref Cx, hm, fun e Hf cls d ha xa => ?_⟩
  have key : ∀ n, all.contains n = true → mg n = some cls → PySem.W.exmOne K cls (.ref Cx) = some (some'.contains n) := fun n hn hc => by
    obtain ⟨Cn, q1, q2⟩ := tbl n (List.contains_iff_mem.mp hn)
    rw [q1] at hc
    cases hc
    exact PySem.W.exm_ref h1 h2 h3 q2
  cases e with
  | one c => exact key c ha xa.1
  | clash ns ws => exact key _ ha xa.1
  | stuck w ns ws => exact key _ ha xa.1
/-! ### a law's end -/
def spLaw (K : PySem.W.Frag) : Sp := fun vs H Q _ => ∃ (a : Addr) (ns : List Int), vs = [.ref a] ∧ SqL K H a (ns.map V.int) ∧ ns.length ≤ 63 ∧ ∀ v H', v = .bl true → Q v H'
theorem ints_rep {K : PySem.W.Frag} {H : Hp} : ∀ ns : List Int, repL K H (ns.map V.int) ns
  | [] => .nil
  | _ :: r => .cons rfl (ints_rep r)
theorem law_end {K : PySem.W.Frag} {mg : Str → Option Value} {Φ : Phi Bool} (h : ∀ ns : List Int, ns.length ≤ 63 → Φ [.dat ns] (fun r => r = true) (fun _ => False)) : ∀ vs H Q E, spLaw K vs H Q E → spP K mg 1 Φ vs H Q E := fun vs H Q E ⟨a, ns, e, hs, hl, q⟩ => by
  subst e
  have ew : wo H (fun _ => False) = H := by funext b; exact wo_out fun z => z
  have ar : ARep K (wo H (fun _ => False)) [.ref a] [.dat ns] := ⟨⟨a, ns.map V.int, rfl, by rw [ew]; exact hs, ints_rep ns⟩, trivial⟩
  refine ⟨rfl, fun _ => False, [.dat ns], _, _, h ns hl, ARep.sok (fun _ z => z.elim) ar, fun r v H' hr e rp => q v H' ?_, fun _ _ _ _ z => z.elim⟩
  rw [hr] at rp
  exact rp
theorem cx_end {P : Program} {w : World} {H : Hp} {s : Shared} {e : Value} {s' : Shared} (h : L2.CX P w [] H s (fun _ _ _ => False) e s') : False := by
  obtain ⟨_, _, _, _, _, _, _, _, _, _, _, _, z⟩ := h
  exact z
end R
set_option maxHeartbeats 400000
set_option autoImplicit false
/-! == and != of data of any depth, dicts among them. -/
namespace RQ1
open PySem PySem.SeqAt
open AutoSeq1 (wpAny_loadPart')
open MeetsSeq MeetsSeq2 MeetsSeq3 SeqRoads2
section
variable {P : Program} {w : World}
def Items (P : Program) (w : World) (A : Around) (s : Shared) (us ws : Array Value) (f : Nat → Bool) : Prop := ∀ j (h1 : j < us.size) (h2 : j < ws.size), EqP P w A.in1 s us[j] ws[j] (f j)
theorem loop2 (p q : Addr) (us ws : Array Value) (n n2 : Nat) (da db : Option Addr) (sa sb : Array (Option Value)) (hz : us.size = ws.size) (f : Nat → Bool) (k : Nat) :
    ∀ i : Nat, us.size - i = k → MeetsIn P w (Builtin.«list.__eq__.loop» ⟨[.ref p, .ref q, rawInt i, rawInt 2], []⟩)
      (fun A R s => s.heap.get? p = some { cls := .type "list", dict := da, data := .seq us n, slots := sa } ∧ s.heap.get? q = some { cls := .type "list", dict := db, data := .seq ws n2, slots := sb } ∧
        Items P w A s us ws f ∧ R (.ok (.ret (.bool (((List.range us.size).drop i).all f)))) s) := by
  induction k with
  | zero =>
    intro i hk A R s ⟨hl, hb, he, h⟩
    obtain ⟨hp, g, d, tk, os⟩ := s
    wp_walk using wpAny_loadPart' hl, wpAny_loadPart' hb
    have o1 : us[((i : Nat) : Int).toNat]? = none := by simp; omega
    have o2 : ws[((i : Nat) : Int).toNat]? = none := by simp; omega
    rw [show (List.range us.size).drop i = [] by simp; omega] at h
    rw [o1, o2]
    wp_walk using wpAny_loadPart' hl, wpAny_loadPart' hb
    show R (.ok (.ret (.bool (us.size == ws.size)))) _
    rw [hz]
    simpa using h
  | succ k ih =>
    intro i hk A R s ⟨hl, hb, he, h⟩
    obtain ⟨hp, g, d, tk, os⟩ := s
    wp_walk using wpAny_loadPart' hl, wpAny_loadPart' hb
    have l1 : i < us.size := by omega
    have l2 : i < ws.size := by omega
    have o1 : us[((i : Nat) : Int).toNat]? = some us[i] := by simp [l1]
    have o2 : ws[((i : Nat) : Int).toNat]? = some ws[i] := by simp [l2]
    rw [show (List.range us.size).drop i = i :: (List.range us.size).drop (i + 1) by simp [List.drop_eq_getElem_cons, l1], List.all_cons] at h
    rw [o1, o2]
    refine wpAny_bind (he i l1 l2 _ _ ?_)
    cases fb : f i with
    | true =>
      rw [fb] at h
      wp_walk
      rw [show ((i : Int) + 1) = ((i + 1 : Nat) : Int) by omega]
      refine ⟨plainId_quiet plain_eq_loop _, codeAny_builtin entry_eq_loop ?_⟩
      rw [Around.under_plainId plain_eq_loop _]
      exact ih (i + 1) (by omega) A R _ ⟨hl, hb, he, by simpa using h⟩
    | false =>
      rw [fb] at h
      wp_walk using wpAny_loadPart' hl, wpAny_loadPart' hb
      rw [o1, o2]
      wp_walk
      simpa using h
theorem loop3 (p q : Addr) (us ws : Array Value) (n n2 : Nat) (da db : Option Addr) (sa sb : Array (Option Value)) (hz : us.size = ws.size) (f : Nat → Bool) (k : Nat) :
    ∀ i : Nat, us.size - i = k → MeetsIn P w (Builtin.«list.__eq__.loop» ⟨[.ref p, .ref q, rawInt i, rawInt 3], []⟩)
      (fun A R s => s.heap.get? p = some { cls := .type "list", dict := da, data := .seq us n, slots := sa } ∧ s.heap.get? q = some { cls := .type "list", dict := db, data := .seq ws n2, slots := sb } ∧
        Items P w A s us ws f ∧ R (.ok (.ret (.bool (!((List.range us.size).drop i).all f)))) s) := by
  induction k with
  | zero =>
    intro i hk A R s ⟨hl, hb, he, h⟩
    obtain ⟨hp, g, d, tk, os⟩ := s
    wp_walk using wpAny_loadPart' hl, wpAny_loadPart' hb
    have o1 : us[((i : Nat) : Int).toNat]? = none := by simp; omega
    have o2 : ws[((i : Nat) : Int).toNat]? = none := by simp; omega
    rw [show (List.range us.size).drop i = [] by simp; omega] at h
    rw [o1, o2]
    wp_walk using wpAny_loadPart' hl, wpAny_loadPart' hb
    show R (.ok (.ret (.bool (us.size != ws.size)))) _
    rw [hz]
    simpa using h
  | succ k ih =>
    intro i hk A R s ⟨hl, hb, he, h⟩
    obtain ⟨hp, g, d, tk, os⟩ := s
    wp_walk using wpAny_loadPart' hl, wpAny_loadPart' hb
    have l1 : i < us.size := by omega
    have l2 : i < ws.size := by omega
    have o1 : us[((i : Nat) : Int).toNat]? = some us[i] := by simp [l1]
    have o2 : ws[((i : Nat) : Int).toNat]? = some ws[i] := by simp [l2]
    rw [show (List.range us.size).drop i = i :: (List.range us.size).drop (i + 1) by simp [List.drop_eq_getElem_cons, l1], List.all_cons] at h
    rw [o1, o2]
    refine wpAny_bind (he i l1 l2 _ _ ?_)
    cases fb : f i with
    | true =>
      rw [fb] at h
      wp_walk
      rw [show ((i : Int) + 1) = ((i + 1 : Nat) : Int) by omega]
      refine ⟨plainId_quiet plain_eq_loop _, codeAny_builtin entry_eq_loop ?_⟩
      rw [Around.under_plainId plain_eq_loop _]
      exact ih (i + 1) (by omega) A R _ ⟨hl, hb, he, by simpa using h⟩
    | false =>
      rw [fb] at h
      wp_walk using wpAny_loadPart' hl, wpAny_loadPart' hb
      rw [o1, o2]
      wp_walk
      simpa using h
theorem list2 (p q : Addr) (us ws : Array Value) (n n2 : Nat) (da db : Option Addr) (sa sb : Array (Option Value)) (f : Nat → Bool) :
    MeetsIn P w (Builtin.«list.__eq__» ⟨[.ref p, .ref q], []⟩)
      (fun A R s => s.heap.get? p = some { cls := .type "list", dict := da, data := .seq us n, slots := sa } ∧ s.heap.get? q = some { cls := .type "list", dict := db, data := .seq ws n2, slots := sb } ∧
        Items P w A s us ws f ∧ R (.ok (.ret (.bool (us.size == ws.size && (List.range us.size).all f)))) s) := by
  intro A R s ⟨hl, hb, he, h⟩
  by_cases hz : us.size = ws.size
  · have h' : R (.ok (.ret (.bool ((List.range us.size).all f)))) s := by simpa [hz] using h
    obtain ⟨hp, g, d, tk, os⟩ := s
    have f3 := AutoSeq1.sub_list_list
    have hne : ¬ (us.size != ws.size) = true := by simp [hz]
    wp_walk using wpAny_loadPart' hl, wpAny_loadPart' hb
    refine ⟨plainId_quiet plain_eq_loop _, codeAny_builtin entry_eq_loop ?_⟩
    rw [Around.under_plainId plain_eq_loop _]
    exact loop2 p q us ws n n2 da db sa sb hz f _ 0 rfl A R _ ⟨hl, hb, he, by simpa using h'⟩
  · have h' : R (.ok (.ret (.bool false))) s := by
      have e : (us.size == ws.size) = false := by simpa using hz
      rw [e] at h
      exact h
    exact (list_eq_lengthsAt p q us ws n n2 da db sa sb (by simpa using hz)) P w A R s ⟨hl, hb, h'⟩
theorem list3 (p q : Addr) (us ws : Array Value) (n n2 : Nat) (da db : Option Addr) (sa sb : Array (Option Value)) (f : Nat → Bool) :
    MeetsIn P w (Builtin.«list.__ne__» ⟨[.ref p, .ref q], []⟩)
      (fun A R s => s.heap.get? p = some { cls := .type "list", dict := da, data := .seq us n, slots := sa } ∧ s.heap.get? q = some { cls := .type "list", dict := db, data := .seq ws n2, slots := sb } ∧
        Items P w A s us ws f ∧ R (.ok (.ret (.bool (!(us.size == ws.size && (List.range us.size).all f))))) s) := by
  intro A R s ⟨hl, hb, he, h⟩
  by_cases hz : us.size = ws.size
  · have h' : R (.ok (.ret (.bool (!(List.range us.size).all f)))) s := by simpa [hz] using h
    obtain ⟨hp, g, d, tk, os⟩ := s
    have f3 := AutoSeq1.sub_list_list
    have hne : ¬ (us.size != ws.size) = true := by simp [hz]
    wp_walk using wpAny_loadPart' hl, wpAny_loadPart' hb
    refine ⟨plainId_quiet plain_eq_loop _, codeAny_builtin entry_eq_loop ?_⟩
    rw [Around.under_plainId plain_eq_loop _]
    exact loop3 p q us ws n n2 da db sa sb hz f _ 0 rfl A R _ ⟨hl, hb, he, by simpa using h'⟩
  · have h' : R (.ok (.ret (.bool true))) s := by
      have e : (us.size == ws.size) = false := by simpa using hz
      rw [e] at h
      exact h
    exact (list_ne_lengthsAt p q us ws n n2 da db sa sb (by simpa using hz)) P w A R s ⟨hl, hb, h'⟩
theorem tup2 (p q : Addr) (us ws : Array Value) (n n2 : Nat) (da db : Option Addr) (sa sb : Array (Option Value)) (hz : us.size = ws.size) (f : Nat → Bool) :
    MeetsIn P w (Builtin.«tuple.__eq__» ⟨[.ref p, .ref q], []⟩)
      (fun A R s => s.heap.get? p = some { cls := .type "tuple", dict := da, data := .seq us n, slots := sa } ∧ s.heap.get? q = some { cls := .type "tuple", dict := db, data := .seq ws n2, slots := sb } ∧
        Items P w A s us ws f ∧ R (.ok (.ret (.bool ((List.range us.size).all f)))) s) :=
  .of_wp fun A R s ⟨hl, hb, he, h⟩ => by
    obtain ⟨hp, g, d, tk, os⟩ := s
    have f2 := AutoSeq1.sub_tuple_tuple
    have hZ : (us.toList.zip ws.toList).length = us.size := by simp [hz]
    wp_walk using wpAny_loadPart' hl, wpAny_loadPart' hb, wpAny_forIn_list _ (fun rest b s' => b.1 = none ∧ s' = ⟨hp, g, d, tk, os⟩ ∧ ∃ i, rest = (us.toList.zip ws.toList).drop i ∧ R (.ok (.ret (.bool (((List.range us.size).drop i).all f)))) ⟨hp, g, d, tk, os⟩) _
    case turn =>
      rintro ⟨y, x⟩ rest b s' ⟨hb', rfl, i, hz', hR⟩
      have lt : i < (us.toList.zip ws.toList).length := by
        rcases Nat.lt_or_ge i (us.toList.zip ws.toList).length with h' | h'
        · exact h'
        · rw [List.drop_of_length_le h'] at hz'; cases hz'
      have l1 : i < us.size := hZ ▸ lt
      have l2 : i < ws.size := hz ▸ l1
      rw [List.drop_eq_getElem_cons lt] at hz'
      injection hz' with hyx hrest
      have hy : y = us[i] := by have := congrArg Prod.fst hyx; simpa using this
      have hx : x = ws[i] := by have := congrArg Prod.snd hyx; simpa using this
      subst hy hx
      rw [show (List.range us.size).drop i = i :: (List.range us.size).drop (i + 1) by simp [List.drop_eq_getElem_cons, l1], List.all_cons] at hR
      refine wpAny_bind (he i l1 l2 _ _ ?_)
      cases fb : f i with
      | true =>
        rw [fb] at hR
        wp_walk
        exact ⟨rfl, rfl, i + 1, hrest, by simpa using hR⟩
      | false =>
        rw [fb] at hR
        wp_walk
        exact ⟨_, rfl, by simpa using hR⟩
    case fin =>
      rintro ⟨b1, b2⟩ s' ⟨hb', rfl, i, hz', hR⟩
      simp only at hb'
      subst hb'
      have ge : us.size ≤ i := by
        rcases Nat.lt_or_ge i (us.toList.zip ws.toList).length with h' | h'
        · rw [List.drop_eq_getElem_cons h'] at hz'; cases hz'
        · exact hZ ▸ h'
      rw [List.drop_of_length_le (by simpa using ge)] at hR
      wp_walk
      exact ⟨_, rfl, by simpa [Builtin.Tuple.tupleCompareSizes, hz] using hR⟩
    case h =>
      exact ⟨rfl, rfl, 0, rfl, by simpa using h⟩
theorem tup3 (p q : Addr) (us ws : Array Value) (n n2 : Nat) (da db : Option Addr) (sa sb : Array (Option Value)) (hz : us.size = ws.size) (f : Nat → Bool) :
    MeetsIn P w (Builtin.«tuple.__ne__» ⟨[.ref p, .ref q], []⟩)
      (fun A R s => s.heap.get? p = some { cls := .type "tuple", dict := da, data := .seq us n, slots := sa } ∧ s.heap.get? q = some { cls := .type "tuple", dict := db, data := .seq ws n2, slots := sb } ∧
        Items P w A s us ws f ∧ R (.ok (.ret (.bool (!(List.range us.size).all f)))) s) :=
  .of_wp fun A R s ⟨hl, hb, he, h⟩ => by
    obtain ⟨hp, g, d, tk, os⟩ := s
    have f2 := AutoSeq1.sub_tuple_tuple
    have hZ : (us.toList.zip ws.toList).length = us.size := by simp [hz]
    wp_walk using wpAny_loadPart' hl, wpAny_loadPart' hb, wpAny_forIn_list _ (fun rest b s' => b.1 = none ∧ s' = ⟨hp, g, d, tk, os⟩ ∧ ∃ i, rest = (us.toList.zip ws.toList).drop i ∧ R (.ok (.ret (.bool (!((List.range us.size).drop i).all f)))) ⟨hp, g, d, tk, os⟩) _
    case turn =>
      rintro ⟨y, x⟩ rest b s' ⟨hb', rfl, i, hz', hR⟩
      have lt : i < (us.toList.zip ws.toList).length := by
        rcases Nat.lt_or_ge i (us.toList.zip ws.toList).length with h' | h'
        · exact h'
        · rw [List.drop_of_length_le h'] at hz'; cases hz'
      have l1 : i < us.size := hZ ▸ lt
      have l2 : i < ws.size := hz ▸ l1
      rw [List.drop_eq_getElem_cons lt] at hz'
      injection hz' with hyx hrest
      have hy : y = us[i] := by have := congrArg Prod.fst hyx; simpa using this
      have hx : x = ws[i] := by have := congrArg Prod.snd hyx; simpa using this
      subst hy hx
      rw [show (List.range us.size).drop i = i :: (List.range us.size).drop (i + 1) by simp [List.drop_eq_getElem_cons, l1], List.all_cons] at hR
      refine wpAny_bind (he i l1 l2 _ _ ?_)
      cases fb : f i with
      | true =>
        rw [fb] at hR
        wp_walk
        exact ⟨rfl, rfl, i + 1, hrest, by simpa using hR⟩
      | false =>
        rw [fb] at hR
        wp_walk
        exact ⟨_, rfl, by simpa using hR⟩
    case fin =>
      rintro ⟨b1, b2⟩ s' ⟨hb', rfl, i, hz', hR⟩
      simp only at hb'
      subst hb'
      have ge : us.size ≤ i := by
        rcases Nat.lt_or_ge i (us.toList.zip ws.toList).length with h' | h'
        · rw [List.drop_eq_getElem_cons h'] at hz'; cases hz'
        · exact hZ ▸ h'
      rw [List.drop_of_length_le (by simpa using ge)] at hR
      wp_walk
      exact ⟨_, rfl, by simpa [Builtin.Tuple.tupleCompareSizes, hz, bne] using hR⟩
    case h =>
      exact ⟨rfl, rfl, 0, rfl, by simpa using h⟩
/-- what == and != of two references answer -/
def RcP (P : Program) (w : World) (A : Around) (s : Shared) (u v : Value) (b : Bool) : Prop :=
  (∀ E Q : Value → Shared → Prop, Q (.bool b) s → wpAny (model P w) A (richCompare .Eq u v) Q E s) ∧ (∀ E Q : Value → Shared → Prop, Q (.bool (!b)) s → wpAny (model P w) A (richCompare .NotEq u v) Q E s)
theorem rc_lists {A : Around} {s : Shared} {p q : Addr} {us ws : Array Value} {f : Nat → Bool} (hl : s.heap.IsList p us) (hb : s.heap.IsList q ws) (hu : A.units < cLine) (he : Items P w A s us ws f) : RcP P w A s (.ref p) (.ref q) (us.size == ws.size && (List.range us.size).all f) := by
  obtain ⟨⟨c1, d1, x1, s1⟩, o1, e1, n1, y1⟩ := id hl
  obtain ⟨⟨c2, d2, x2, s2⟩, o2, e2, n2, y2⟩ := id hb
  simp only at e1 y1 e2 y2
  subst e1 y1 e2 y2
  have t1 : s.TypeIs (.ref p) "list" := ⟨_, o1, rfl⟩
  have t2 : s.TypeIs (.ref q) "list" := ⟨_, o2, rfl⟩
  refine ⟨fun E Q h => ?_, fun E Q h => ?_⟩
  · exact wpAny_richCompare_same_room (op := .Eq) t1 t2 F.slot_list_eq (call_meetsIn F.slot_list_eq t1 F.entry_list_eq (F.args_list_eq_2 _ _) (list2 p q us ws n1 n2 d1 d2 s1 s2 f) ⟨o1, o2, he, ⟨(fun x => nomatch x), h⟩⟩) hu
  · exact wpAny_richCompare_same_room (op := .NotEq) t1 t2 F.slot_list_ne (call_meetsIn F.slot_list_ne t1 F.entry_list_ne (F.args_list_ne_2 _ _) (list3 p q us ws n1 n2 d1 d2 s1 s2 f) ⟨o1, o2, he, ⟨(fun x => nomatch x), h⟩⟩) hu
theorem rc_tups {A : Around} {s : Shared} {p q : Addr} {us ws : Array Value} {f : Nat → Bool} (hl : s.heap.IsTuple p us) (hb : s.heap.IsTuple q ws) (hz : us.size = ws.size) (hu : A.units < cLine) (he : Items P w A s us ws f) : RcP P w A s (.ref p) (.ref q) ((List.range us.size).all f) := by
  obtain ⟨⟨c1, d1, x1, s1⟩, o1, e1, n1, y1⟩ := id hl
  obtain ⟨⟨c2, d2, x2, s2⟩, o2, e2, n2, y2⟩ := id hb
  simp only at e1 y1 e2 y2
  subst e1 y1 e2 y2
  have t1 : s.TypeIs (.ref p) "tuple" := ⟨_, o1, rfl⟩
  have t2 : s.TypeIs (.ref q) "tuple" := ⟨_, o2, rfl⟩
  refine ⟨fun E Q h => ?_, fun E Q h => ?_⟩
  · exact wpAny_richCompare_same_room (op := .Eq) t1 t2 F.slot_tuple_eq (call_meetsIn F.slot_tuple_eq t1 F.entry_tuple_eq (F.args_tuple_eq_2 _ _) (tup2 p q us ws n1 n2 d1 d2 s1 s2 hz f) ⟨o1, o2, he, ⟨(fun x => nomatch x), h⟩⟩) hu
  · exact wpAny_richCompare_same_room (op := .NotEq) t1 t2 F.slot_tuple_ne (call_meetsIn F.slot_tuple_ne t1 F.entry_tuple_ne (F.args_tuple_ne_2 _ _) (tup3 p q us ws n1 n2 d1 d2 s1 s2 hz f) ⟨o1, o2, he, ⟨(fun x => nomatch x), h⟩⟩) hu
end
section
variable {P : Program} {w : World} {T : Type} [DecidableEq T] {knd : KeyKind P w T} {A : Around} {s : Shared}
open PySem.W
theorem rc_dicts {a b : Addr} {ka kb : List (T × Value)} {r : Bool} (ha : (a == sysModules) = false) (hb : (b == sysModules) = false) (da : s.heap.DictOf knd a ka) (db : s.heap.DictOf knd b kb) (hu : A.units < cLine)
    (hits : ka.length = kb.length → KeqHitsP P w A.in1 s kb ka r) : RcP P w A s (.ref a) (.ref b) (ka.length == kb.length && r) := by
  refine ⟨fun E Q h => rcP_dicts ha hb da db hu hits E Q h, fun E Q h => ?_⟩
  refine wpAny_richCompare_same_room (op := .NotEq) da.typeIs db.typeIs PySem.F.slot_dict_ne (wpAny_call_entry PySem.F.slot_dict_ne da.typeIs PySem.F.entry_dict_ne ?_ (PySem.F.args_dict_ne_2 _ _)) hu
  show wpAny _ _ (Builtin.Dict.dictSlotArgs "__ne__" ⟨[.ref a, .ref b], []⟩ >>= _) _ _ s
  refine wpAny_bind ?_
  unfold Builtin.Dict.dictSlotArgs
  refine wpAny_bind (wpAny_notOrdered_dict da.typeIs ?_)
  show wpAny _ _ (pure (Value.ref a, Value.ref b)) _ _ s
  refine wpAny_pure (wpAny_bind (wpAny_isInstance (T := "dict") db.typeIs PySem.F.sub_dict_dict ?_))
  simp only [Bool.not_true, Bool.false_eq_true, if_false]
  refine wpAny_bind (wpAny_pure (wpAny_bind (wpAny_pure (wpAny_bind (samePairsP ha hb da db hits ?_)))))
  refine wpAny_pure ⟨_, rfl, (fun x => nomatch x), ?_⟩
  cases hk : (ka.length == kb.length && r) <;> rw [hk] at h <;> exact h
end
end RQ1
set_option maxHeartbeats 400000
set_option autoImplicit false
namespace R
open PySem PySem.Spec PyProof.Rows L2 RQ1
abbrev EqS (X : Cx) (A : Around) (s : Shared) (v w : V) (b : Bool) : Prop := ∀ u u', RelV v u → RelV w u' → SeqAt.EqP X.prog X.w A s u u' b
/-- data that can be compared -/
class DEq (α : Type) [Dat α] where
  dep : Nat
  eqv : α → α → Bool
  same : ∀ {X : Cx} {pins : List (Addr × Obj)} {σ : L2.St} {H : Hp} {s : Shared} {v : V} {x y : α}, Inv X pins σ H s → Dat.rep X.K H v x → Dat.rep X.K H v y → eqv x y = true
  run : ∀ {X : Cx} {pins : List (Addr × Obj)} {σ : L2.St} {H : Hp} {s : Shared} {A : Around} {v w : V} {x y : α}, Inv X pins σ H s → A.units + dep < cLine → Dat.rep X.K H v x → Dat.rep X.K H w y → EqS X A s v w (eqv x y)
/-- of these, what lies behind a reference -/
class DRc (α : Type) [Dat α] [DEq α] where
  rc : ∀ {X : Cx} {pins : List (Addr × Obj)} {σ : L2.St} {H : Hp} {s : Shared} {A : Around} {v w : V} {x y : α}, Inv X pins σ H s → A.units + DEq.dep α < cLine → Dat.rep X.K H v x → Dat.rep X.K H w y → ∃ a b, v = .ref a ∧ w = .ref b ∧ RcP X.prog X.w A s (.ref a) (.ref b) (DEq.eqv x y)
def deq {α : Type} [Dat α] [DEq α] (x y : α) : Bool := DEq.eqv x y
section
variable {X : Cx} {pins : List (Addr × Obj)} {σ : L2.St} {H : Hp} {s : Shared} {A : Around}
theorem eqS_flat {v w : V} (hv : flatV v = true) (hw : flatV w = true) : EqS X A s v w (eqV v w) := fun u u' r r' => (eqAt_V r r' hv hw).eqP
theorem eqS_ref {α : Type} {a b : Addr} {k : Bool} (hs : a = b → k = true) (h : RcP X.prog X.w A s (.ref a) (.ref b) k) : EqS X A s (.ref a) (.ref b) k := fun u u' r r' => by
  cases (show u = Value.ref a from r)
  cases (show u' = Value.ref b from r')
  by_cases e : a = b
  · rw [hs e]
    subst e
    exact (SeqAt.EqAt.same _).eqP
  · exact SeqAt.eqP_refs e h.1
end
instance : DEq Int := ⟨0, fun x y => decide (x = y), fun {X pins σ H s v x y} I h h' => by cases (show v = .int x from h); cases (show V.int x = .int y from h'); simp, fun {X pins σ H s A v w x y} I hu h h' => by
  cases (show v = .int x from h)
  cases (show w = .int y from h')
  exact eqS_flat (v := .int x) (w := .int y) rfl rfl⟩
instance : DEq Str := ⟨0, fun x y => decide (x = y), fun {X pins σ H s v x y} I h h' => by cases (show v = .str x from h); cases (show V.str x = .str y from h'); simp, fun {X pins σ H s A v w x y} I hu h h' => by
  cases (show v = .str x from h)
  cases (show w = .str y from h')
  have q := eqS_flat (X := X) (A := A) (s := s) (v := .str x) (w := .str y) rfl rfl
  have e : eqV (.str x) (.str y) = decide (x = y) := by
    show (x == y) = decide (x = y)
    by_cases k : x = y
    · rw [k]; simp
    · rw [decide_eq_false k]; exact beq_false_of_ne k
  rw [e] at q
  exact q⟩
instance : DEq Bool := ⟨0, fun x y => decide (x = y), fun {X pins σ H s v x y} I h h' => by cases (show v = .bl x from h); cases (show V.bl x = .bl y from h'); simp, fun {X pins σ H s A v w x y} I hu h h' => by
  cases (show v = .bl x from h)
  cases (show w = .bl y from h')
  have q := eqS_flat (X := X) (A := A) (s := s) (v := .bl x) (w := .bl y) rfl rfl
  have e : eqV (.bl x) (.bl y) = decide (x = y) := by cases x <;> cases y <;> rfl
  rw [e] at q
  exact q⟩
instance : DEq Unit := ⟨0, fun _ _ => true, fun _ _ _ => rfl, fun {X pins σ H s A v w x y} I hu h h' => by
  cases (show v = .non from h)
  cases (show w = .non from h')
  exact eqS_flat (v := .non) (w := .non) rfl rfl⟩
/-! tuples -/
section
variable {X : Cx} {pins : List (Addr × Obj)} {σ : L2.St} {H : Hp} {s : Shared} {A : Around}
theorem items_of {vs ws : List V} {us us' : List Value} {f : Nat → Bool} (r : Vals vs us) (r' : Vals ws us') (h : ∀ j v w, vs[j]? = some v → ws[j]? = some w → EqS X A.in1 s v w (f j)) : Items X.prog X.w A s us.toArray us'.toArray f := fun j h1 h2 => by
  have k1 : j < vs.length := by rw [r.length]; simpa using h1
  have k2 : j < ws.length := by rw [r'.length]; simpa using h2
  obtain ⟨u, hu, ru⟩ := r.get (List.getElem?_eq_getElem k1)
  obtain ⟨u', hu', ru'⟩ := r'.get (List.getElem?_eq_getElem k2)
  have e1 : us[j]? = some us.toArray[j] := by
    have q : j < us.length := by simpa using h1
    rw [List.getElem?_eq_getElem q]
    simp
  have e2 : us'[j]? = some us'.toArray[j] := by
    have q : j < us'.length := by simpa using h2
    rw [List.getElem?_eq_getElem q]
    simp
  rw [e1] at hu
  rw [e2] at hu'
  cases hu
  cases hu'
  exact h j _ _ (List.getElem?_eq_getElem k1) (List.getElem?_eq_getElem k2) _ _ ru ru'
theorem rc_tupS (I : Inv X pins σ H s) {a b : Addr} {vs ws : List V} {f : Nat → Bool} (hu : A.units < cLine) (h1 : SqT X.K H a vs) (h2 : SqT X.K H b ws) (hz : vs.length = ws.length) (h : ∀ j v w, vs[j]? = some v → ws[j]? = some w → EqS X A.in1 s v w (f j)) :
    RcP X.prog X.w A s (.ref a) (.ref b) ((List.range vs.length).all f) := by
  obtain ⟨us, r, e, _⟩ := I.tuple h1
  obtain ⟨us', r', e', _⟩ := I.tuple h2
  have q := rc_tups (P := X.prog) (w := X.w) e e' (by rw [List.size_toArray, List.size_toArray, ← r.length, ← r'.length]; exact hz) hu (items_of r r' h)
  rw [List.size_toArray, ← r.length] at q
  exact q
theorem rc_listS (I : Inv X pins σ H s) {a b : Addr} {vs ws : List V} {f : Nat → Bool} (hu : A.units < cLine) (h1 : SqL X.K H a vs) (h2 : SqL X.K H b ws) (h : ∀ j v w, vs[j]? = some v → ws[j]? = some w → EqS X A.in1 s v w (f j)) :
    RcP X.prog X.w A s (.ref a) (.ref b) (vs.length == ws.length && (List.range vs.length).all f) := by
  obtain ⟨us, r, p, _⟩ := I.list h1
  obtain ⟨us', r', p', _⟩ := I.list h2
  have q := rc_lists (P := X.prog) (w := X.w) p.isList p'.isList hu (items_of r r' h)
  rw [List.size_toArray, List.size_toArray, ← r.length, ← r'.length] at q
  exact q
theorem units_in1 {A : Around} {n : Nat} (h : A.units + (n + 1) < cLine) : A.in1.units + n < cLine := by
  show A.units + 1 + n < cLine
  omega
end
section
variable {α β γ δ : Type} [Dat α] [Dat β] [Dat γ] [Dat δ] [DEq α] [DEq β] [DEq γ] [DEq δ]
theorem rc_pair {X : Cx} {pins : List (Addr × Obj)} {σ : L2.St} {H : Hp} {s : Shared} {A : Around} {v w : V} {x1 y1 : α} {x2 y2 : β} (I : Inv X pins σ H s) (hu : A.units + (max (DEq.dep α) (DEq.dep β) + 1) < cLine) (h : repT X.K H v [.dat x1, .dat x2]) (h' : repT X.K H w [.dat y1, .dat y2]) :
    ∃ a b, v = .ref a ∧ w = .ref b ∧ RcP X.prog X.w A s (.ref a) (.ref b) (DEq.eqv x1 y1 && DEq.eqv x2 y2) := by
  obtain ⟨a, vs, rfl, t1, a1⟩ := h
  obtain ⟨b, ws, rfl, t2, a2⟩ := h'
  match vs, ws, a1, a2 with
  | [v1, v2], [w1, w2], ⟨p1, p2, _⟩, ⟨q1, q2, _⟩ =>
    have hv := units_in1 hu
    have q := rc_tupS (A := A) I (f := fun j => if j = 0 then DEq.eqv x1 y1 else DEq.eqv x2 y2) (by omega) t1 t2 rfl (fun j v w hj hk => by
      match j with
      | 0 => cases hj; cases hk; exact DEq.run I (by omega) p1 q1
      | 1 => cases hj; cases hk; exact DEq.run I (by omega) p2 q2
      | j + 2 => simp at hj)
    exact ⟨a, b, rfl, rfl, by simpa [List.range_succ] using q⟩
theorem same_pair {X : Cx} {pins : List (Addr × Obj)} {σ : L2.St} {H : Hp} {s : Shared} {v : V} {x1 y1 : α} {x2 y2 : β} (I : Inv X pins σ H s) (h : repT X.K H v [.dat x1, .dat x2]) (h' : repT X.K H v [.dat y1, .dat y2]) : (DEq.eqv x1 y1 && DEq.eqv x2 y2) = true := by
  obtain ⟨a, vs, rfl, t1, a1⟩ := h
  obtain ⟨b, ws, e, t2, a2⟩ := h'
  cases e
  cases I.tuple_inj t1 t2
  match vs, a1, a2 with
  | [v1, v2], ⟨p1, p2, _⟩, ⟨q1, q2, _⟩ => rw [DEq.same I p1 q1, DEq.same I p2 q2]; rfl
instance : DEq (α × β) := ⟨max (DEq.dep α) (DEq.dep β) + 1, fun x y => DEq.eqv x.1 y.1 && DEq.eqv x.2 y.2, fun {X pins σ H s v x y} I h h' => same_pair I h h', fun {X pins σ H s A v w x y} I hu h h' => by
  obtain ⟨a, b, rfl, rfl, q⟩ := rc_pair I hu h h'
  refine eqS_ref (α := α) (fun e => ?_) q
  subst e
  exact same_pair I h h'⟩
instance : DRc (α × β) := ⟨fun {X pins σ H s A v w x y} I hu h h' => rc_pair I hu h h'⟩
instance : DEq Rat := ⟨1, fun x y => decide (x = y), fun {X pins σ H s v x y} I h h' => by
  have q := same_pair I h h'
  rw [Bool.and_eq_true] at q
  exact decide_eq_true (Rat.ext (of_decide_eq_true q.1) (by have := of_decide_eq_true q.2; exact Int.ofNat.inj this)), fun {X pins σ H s A v w x y} I hu h h' => by
  obtain ⟨a, b, rfl, rfl, q⟩ := rc_pair I (by show A.units + (max 0 0 + 1) < cLine; exact hu) h h'
  have e : (DEq.eqv x.num y.num && DEq.eqv (x.den : Int) (y.den : Int)) = decide (x = y) := by
    show (decide (x.num = y.num) && decide ((x.den : Int) = (y.den : Int))) = _
    by_cases k : x = y
    · subst k; simp
    · rw [decide_eq_false k]
      by_cases k1 : x.num = y.num
      · have k2 : ¬ ((x.den : Int) = (y.den : Int)) := fun z => k (Rat.ext k1 (Int.ofNat.inj z))
        rw [decide_eq_false k2, Bool.and_false]
      · rw [decide_eq_false k1, Bool.false_and]
  rw [e] at q
  refine eqS_ref (α := Int) (fun z => ?_) q
  subst z
  have q := same_pair I h h'
  rw [← e]
  exact q⟩
instance : DRc Rat := ⟨fun {X pins σ H s A v w x y} I hu h h' => by
  obtain ⟨a, b, e1, e2, q⟩ := rc_pair I (by show A.units + (max 0 0 + 1) < cLine; exact hu) h h'
  have e : (DEq.eqv x.num y.num && DEq.eqv (x.den : Int) (y.den : Int)) = decide (x = y) := by
    show (decide (x.num = y.num) && decide ((x.den : Int) = (y.den : Int))) = _
    by_cases k : x = y
    · subst k; simp
    · rw [decide_eq_false k]
      by_cases k1 : x.num = y.num
      · have k2 : ¬ ((x.den : Int) = (y.den : Int)) := fun z => k (Rat.ext k1 (Int.ofNat.inj z))
        rw [decide_eq_false k2, Bool.and_false]
      · rw [decide_eq_false k1, Bool.false_and]
  rw [e] at q
  exact ⟨a, b, e1, e2, q⟩⟩
theorem rc_three {X : Cx} {pins : List (Addr × Obj)} {σ : L2.St} {H : Hp} {s : Shared} {A : Around} {v w : V} {x1 y1 : α} {x2 y2 : β} {x3 y3 : γ} (I : Inv X pins σ H s) (hu : A.units + (max (DEq.dep α) (max (DEq.dep β) (DEq.dep γ)) + 1) < cLine) (h : repT X.K H v [.dat x1, .dat x2, .dat x3]) (h' : repT X.K H w [.dat y1, .dat y2, .dat y3]) :
    ∃ a b, v = .ref a ∧ w = .ref b ∧ RcP X.prog X.w A s (.ref a) (.ref b) (DEq.eqv x1 y1 && (DEq.eqv x2 y2 && DEq.eqv x3 y3)) := by
  obtain ⟨a, vs, rfl, t1, a1⟩ := h
  obtain ⟨b, ws, rfl, t2, a2⟩ := h'
  match vs, ws, a1, a2 with
  | [v1, v2, v3], [w1, w2, w3], ⟨p1, p2, p3, _⟩, ⟨q1, q2, q3, _⟩ =>
    have hv := units_in1 hu
    have q := rc_tupS (A := A) I (f := fun j => if j = 0 then DEq.eqv x1 y1 else if j = 1 then DEq.eqv x2 y2 else DEq.eqv x3 y3) (by omega) t1 t2 rfl (fun j v w hj hk => by
      match j with
      | 0 => cases hj; cases hk; exact DEq.run I (by omega) p1 q1
      | 1 => cases hj; cases hk; exact DEq.run I (by omega) p2 q2
      | 2 => cases hj; cases hk; exact DEq.run I (by omega) p3 q3
      | j + 3 => simp at hj)
    exact ⟨a, b, rfl, rfl, by simpa [List.range_succ, Bool.and_assoc] using q⟩
theorem same_three {X : Cx} {pins : List (Addr × Obj)} {σ : L2.St} {H : Hp} {s : Shared} {v : V} {x1 y1 : α} {x2 y2 : β} {x3 y3 : γ} (I : Inv X pins σ H s) (h : repT X.K H v [.dat x1, .dat x2, .dat x3]) (h' : repT X.K H v [.dat y1, .dat y2, .dat y3]) : (DEq.eqv x1 y1 && (DEq.eqv x2 y2 && DEq.eqv x3 y3)) = true := by
  obtain ⟨a, vs, rfl, t1, a1⟩ := h
  obtain ⟨b, ws, e, t2, a2⟩ := h'
  cases e
  cases I.tuple_inj t1 t2
  match vs, a1, a2 with
  | [v1, v2, v3], ⟨p1, p2, p3, _⟩, ⟨q1, q2, q3, _⟩ => rw [DEq.same I p1 q1, DEq.same I p2 q2, DEq.same I p3 q3]; rfl
instance : DEq (T3 α β γ) := ⟨max (DEq.dep α) (max (DEq.dep β) (DEq.dep γ)) + 1, fun x y => DEq.eqv x.a y.a && (DEq.eqv x.b y.b && DEq.eqv x.c y.c), fun {X pins σ H s v x y} I h h' => same_three I h h', fun {X pins σ H s A v w x y} I hu h h' => by
  obtain ⟨a, b, rfl, rfl, q⟩ := rc_three I hu h h'
  refine eqS_ref (α := α) (fun e => ?_) q
  subst e
  exact same_three I h h'⟩
instance : DRc (T3 α β γ) := ⟨fun {X pins σ H s A v w x y} I hu h h' => rc_three I hu h h'⟩
/-! lists -/
def eqL : List α → List α → Bool
  | [], [] => true
  | x :: xs, y :: ys => DEq.eqv x y && eqL xs ys
  | _, _ => false
def atE (xs ys : List α) (j : Nat) : Bool := match xs[j]?, ys[j]? with
  | some x, some y => DEq.eqv x y
  | _, _ => true
theorem range_all (n : Nat) (f : Nat → Bool) : (List.range (n + 1)).all f = (f 0 && (List.range n).all fun j => f (j + 1)) := by
  rw [List.range_succ_eq_map, List.all_cons, List.all_map]
  rfl
theorem eqL_is : ∀ xs ys : List α, (xs.length == ys.length && (List.range xs.length).all (atE xs ys)) = eqL xs ys
  | [], [] => rfl
  | [], _ :: _ => rfl
  | _ :: _, [] => rfl
  | x :: xs, y :: ys => by
    have ih := eqL_is xs ys
    have e : (List.range (xs.length + 1)).all (atE (x :: xs) (y :: ys)) = (DEq.eqv x y && (List.range xs.length).all (atE xs ys)) := by
      rw [range_all]
      congr 1
    rw [List.length_cons, List.length_cons, e]
    show _ = (DEq.eqv x y && eqL xs ys)
    rw [← ih]
    have : (xs.length + 1 == ys.length + 1) = (xs.length == ys.length) := by
      by_cases k : xs.length = ys.length
      · rw [k]; simp
      · rw [beq_false_of_ne k, beq_false_of_ne (by omega)]
    rw [this]
    cases (xs.length == ys.length) <;> cases DEq.eqv x y <;> rfl
theorem repL_at {X : Cx} {H : Hp} : ∀ {vs : List V} {xs : List α}, repL X.K H vs xs → ∀ {j : Nat} {v : V}, vs[j]? = some v → ∃ x, xs[j]? = some x ∧ Dat.rep X.K H v x := fun {vs xs} h => by
  unfold repL at h
  induction h with
  | nil => intro j v e; simp at e
  | cons h0 t ih =>
    intro j v e
    cases j with
    | zero =>
      have e' := e
      simp at e'
      subst e'
      exact ⟨_, rfl, h0⟩
    | succ j => simpa using ih (by simpa using e)
theorem same_list {X : Cx} {pins : List (Addr × Obj)} {σ : L2.St} {H : Hp} {s : Shared} (I : Inv X pins σ H s) : ∀ {vs : List V} {xs ys : List α}, repL X.K H vs xs → repL X.K H vs ys → eqL xs ys = true
  | [], [], [], _, _ => rfl
  | v :: vs, x :: xs, y :: ys, .cons a b, .cons c d => by
    show (DEq.eqv x y && eqL xs ys) = true
    rw [DEq.same I a c, same_list I b d]
    rfl
theorem rc_lst {X : Cx} {pins : List (Addr × Obj)} {σ : L2.St} {H : Hp} {s : Shared} {A : Around} {v w : V} {x y : List α} (I : Inv X pins σ H s) (hu : A.units + (DEq.dep α + 1) < cLine) (h : Dat.rep X.K H v x) (h' : Dat.rep X.K H w y) : ∃ a b, v = .ref a ∧ w = .ref b ∧ RcP X.prog X.w A s (.ref a) (.ref b) (eqL x y) := by
  obtain ⟨a, vs, rfl, t1, a1⟩ := h
  obtain ⟨b, ws, rfl, t2, a2⟩ := h'
  have hv := units_in1 hu
  refine ⟨a, b, rfl, rfl, ?_⟩
  have q := rc_listS (A := A) I (f := atE x y) (by omega) t1 t2 (fun j v w hj hk => by
    obtain ⟨x0, e1, r1⟩ := repL_at a1 hj
    obtain ⟨y0, e2, r2⟩ := repL_at a2 hk
    unfold atE
    rw [e1, e2]
    exact DEq.run I (by omega) r1 r2)
  rw [Paired.length a1, Paired.length a2, eqL_is] at q
  exact q
theorem same_lst {X : Cx} {pins : List (Addr × Obj)} {σ : L2.St} {H : Hp} {s : Shared} {v : V} {x y : List α} (I : Inv X pins σ H s) (h : Dat.rep X.K H v x) (h' : Dat.rep X.K H v y) : eqL x y = true := by
  obtain ⟨a, vs, rfl, t1, a1⟩ := h
  obtain ⟨b, ws, e, t2, a2⟩ := h'
  cases e
  cases I.list_inj t1 t2
  exact same_list I a1 a2
instance : DEq (List α) := ⟨DEq.dep α + 1, eqL, fun {X pins σ H s v x y} I h h' => same_lst I h h', fun {X pins σ H s A v w x y} I hu h h' => by
  obtain ⟨a, b, rfl, rfl, q⟩ := rc_lst I hu h h'
  refine eqS_ref (α := α) (fun e => ?_) q
  subst e
  exact same_lst I h h'⟩
instance : DRc (List α) := ⟨fun {X pins σ H s A v w x y} I hu h h' => rc_lst I hu h h'⟩
/-! dicts -/
def hitE (ys : List (Str × α)) (p : Str × α) : Bool := match lookD ys p.1 with
  | some q => DEq.eqv p.2 q
  | none => false
def eqD (xs ys : List (Str × α)) : Bool := xs.length == ys.length && xs.all (hitE ys)
theorem hits_of {X : Cx} {pins : List (Addr × Obj)} {σ : L2.St} {H : Hp} {s : Shared} {A : Around} (I : Inv X pins σ H s) (hu : A.units + DEq.dep α < cLine) {ks ls : List (Key × V)} {va vb : List (Key × Value)} {xs ys : List (Str × α)} (rb : KV ls vb) (db : repD X.K H ls ys) (ra : KV ks va) (da : repD X.K H ks xs) :
    PySem.W.KeqHitsP X.prog X.w A s vb va (xs.all (hitE ys)) := by
  unfold repD at da
  induction da generalizing va with
  | nil =>
    cases ra
    exact .nil
  | @cons p x ps xs' h t ih =>
    obtain ⟨key, v⟩ := p
    cases ra with
    | @cons _ q _ qs h1 h2 =>
      obtain ⟨key', u⟩ := q
      obtain ⟨e1, ru⟩ := h1
      have e1 : key = key' := e1
      subst e1
      have e2 : key = .inr x.1 := h.1
      subst e2
      rw [List.all_cons]
      have rr : RelO (valV ls (.inr x.1)) (valueAt vb (.inr x.1)) := rb.val _
      rcases db.look x.1 with ⟨n1, n2⟩ | ⟨v', y, hv, hy, ry⟩
      · rw [n1] at rr
        have n3 : valueAt vb (.inr x.1) = none := by
          cases hh : valueAt vb (.inr x.1) with
          | none => rfl
          | some z => rw [hh] at rr; exact rr.elim
        have : hitE ys x = false := by unfold hitE; rw [n2]
        rw [this, Bool.false_and]
        exact .miss n3
      · rw [hv] at rr
        obtain ⟨u', hu', ru'⟩ := rr.some_of
        have : hitE ys x = DEq.eqv x.2 y := by unfold hitE; rw [hy]
        rw [this]
        exact .hit hu' (DEq.run I hu h.2 ry _ _ ru ru') (ih h2)
theorem rc_dct {X : Cx} {pins : List (Addr × Obj)} {σ : L2.St} {H : Hp} {s : Shared} {A : Around} {v w : V} {x y : Dc α} (I : Inv X pins σ H s) (hu : A.units + (DEq.dep α + 1) < cLine) (h : Dat.rep X.K H v x) (h' : Dat.rep X.K H w y) : ∃ a b, v = .ref a ∧ w = .ref b ∧ RcP X.prog X.w A s (.ref a) (.ref b) (eqD x.kvs y.kvs) := by
  obtain ⟨a, ks, rfl, t1, a1⟩ := h
  obtain ⟨b, ls, rfl, t2, a2⟩ := h'
  have hv := units_in1 hu
  obtain ⟨_, ya, va, ra, da⟩ := dk_rd I.hok t1
  obtain ⟨_, yb, vb, rb, db⟩ := dk_rd I.hok t2
  have q := rc_dicts (P := X.prog) (w := X.w) ya yb da db (by omega) (fun _ => hits_of I (A := A.in1) (by omega) rb a2 ra a1)
  rw [← ra.length, ← rb.length, Paired.length a1, Paired.length a2] at q
  exact ⟨a, b, rfl, rfl, q⟩
theorem nodup_of {X : Cx} {pins : List (Addr × Obj)} {σ : L2.St} {H : Hp} {s : Shared} (I : Inv X pins σ H s) {a : Addr} {ks : List (Key × V)} {xs : List (Str × α)} (t : Rd H a (.dK ks)) (r : repD X.K H ks xs) : (xs.map Prod.fst).Nodup := by
  obtain ⟨zz, ya, va, ra, dd⟩ := dk_rd I.hok t
  have nd : (va.map (·.1)).Nodup := by
    obtain ⟨_, _, _, _, _, _, _, _, nd⟩ := dd
    exact nd
  rw [← ra.keys] at nd
  have e : ks.map (·.1) = (xs.map Prod.fst).map Sum.inr := by
    clear nd ra t dd zz
    unfold repD at r
    induction r with
    | nil => rfl
    | cons h _ ih => rw [List.map_cons, List.map_cons, List.map_cons, ih, h.1]
  rw [e] at nd
  exact (List.pairwise_map.mp nd).imp fun h e => h (by rw [e])
theorem lookD_mem : ∀ {ys : List (Str × α)} {p : Str × α}, (ys.map Prod.fst).Nodup → p ∈ ys → lookD ys p.1 = some p.2
  | [], _, _, h => by cases h
  | q :: ys, p, nd, h => by
    rw [List.map_cons, List.nodup_cons] at nd
    rcases List.mem_cons.mp h with rfl | h
    · unfold lookD; simp
    · have k : ¬ q.1 = p.1 := fun e => nd.1 (List.mem_map.mpr ⟨p, h, e.symm⟩)
      have e : lookD (q :: ys) p.1 = lookD ys p.1 := by unfold lookD; rw [List.find?_cons, decide_eq_false k]
      rw [e]
      exact lookD_mem nd.2 h
theorem same_dct {X : Cx} {pins : List (Addr × Obj)} {σ : L2.St} {H : Hp} {s : Shared} {v : V} {x y : Dc α} (I : Inv X pins σ H s) (h : Dat.rep X.K H v x) (h' : Dat.rep X.K H v y) : eqD x.kvs y.kvs = true := by
  obtain ⟨a, ks, rfl, t1, a1⟩ := h
  obtain ⟨b, ls, e, t2, a2⟩ := h'
  cases e
  have ek : ks = ls := by
    rcases t1 with t1 | ⟨o, t1⟩ <;> rcases t2 with t2 | ⟨o', t2⟩ <;> (rw [t1] at t2; cases t2) <;> rfl
  subst ek
  have nd := nodup_of I t1 a2
  unfold eqD
  rw [← Paired.length a1, ← Paired.length a2, beq_self_eq_true, Bool.true_and, List.all_eq_true]
  intro p hp
  have : ∃ q ∈ y.kvs, q.1 = p.1 ∧ DEq.eqv p.2 q.2 = true := by
    clear nd t1 t2
    generalize x.kvs = xs at a1 hp
    generalize y.kvs = ys at a2
    unfold repD at a1 a2
    induction a1 generalizing ys with
    | nil => cases hp
    | @cons k0 x0 ks' xs' h0 t ih =>
      cases a2 with
      | @cons _ y0 _ ys' h1 t1 =>
        rcases List.mem_cons.mp hp with rfl | hp
        · exact ⟨y0, List.mem_cons_self, by have := h0.1.symm.trans h1.1; injection this with this; exact this.symm, DEq.same I h0.2 h1.2⟩
        · obtain ⟨q, hq, r⟩ := ih hp _ t1
          exact ⟨q, List.mem_cons_of_mem _ hq, r⟩
  obtain ⟨q, hq, e1, e2⟩ := this
  unfold hitE
  rw [← e1, lookD_mem nd hq]
  exact e2
instance : DEq (Dc α) := ⟨DEq.dep α + 1, fun x y => eqD x.kvs y.kvs, fun {X pins σ H s v x y} I h h' => same_dct I h h', fun {X pins σ H s A v w x y} I hu h h' => by
  obtain ⟨a, b, rfl, rfl, q⟩ := rc_dct I hu h h'
  refine eqS_ref (α := α) (fun e => ?_) q
  subst e
  exact same_dct I h h'⟩
instance : DRc (Dc α) := ⟨fun {X pins σ H s A v w x y} I hu h h' => rc_dct I hu h h'⟩
/-! as expressions -/
def rEqX (α : Type) [Dat α] [DEq α] (K : PySem.W.Frag) : R2 := fun u v H Q => ∃ (x y : α), Dat.rep K H u x ∧ Dat.rep K H v y ∧ Q (.bl (deq x y)) H
def rNeX (α : Type) [Dat α] [DEq α] (K : PySem.W.Frag) : R2 := fun u v H Q => ∃ (x y : α), Dat.rep K H u x ∧ Dat.rep K H v y ∧ Q (.bl (!deq x y)) H
theorem op_eqX {X : Cx} [DRc α] (hu : X.A.units + 64 < cLine) (hd : DEq.dep α ≤ 60) : OpR X (compareOp .Eq) (rEqX α X.K) := by
  intro pins s σ H v w u u' Q I rx ry ⟨x, y, h1, h2, q⟩
  obtain ⟨a, b, rfl, rfl, k⟩ := DRc.rc (A := X.A) I (by omega) h1 h2
  cases rx
  cases ry
  exact k.1 _ _ ⟨.bl _, H, I, rfl, q⟩
theorem op_neX {X : Cx} [DRc α] (hu : X.A.units + 64 < cLine) (hd : DEq.dep α ≤ 60) : OpR X (compareOp .NotEq) (rNeX α X.K) := by
  intro pins s σ H v w u u' Q I rx ry ⟨x, y, h1, h2, q⟩
  obtain ⟨a, b, rfl, rfl, k⟩ := DRc.rc (A := X.A) I (by omega) h1 h2
  cases rx
  cases ry
  exact k.2 _ _ ⟨.bl _, H, I, rfl, q⟩
variable {X : Cx} {env : Env'} {x y : α} {a b : Expr} {pos : Pos}
theorem rv_eqX [DRc α] : RV X.K (rEqX α X.K) x y (deq x y) := fun U v1 v2 H _ r1 r2 Q q => ⟨x, y, Dat.mono wo_le r1, Dat.mono wo_le r2, q _ H (Ex.refl H) rfl⟩
theorem rv_neX [DRc α] : RV X.K (rNeX α X.K) x y (!deq x y) := fun U v1 v2 H _ r1 r2 Q q => ⟨x, y, Dat.mono wo_le r1, Dat.mono wo_le r2, q _ H (Ex.refl H) rfl⟩
theorem ex_eqD [DRc α] (hu : X.A.units + 64 < cLine) (ha : EX X a env x) (hb : EX X b env y) (hd : DEq.dep α ≤ 60 := by decide) : EX X (.Compare a [.Eq] [b] pos) env (deq x y) := ex_cmp (op_eqX hu hd) ha hb rv_eqX (nomark _)
theorem ex_neD [DRc α] (hu : X.A.units + 64 < cLine) (ha : EX X a env x) (hb : EX X b env y) (hd : DEq.dep α ≤ 60 := by decide) : EX X (.Compare a [.NotEq] [b] pos) env (!deq x y) := ex_cmp (op_neX hu hd) ha hb rv_neX (nomark _)
theorem et_eqD [DRc α] (hu : X.A.units + 64 < cLine) (ha : EX X a env x) (hb : EX X b env y) (hd : DEq.dep α ≤ 60 := by decide) : ET X (.Compare a [.Eq] [b] pos) env (deq x y) := et_cmp (op_eqX hu hd) ha hb rv_eqX (nomark _)
theorem et_neD [DRc α] (hu : X.A.units + 64 < cLine) (ha : EX X a env x) (hb : EX X b env y) (hd : DEq.dep α ≤ 60 := by decide) : ET X (.Compare a [.NotEq] [b] pos) env (!deq x y) := et_cmp (op_neX hu hd) ha hb rv_neX (nomark _)
end
end R
set_option maxHeartbeats 400000
set_option autoImplicit false
namespace R
open PySem PySem.Spec PyProof.Rows L2
/-! ### lists joined -/
theorem meets_joined (p q : Addr) (us ws : Array Value) (n n2 : Nat) (da db : Option Addr) (sa sb : Array (Option Value)) (hz : us.size + ws.size ≤ sizeLine) :
    Meets (Builtin.«list.__add__» ⟨[.ref p, .ref q], []⟩) (fun _ R s => s.heap.get? p = some { cls := .type "list", dict := da, data := .seq us n, slots := sa } ∧ s.heap.get? q = some { cls := .type "list", dict := db, data := .seq ws n2, slots := sb } ∧
      R (.ok (.ret (Value.ref s.heap.objs.size))) { s with heap := s.heap.push { cls := Value.type "list", data := Data.seq (us ++ ws) }, toks := s.toks }) :=
  .of_wp fun P w A R s h => by
    obtain ⟨hp, g, d, tk, os⟩ := s
    obtain ⟨hl, hb, h⟩ := h
    have f3 := AutoSeq1.sub_list_list
    wp_walk using AutoSeq1.wpAny_loadPart' hl, AutoSeq1.wpAny_loadPart' hb
    exact ⟨_, rfl, h⟩
def rJoin (K : PySem.W.Frag) : R2 := fun x y H Q => ∃ l b xs zs, x = .ref l ∧ y = .ref b ∧ SqL K H l xs ∧ SqL K H b zs ∧ xs.length + zs.length ≤ sizeLine ∧ ∀ p, H p = none → Q (.ref p) (upd H p (.lst (xs ++ zs)))
theorem op_join {X : Cx} : OpR X (binaryOp .Add) (rJoin X.K) := by
  intro pins s σ H x y v u Q I rx ry ⟨l, b, xs, zs, e1, e2, h1, h2, hz, q⟩
  subst e1 e2
  cases rx
  cases ry
  obtain ⟨us, r, pl, _⟩ := I.list h1
  obtain ⟨ws, r2, pl2, _⟩ := I.list h2
  obtain ⟨⟨c1, d1, x1, s1⟩, o1, k1, n1, y1⟩ := pl.isList
  obtain ⟨⟨c2, d2, x2, s2⟩, o2, k2, n2, y2⟩ := pl2.isList
  simp only at k1 y1 k2 y2
  subst k1 y1 k2 y2
  refine concat_meets ⟨_, o1, rfl⟩ ⟨_, o2, rfl⟩ noFill_list_add seq_list_add F.slot_list_add F.entry_list_add (F.args_list_add_2 _ _) (meets_joined l b us.toArray ws.toArray n1 n2 d1 d2 s1 s2 (by rw [List.size_toArray, List.size_toArray, ← r.length, ← r2.length]; exact hz)) ⟨o1, o2, ?_⟩
  rw [show us.toArray ++ ws.toArray = (us ++ ws).toArray by simp]
  exact ⟨.ref _, _, I.lnew (t' := s.toks) (r.append r2) (by rw [List.length_append]; omega), rfl, q _ I.fresh⟩
theorem repL.app {α : Type} [Dat α] {K : PySem.W.Frag} {H : Hp} : ∀ {vs ws : List V} {xs ys : List α}, repL K H vs xs → repL K H ws ys → repL K H (vs ++ ws) (xs ++ ys)
  | [], _, [], _, _, h => h
  | _ :: _, _, _ :: _, _, .cons a b, h => .cons a (repL.app b h)
section
variable {X : Cx} {W : WX} {env env' : Env'} {ρ α β γ : Type} [Res ρ] [Dat α] [Dat β] [Dat γ] {po : Po ρ} {x : α} {y : β} {z : γ} {e a b c tg iter o : Expr} {es elts : List Expr} {pos p p2 pc p3 apos cpos tpos : Pos} {rest body : List Stmt} {xs ys : List α} {st : Stmt}
theorem en_cat (h : EX X a env xs) (h' : EX X b env ys) (g : xs.length + ys.length ≤ 100000) : EN X (.BinOp a .Add b pos) env (OL.mk (xs ++ ys)) := by
  intro O fp σ H S Q q pins s I
  refine (pe_op op_join (mE X a) (mE X b)).run pins s σ H Q I ?_
  refine h O fp σ H S _ fun v1 H1 e1 r1 => h' O fp σ H1 (S.ex e1) _ fun v2 H2 e2 r2 => ?_
  obtain ⟨l, vs, rfl, t1, l1⟩ := r1
  obtain ⟨l', ws, rfl, t2, l2⟩ := r2
  have t1' : SqL X.K (wo H2 (UU O fp)) l vs := (wo_ex e2).le.lst t1
  refine ⟨l, l', vs, ws, rfl, rfl, wo_le.lst t1', wo_le.lst t2, by rw [Paired.length l1, Paired.length l2]; exact sz_of g, fun u hu => ?_⟩
  exact q (.ref u) [u] _ ((e1.trans e2).trans (Ex.new hu)) (fun c hc => by rw [List.mem_singleton.mp hc]; exact (e1.trans e2).free hu) (fun c hc => by rw [List.mem_singleton.mp hc]; exact ⟨_, upd_same⟩)
    fun Hf le => ⟨u, vs ++ ws, rfl, rfl, upd_same, ((l1.mono (wo_ex e2).le).app l2).mono (Le.trans (le_new hu) le)⟩
/-! ### parts of lists and texts -/
def tPo (X : Cx) (e : Option Expr) : L2.TO := fun σ H Q => ∀ pins s, Inv X pins σ H s → wpAny (model X.prog X.w) X.A (evalPart e X.env) (fun u s' => ∃ o H', Inv X pins σ H' s' ∧ IsPart u o ∧ Q o H') X.xe s
theorem mPo (X : Cx) (e : Option Expr) : PO X e (tPo X e) := ⟨fun pins s σ H Q I h => h pins s I⟩
def EXO (X : Cx) (e : Option Expr) (env : Env') (o : Option Int) : Prop := ∀ O fp σ H, SOk X.K O fp env σ H → ∀ Q : Option Int → Hp → Prop, (∀ H', Ex H H' → Q o H') → tPo X e σ H Q
theorem exo_none : EXO X none env none := fun O fp σ H S Q q pins s I => po_none.run pins s σ H Q I (q H (Ex.refl H))
theorem exo_some {i : Int} (h : EX X e env i) : EXO X (some e) env (some i) := fun O fp σ H S Q q pins s I => (po_some (mE X e)).run pins s σ H Q I (h O fp σ H S _ fun v H' e1 r => ⟨i, r, q H' e1⟩)
def cutL {τ : Type} (xs : List τ) (lo hi : Option Int) : List τ := (xs.drop (HT.sIx xs.length 0 lo)).take (HT.sIx xs.length xs.length hi - HT.sIx xs.length 0 lo)
theorem repL.drop {K : PySem.W.Frag} {H : Hp} : ∀ {vs : List V} {xs : List α} (n : Nat), repL K H vs xs → repL K H (vs.drop n) (xs.drop n)
  | _, _, 0, h => h
  | [], [], n + 1, _ => .nil
  | _ :: _, _ :: _, n + 1, .cons _ t => repL.drop n t
theorem repL.take {K : PySem.W.Frag} {H : Hp} : ∀ {vs : List V} {xs : List α} (n : Nat), repL K H vs xs → repL K H (vs.take n) (xs.take n)
  | _, _, 0, _ => .nil
  | [], [], n + 1, _ => .nil
  | _ :: _, _ :: _, n + 1, .cons h t => .cons h (repL.take n t)
theorem en_slice {lo hi : Option Expr} {l u : Option Int} (h : EX X a env xs) (hl : EXO X lo env l) (hu : EXO X hi env u) : EN X (.Subscript a (.Slice lo hi none p2) pos) env (OL.mk (cutL xs l u)) := by
  intro O fp σ H S Q q pins s I
  refine (pe_slice sl_list (mE X a) (mPo X lo) (mPo X hi)).run pins s σ H Q I ?_
  refine h O fp σ H S _ fun v1 H1 e1 r1 => hl O fp σ H1 (S.ex e1) _ fun H2 e2 => hu O fp σ H2 ((S.ex e1).ex e2) _ fun H3 e3 => ?_
  obtain ⟨ad, vs, rfl, t1, l1⟩ := r1
  have ee := e2.trans e3
  have t1' : SqL X.K (wo H3 (UU O fp)) ad vs := (wo_ex ee).le.lst t1
  refine ⟨ad, vs, rfl, wo_le.lst t1', fun p hp => ?_⟩
  have rl : repL X.K (wo H3 (UU O fp)) (cutV vs l u) (cutL xs l u) := by
    unfold cutV cutL
    rw [Paired.length l1]
    exact ((l1.mono (wo_ex ee).le).drop _).take _
  exact q (.ref p) [p] _ ((e1.trans ee).trans (Ex.new hp)) (fun c hc => by rw [List.mem_singleton.mp hc]; exact (e1.trans ee).free hp) (fun c hc => by rw [List.mem_singleton.mp hc]; exact ⟨_, upd_same⟩)
    fun Hf le => ⟨p, _, rfl, rfl, upd_same, rl.mono (Le.trans (le_new hp) le)⟩
def cutSt (x : Str) (lo hi : Option Int) : Str := cutS x lo hi
theorem ex_sliceS {lo hi : Option Expr} {l u : Option Int} {x : Str} (h : EX X a env x) (hl : EXO X lo env l) (hu : EXO X hi env u) (g : x.length ≤ 100000) : EX X (.Subscript a (.Slice lo hi none p2) pos) env (cutSt x l u) := by
  intro O fp σ H S Q q pins s I
  refine (pe_slice sl_str (mE X a) (mPo X lo) (mPo X hi)).run pins s σ H Q I ?_
  refine h O fp σ H S _ fun v1 H1 e1 r1 => hl O fp σ H1 (S.ex e1) _ fun H2 e2 => hu O fp σ H2 ((S.ex e1).ex e2) _ fun H3 e3 => ?_
  exact ⟨x, r1, sz_of g, q _ H3 ((e1.trans e2).trans e3) rfl⟩
/-! ### texts -/
def StrIx (x : Str) (i : Int) : Prop := 0 ≤ i ∧ i < (x.length : Int) ∧ x.length ≤ 100000
def strAt (x : Str) (i : Int) : Str := ⟨#[x.cps.toList.getD i.toNat 0]⟩
theorem ex_ixS {x : Str} {i : Int} (h : EX X a env x) (hb : EX X b env i) (g : StrIx x i) (hs : PlainIx b := by exact fun _ _ => rfl) : EX X (.Subscript a b pos) env (strAt x i) := ex_of (pe_ix ix_str (mE X a) (mE X _) hs) (ev_op h hb fun U v1 v2 H _ r1 r2 Q q => by
  have hl : i.toNat < x.cps.toList.length := by
    have := g.2.1
    have e : x.length = x.cps.toList.length := by rw [Array.length_toList]; rfl
    rw [e] at this
    have := g.1
    omega
  have e1 : x.cps.toList[i.toNat]? = some (x.cps.toList.getD i.toNat 0) := by rw [List.getD_eq_getElem?_getD, List.getElem?_eq_getElem hl]; rfl
  refine ⟨x, i, _, r1, r2, sz_of g.2.2, ?_, q _ H (Ex.refl H) rfl⟩
  rw [← Int.toNat_of_nonneg g.1]
  rw [← Int.toNat_of_nonneg g.1] at e1
  exact atI_nat e1)
theorem ex_lenS {x : Str} (hm : X.mg "len" = none) (h : EX X a env x) (g : x.length ≤ 100000) (he : starEach [a] X.env = (false, eval a X.env) :: starEach [] X.env := by rfl) (hpl : (backTo pos (starEach [] X.env)).any (·.1) = false := by rfl) (hg : Gl X "len" := by rfl) : EX X (.Call (.Name "len" p) [a] [] pos) env (x.length : Int) :=
  ex_callB call_len_str hm PySem.boot_len (ea1 h he) (rc1 fun U v H bn r Q q => ⟨x, by rw [show v = .str x from r], sz_of g, q _ H (Ex.refl H) rfl⟩) hg (by decide) (by decide) he hpl
/-- x * n of a text -/
def StrTimes (x : Str) (n : Int) : Prop := n < 2 ^ 60 ∧ -(2 ^ 60) < n ∧ x.length * n.toNat ≤ 100000
def repS (x : Str) (n : Int) : Str := ⟨(List.replicate n.toNat x.cps).foldl (· ++ ·) #[]⟩
theorem repS_none {x : Str} {n : Int} (h : n < 1) : repS x n = Str.empty := by
  unfold repS
  rw [show n.toNat = 0 by omega]
  rfl
theorem op_repS : OpR X (binaryOp .Mult) (fun x y H Q => ∃ (z : Str) (n : Int), x = .str z ∧ y = .int n ∧ StrTimes z n ∧ Q (.str (repS z n)) H) := by
  intro pins s σ H x y v u Q I rx ry ⟨z, n, e1, e2, ⟨g1, g2, g3⟩, q⟩
  subst e1 e2
  obtain ⟨t, rfl⟩ := rx
  obtain ⟨t', rfl⟩ := ry
  refine PySem.P.mul_str (by
    have h1 : ¬ n < -(2 ^ 63 : Int) := by omega
    have h2 : ¬ n ≥ 2 ^ 63 := by omega
    rw [decide_eq_false h1, decide_eq_false h2]; rfl) (fun h1 h2 h3 => ?_) (fun h1 h2 => ?_) ?_
  · have hp : 0 < n := by omega
    have h4 := Int.lt_mul_of_ediv_lt hp h3
    have e : ((z.length * n.toNat : Nat) : Int) = (z.length : Int) * n := by
      rw [Int.natCast_mul, Int.toNat_of_nonneg (by omega)]
    have h5 : (z.length : Int) * n ≤ 100000 := by rw [← e]; exact Int.ofNat_le.mpr g3
    have h6 : ((2 : Int) ^ 63 - 1) = 9223372036854775807 := by decide
    rw [h6] at h4
    omega
  · show decide (z.length * n.toNat > sizeLine) = false
    have := sz_of g3
    exact decide_eq_false (by omega)
  · have I1 : Inv X pins σ H { s with toks := s.toks + 1 } := I.tok _
    by_cases h1 : n < 1
    · rw [if_pos h1]
      rw [repS_none h1] at q
      exact ⟨by decide, .str _, H, I1, ⟨_, rfl⟩, q⟩
    · rw [if_neg h1]
      by_cases h2 : (n == 1 || z.length == 0) = true
      · rw [if_pos h2]
        refine ⟨.str z, H, I, ⟨_, rfl⟩, ?_⟩
        have e : repS z n = z := by
          unfold repS
          rcases Bool.or_eq_true_iff.mp h2 with h2 | h2
          · rw [show n = 1 from eq_of_beq h2]
            show Str.mk (#[] ++ z.cps) = z
            rw [Array.empty_append]
          · have h3 : z.cps = #[] := Array.eq_empty_of_size_eq_zero (eq_of_beq h2)
            obtain ⟨zc⟩ := z
            have h3 : zc = #[] := h3
            subst h3
            have : ∀ m : Nat, (List.replicate m (#[] : Array Nat)).foldl (· ++ ·) #[] = #[] := fun m => by
              induction m with
              | zero => rfl
              | succ m ih => rw [List.replicate_succ, List.foldl_cons]; exact ih
            rw [this]
        rw [e] at q
        exact q
      · rw [if_neg h2]
        refine ⟨?_, .str _, H, I1, ⟨_, rfl⟩, q⟩
        exact PySem.fits_reps (decide_eq_false (by have := sz_of g3; omega))
theorem ex_repS {x : Str} {n : Int} (h : EX X a env x) (hb : EX X b env n) (g : StrTimes x n) : EX X (.BinOp a .Mult b pos) env (repS x n) := ex_op op_repS h hb fun U v1 v2 H _ r1 r2 Q q => ⟨x, n, r1, r2, g, q _ H (Ex.refl H) rfl⟩
/-! ### enumerate, zip, reversed, a text -/
theorem ARep.one {K : PySem.W.Frag} {H : Hp} {vs : List V} (h : ARep K H vs [.dat x]) : ∃ v, vs = [v] ∧ Dat.rep K H v x := by
  match vs, h with
  | [v], ⟨h1, _⟩ => exact ⟨v, rfl, h1⟩
theorem ARep.two {K : PySem.W.Frag} {H : Hp} {vs : List V} (h : ARep K H vs [.dat x, .dat y]) : ∃ v u, vs = [v, u] ∧ Dat.rep K H v x ∧ Dat.rep K H u y := by
  match vs, h with
  | [v, u], ⟨h1, h2, _⟩ => exact ⟨v, u, rfl, h1, h2⟩
def enumI {τ : Type} (xs : List τ) : List (Int × τ) := xs.mapIdx fun (i : Nat) x => ((i : Int), x)
theorem new_rep {H' : Hp} {U' : Addr → Prop} {K : PySem.W.Frag} {T : Addr} {v1 v2 : V} {x1 : α} {x2 : β} (bn : ∀ a, U' a → ∃ o, H' a = some o) (hT : H' T = none) (r1 : Dat.rep K (wo H' U') v1 x1) (r2 : Dat.rep K (wo H' U') v2 x2) : Dat.rep K (wo (upd H' T (.tup [v1, v2])) U') (.ref T) (x1, x2) := by
  have nt : ¬ U' T := fun z => by obtain ⟨o, e⟩ := bn T z; rw [hT] at e; cases e
  have le : Le (wo H' U') (wo (upd H' T (.tup [v1, v2])) U') := (wo_ex (Ex.new hT)).le
  exact ⟨T, [v1, v2], rfl, .inl (.inl (upd_out nt)), Dat.mono le r1, Dat.mono le r2, trivial⟩
theorem ix_enum (hm : X.mg "enumerate" = none) (h : EX X e env xs) {kk : Nat} (hg : Gl X "enumerate" := by rfl) (hs : starEach [e] X.env = [(false, eval e X.env)] := by rfl) : IX X (.Tuple elts kk tpos) (.Call (.Name "enumerate" p) [e] [] pos) env (enumI xs) :=
  ix_of (pi_enum hg hm (mA X _) hs) fun O fp σ H S R r => ea1 h hs O fp σ H S _ fun vs H1 e1 ar => by
      obtain ⟨v, ev, h1⟩ := ar.one
      subst ev
      obtain ⟨ad, ws, e, l, rl⟩ := h1
      subst e
      refine ⟨ad, ws, rfl, wo_le.lst l, r _ H1 e1 fun H' U' bn ex i => ⟨fun x hx => ?_, fun hi => ?_⟩⟩
      · unfold enumI at hx
        rw [List.getElem?_mapIdx] at hx
        cases hy : xs[i]? with
        | none => rw [hy] at hx; cases hx
        | some y =>
          rw [hy] at hx
          have hx : ((i : Int), y) = x := Option.some.inj hx
          subst hx
          obtain ⟨v, hv, rv⟩ := rl.get hy
          have l' : SqL X.K H' ad ws := wo_le.lst (ex.le.lst l)
          refine ⟨⟨ws, v, l', hv⟩, fun u H'' ⟨T, x', e1, e2, e3, e4⟩ => ?_⟩
          subst e1 e3
          have := e4 ws l'
          rw [hv] at this
          cases this
          exact ⟨Ex.new e2, new_rep bn e2 rfl (Dat.mono ex.le rv)⟩
      · exact ⟨ws, wo_le.lst (ex.le.lst l), by rw [Paired.length rl]; unfold enumI at hi; simpa using hi⟩
theorem ix_zip {zs : List β} (hm : X.mg "zip" = none) (h : EX X a env xs) (h' : EX X b env zs) {kk : Nat} (hg : Gl X "zip" := by rfl) (hs : starEach [a, b] X.env = (false, eval a X.env) :: starEach [b] X.env := by rfl) (hs2 : starEach [b] X.env = (false, eval b X.env) :: starEach [] X.env := by rfl) (hpl : (backTo pos (starEach [b] X.env)).any (·.1) = false := by rfl) :
    IX X (.Tuple elts kk tpos) (.Call (.Name "zip" p) [a, b] [] pos) env (List.zip xs zs) :=
  ix_of (pi_zip hg hm (mA X _) hs hpl) fun O fp σ H S R r => ea_cons h (ea_cons h' ea_nil hs2) hs O fp σ H S _ fun vs H1 e1 ar => by
      obtain ⟨v, v', ev, h1, h2⟩ := ar.two
      subst ev
      obtain ⟨ad, ws, e, l, rl⟩ := h1
      obtain ⟨ad', ws', e', l', rl'⟩ := h2
      subst e e'
      refine ⟨ad, ad', ws, ws', rfl, wo_le.lst l, wo_le.lst l', r _ H1 e1 fun H' U' bn ex i => ⟨fun x hx => ?_, fun hi => ?_⟩⟩
      · have k : SqL X.K H' ad ws := wo_le.lst (ex.le.lst l)
        have k' : SqL X.K H' ad' ws' := wo_le.lst (ex.le.lst l')
        obtain ⟨x1, x2⟩ := x
        rw [List.getElem?_zip_eq_some] at hx
        obtain ⟨v1, hv1, rv1⟩ := rl.get hx.1
        obtain ⟨v2, hv2, rv2⟩ := rl'.get hx.2
        refine ⟨⟨ws, ws', v1, v2, k, k', hv1, hv2⟩, fun u H'' ⟨T, y1, y2, e1, e2, e3, e4, e5⟩ => ?_⟩
        subst e1 e3
        have q1 := e4 ws k
        have q2 := e5 ws' k'
        rw [hv1] at q1
        rw [hv2] at q2
        cases q1
        cases q2
        exact ⟨Ex.new e2, new_rep bn e2 (Dat.mono ex.le rv1) (Dat.mono ex.le rv2)⟩
      · refine ⟨ws, ws', wo_le.lst (ex.le.lst l), wo_le.lst (ex.le.lst l'), ?_⟩
        rw [List.length_zip] at hi
        rw [Paired.length rl, Paired.length rl']
        omega
theorem ix_rev (hm : X.mg "reversed" = none) (h : EX X e env xs) (hg : Gl X "reversed" := by rfl) (hs : starEach [e] X.env = [(false, eval e X.env)] := by rfl) : IX X tg (.Call (.Name "reversed" p) [e] [] pos) env (List.reverse xs) :=
  ix_of (pi_reversed hg hm (mA X _) hs) fun O fp σ H S R r => ea1 h hs O fp σ H S _ fun vs H1 e1 ar => by
      obtain ⟨v, ev, h1⟩ := ar.one
      subst ev
      obtain ⟨ad, ws, e, l, rl⟩ := h1
      subst e
      have hlen := Paired.length rl
      refine ⟨ad, ws, rfl, wo_le.lst l, r _ H1 e1 fun H' U' bn ex i => ⟨fun x hx => ?_, fun hi => by show ws.length ≤ i; rw [hlen]; simpa using hi⟩⟩
      have hi : i < xs.length := by
        have := (List.getElem?_eq_some_iff.mp hx).1
        simpa using this
      rw [List.getElem?_reverse hi] at hx
      obtain ⟨v, hv, rv⟩ := rl.get hx
      have l' : SqL X.K H' ad ws := wo_le.lst (ex.le.lst l)
      rw [← hlen] at hv
      refine ⟨⟨by omega, ws, v, l', hv⟩, fun u H'' ⟨e1, e2⟩ => ?_⟩
      subst e1
      have := e2 ws l'
      rw [hv] at this
      cases this
      exact ⟨Ex.refl _, Dat.mono ex.le rv⟩
def signs (x : Str) : List Str := x.cps.toList.map fun c => ⟨#[c]⟩
theorem ix_str {x : Str} (h : EX X e env x) : IX X tg e env (signs x) := ix_of (pi_str (mE X e)) fun O fp σ H S R r => h O fp σ H S _ fun v H1 e1 rp => by
  refine ⟨x, rp, r _ H1 e1 fun H' U' bn ex i => ⟨fun y hy => ?_, fun hi => ?_⟩⟩
  · unfold signs at hy
    rw [List.getElem?_map, Array.getElem?_toList] at hy
    cases hc : x.cps[i]? with
    | none => rw [hc] at hy; cases hy
    | some c =>
      rw [hc] at hy
      have hy : (⟨#[c]⟩ : Str) = y := Option.some.inj hy
      subst hy
      refine ⟨(Array.getElem?_eq_some_iff.mp hc).1, fun u H'' ⟨q1, c', q2, q3⟩ => ?_⟩
      subst q1 q3
      rw [hc] at q2
      cases q2
      exact ⟨Ex.refl _, rfl⟩
  · show x.cps.size ≤ i
    unfold signs at hi
    simpa using hi
/-! ### a dict's names as a list -/
theorem en_listD {d : Dc α} (hc : X.calm = true) (hm : X.mg "list" = none) (h : EX X a env d) (he : starEach [a] X.env = (false, eval a X.env) :: starEach [] X.env := by rfl) (hpl : (backTo pos (starEach [] X.env)).any (·.1) = false := by rfl) (hg : Gl X "list" := by rfl) : EN X (.Call (.Name "list" p) [a] [] pos) env (OL.mk (d.kvs.map Prod.fst)) :=
  en_callTy1 (call_listD hc) hm (by decide +kernel) h (fun U v H r1 Q q => by
      obtain ⟨ad, ws, h1, h2, h3⟩ := r1
      refine ⟨ad, ws, by rw [h1], wo_le _ _ trivial h2, fun u hu => ?_⟩
      have rl : ∀ Hf, repL X.K Hf (ws.map fun kv => kV kv.1) (d.kvs.map Prod.fst) := fun Hf => by
        clear h2
        unfold repD at h3
        generalize d.kvs = kvs at h3
        induction h3 with
        | nil => exact .nil
        | cons h0 _ ih =>
          rw [List.map_cons, List.map_cons]
          refine .cons ?_ ih
          rw [h0.1]
          rfl
      exact q (.ref u) [u] _ (Ex.new hu) (fun b hb => by rw [List.mem_singleton.mp hb]; exact hu) (fun b hb => by rw [List.mem_singleton.mp hb]; exact ⟨_, upd_same⟩) fun Hf le => ⟨u, _, rfl, rfl, upd_same, rl Hf⟩) hg (by decide) (by decide) he hpl
end
end R
set_option maxHeartbeats 400000
set_option autoImplicit false
namespace R
open PySem PySem.Spec PyProof.Rows L2
/-! ### plain: how large a fraction is -/
def QB (n : Nat) (q : Rat) : Prop := q.num.natAbs < 2 ^ n ∧ q.den < 2 ^ n
theorem two_le {m n : Nat} (h : m ≤ n) : 2 ^ m ≤ 2 ^ n := Nat.pow_le_pow_right (by decide) h
theorem nb_mono {a m n : Nat} (h : a < 2 ^ m) (k : m ≤ n) : a < 2 ^ n := Nat.lt_of_lt_of_le h (two_le k)
theorem nb_mul {a b : Int} {m n : Nat} (h : a.natAbs < 2 ^ m) (k : b.natAbs < 2 ^ n) : (a * b).natAbs < 2 ^ (m + n) := by
  rw [Int.natAbs_mul, Nat.pow_add]
  exact Nat.mul_lt_mul_of_lt_of_le h (Nat.le_of_lt k) (Nat.two_pow_pos n)
theorem nb_add {a b : Int} {m : Nat} (h : a.natAbs < 2 ^ m) (k : b.natAbs < 2 ^ m) : (a + b).natAbs < 2 ^ (m + 1) := by
  have := Int.natAbs_add_le a b
  rw [Nat.pow_succ]
  omega
theorem nb_sub {a b : Int} {m : Nat} (h : a.natAbs < 2 ^ m) (k : b.natAbs < 2 ^ m) : (a - b).natAbs < 2 ^ (m + 1) := by
  have := Int.natAbs_sub_le a b
  rw [Nat.pow_succ]
  omega
theorem QB.mono {m n : Nat} {q : Rat} (h : QB m q) (k : m ≤ n) : QB n q := ⟨nb_mono h.1 k, nb_mono h.2 k⟩
theorem QB.den' {n : Nat} {q : Rat} (h : QB n q) : ((q.den : Nat) : Int).natAbs < 2 ^ n := by rw [Int.natAbs_natCast]; exact h.2
theorem QB.divInt {n : Nat} {t b : Int} (h : t.natAbs < 2 ^ n) (k : b.natAbs < 2 ^ n) (z : b ≠ 0) : QB n (Rat.divInt t b) := by
  have g1 : (t / ((Int.gcd b t : Nat) : Int)).natAbs ≤ t.natAbs := Int.natAbs_ediv_le_natAbs _ _
  refine ⟨?_, ?_⟩
  · rw [Rat.num_divInt]
    refine Nat.lt_of_le_of_lt (Int.natAbs_ediv_le_natAbs _ _) ?_
    rw [Int.natAbs_mul, Int.natAbs_sign_of_ne_zero z, Nat.one_mul]
    exact h
  · rw [Rat.den_divInt, if_neg z]
    exact Nat.lt_of_le_of_lt (Nat.div_le_self _ _) k
theorem QB.add {m n : Nat} {x y : Rat} (h : QB m x) (k : QB n y) : QB (m + n + 1) (x + y) := by
  rw [← plus_eq]
  exact .divInt (nb_add (nb_mul h.1 k.den') (Nat.add_comm n m ▸ nb_mul k.1 h.den')) (nb_mono (nb_mul h.den' k.den') (by omega)) (dens_ne x y)
theorem QB.sub {m n : Nat} {x y : Rat} (h : QB m x) (k : QB n y) : QB (m + n + 1) (x - y) := by
  rw [← minus_eq]
  exact .divInt (nb_sub (nb_mul h.1 k.den') (Nat.add_comm n m ▸ nb_mul k.1 h.den')) (nb_mono (nb_mul h.den' k.den') (by omega)) (dens_ne x y)
theorem QB.mul {m n : Nat} {x y : Rat} (h : QB m x) (k : QB n y) : QB (m + n) (x * y) := by
  rw [← times_eq]
  exact .divInt (nb_mul h.1 k.1) (nb_mul h.den' k.den') (dens_ne x y)
theorem QB.neg {n : Nat} {x : Rat} (h : QB n x) : QB n (-x) := by
  have e : (-x).num = -x.num := rfl
  refine ⟨?_, h.2⟩
  rw [e, Int.natAbs_neg]
  exact h.1
theorem QB.zero : QB 1 (0 : Rat) := ⟨by decide, by decide⟩
theorem QB.one : QB 1 (1 : Rat) := ⟨by decide, by decide⟩
/-- room for a product -/
theorem mulW {a b : Int} {m n : Nat} (h : a.natAbs < 2 ^ m) (k : b.natAbs < 2 ^ n) (hm : 0 < m) (hn : 0 < n) (l : m + n ≤ 1000000) : CMulW a b := wide_mul h k hm hn l
/-- a fraction over its own parts -/
theorem divInt_cross {t b : Int} (z : b ≠ 0) : (Rat.divInt t b).num * b = (((Rat.divInt t b).den : Nat) : Int) * t := by
  have h : Rat.divInt (Rat.divInt t b).num ((Rat.divInt t b).den : Int) = Rat.divInt t b := Rat.num_divInt_den _
  have := (Rat.divInt_eq_divInt_iff (Int.ne_of_gt (den_pos _)) z).mp h
  rw [this, Int.mul_comm]
theorem gcd_own (q : Rat) : gcdI q.num ((q.den : Nat) : Int) = 1 := by
  have : q.num.natAbs.gcd q.den = 1 := q.reduced
  unfold gcdI Int.gcd
  rw [Int.natAbs_natCast, this]
  rfl
theorem isQ_own (q : Rat) : IsQ q.num (q.den : Int) := by
  have : q.num.natAbs.gcd q.den = 1 := q.reduced
  refine ⟨den_pos q, ?_⟩
  unfold Int.gcd
  rw [Int.natAbs_natCast, this]
theorem isQ_neg {t b : Int} (h : IsQ t b) : IsQ (0 - t) b := ⟨h.1, by rw [show 0 - t = -t by omega, Int.neg_gcd]; exact h.2⟩
theorem isQ_low {t b : Int} (h : 0 < b) : IsQ (t / gcdI t b) (b / gcdI t b) := by
  have h1 := isQ_own (Rat.divInt t b)
  rw [divInt_num h, divInt_den h] at h1
  exact h1
theorem divInt_low {t b : Int} (h : 0 < b) : Rat.divInt (t / gcdI t b) (b / gcdI t b) = Rat.divInt t b := by
  rw [← divInt_num h, ← divInt_den h]
  exact Rat.num_divInt_den _
theorem nb_div {t g : Int} {n : Nat} (h : t.natAbs < 2 ^ n) : (t / g).natAbs < 2 ^ n := Nat.lt_of_le_of_lt (Int.natAbs_ediv_le_natAbs _ _) h
end R
set_option maxHeartbeats 400000
set_option autoImplicit false
namespace R
open PySem PySem.Spec PyProof.Rows L2
section
variable {X : Cx} {W : WX} {env env' : Env'} {ρ α β γ : Type} [Res ρ] [Dat α] [Dat β] [Dat γ] {po : Po ρ} {x : α} {y : β} {z : γ} {e a b c tg iter o : Expr} {es elts : List Expr} {pos p p2 pc p3 apos cpos tpos : Pos} {rest body : List Stmt} {xs ys : List α} {st : Stmt}
/-! range with a step -/
def rangeABC (i j c : Int) : List Int := (List.range (Builtin.Range.rangeSize i j c).toNat).map fun (k : Nat) => i + (k : Int) * c
def Rng3 (i j c : Int) : Prop := RgC i j c (Builtin.Range.rangeSize i j c).toNat
theorem ix_range3 {i j k : Int} (hm : X.mg "range" = none) (h : EX X a env i) (h' : EX X b env j) (h'' : EX X c env k) (g : Rng3 i j k) (hg : Gl X "range" := by rfl) (hs : starEach [a, b, c] X.env = (false, eval a X.env) :: starEach [b, c] X.env := by rfl) (hs1 : starEach [b, c] X.env = (false, eval b X.env) :: starEach [c] X.env := by rfl)
    (hs2 : starEach [c] X.env = (false, eval c X.env) :: starEach [] X.env := by rfl) (hpl : (backTo pos (starEach [b, c] X.env)).any (·.1) = false := by rfl) : IX X tg (.Call (.Name "range" p) [a, b, c] [] pos) env (rangeABC i j k) :=
  ix_of (pi_range3 hg hm (mA X _) hs hpl) fun O fp σ H S R r => ea_cons h (ea_cons h' (ea_cons h'' ea_nil hs2) hs1) hs O fp σ H S _ fun vs H1 e1 ar => by
    have h3 : vs = [.int i, .int j, .int k] := by
      match vs, ar with
      | [v, u, w], ⟨h1, h2, h3, _⟩ => rw [show v = .int i from h1, show u = .int j from h2, show w = .int k from h3]
    refine ⟨i, j, k, _, h3, g, r _ H1 e1 fun H' U' bn ex n => ⟨fun x hx => ?_, fun hi => ?_⟩⟩
    · unfold rangeABC at hx
      rw [List.getElem?_map] at hx
      by_cases hn : n < (Builtin.Range.rangeSize i j k).toNat
      · rw [List.getElem?_range hn] at hx
        have hx : i + (n : Int) * k = x := by simpa using hx
        refine ⟨hn, fun v H'' q => ?_⟩
        obtain ⟨q1, q2⟩ := q
        subst q1 q2 hx
        exact ⟨Ex.refl _, rfl⟩
      · rw [List.getElem?_eq_none (by simpa using hn)] at hx
        cases hx
    · show (Builtin.Range.rangeSize i j k).toNat ≤ n
      unfold rangeABC at hi
      simpa using hi
theorem rng3_up {i j c : Int} (hc : 0 < c) (hc' : c < 1000000) (hi : -(2 ^ 40) < i) (hi' : i < 2 ^ 40) (hj : -(2 ^ 40) < j) (hj' : j < 2 ^ 40) : Rng3 i j c := by
  have hz : 0 ≤ Builtin.Range.rangeSize i j c ∧ Builtin.Range.rangeSize i j c < 2 ^ 43 := by
    unfold Builtin.Range.rangeSize
    rw [if_pos hc]
    split
    · have h1 : 0 ≤ (j - i - 1) / c := Int.ediv_nonneg (by omega) (by omega)
      have h2 : (j - i - 1) / c ≤ j - i - 1 := Int.ediv_le_self _ (by omega)
      omega
    · omega
  refine ⟨by omega, by omega, ?_, by omega⟩
  unfold Builtin.Range.small
  have f : ∀ z : Int, -(2 ^ 60) < z → z < 2 ^ 60 → Builtin.Range.rangeFitsLong z = true := fun z h1 h2 => by
    unfold Builtin.Range.rangeFitsLong
    simp
    omega
  have hm : Builtin.Range.rangeSize i j c * c ≤ (2 ^ 41 + 2 ^ 41) := by
    unfold Builtin.Range.rangeSize
    rw [if_pos hc]
    split
    · have h1 : (j - i - 1) / c * c ≤ j - i - 1 := Int.ediv_mul_le _ (by omega)
      rw [Int.add_mul]
      omega
    · omega
  have hm0 : 0 ≤ Builtin.Range.rangeSize i j c * c := Int.mul_nonneg hz.1 (by omega)
  rw [f i (by omega) (by omega), f j (by omega) (by omega), f c (by omega) (by omega), f _ (by omega) (by omega)]
  rw [f _ (by omega) (by omega), if_pos hc]
  simp
end
section
variable {α β γ δ : Type} [Dat α] [DEq α] [Dat β] [DEq β] [Dat γ] [DEq γ] [Dat δ] [DEq δ]
theorem rc_tup4 {X : Cx} {pins : List (Addr × Obj)} {σ : L2.St} {H : Hp} {s : Shared} {A : Around} {v w : V} {x1 y1 : α} {x2 y2 : β} {x3 y3 : γ} {x4 y4 : δ} (I : Inv X pins σ H s) (hu : A.units + ((max (DEq.dep α) (max (DEq.dep β) (max (DEq.dep γ) (DEq.dep δ)))) + 1) < cLine) (h : repT X.K H v [.dat x1, .dat x2, .dat x3, .dat x4]) (h' : repT X.K H w [.dat y1, .dat y2, .dat y3, .dat y4]) :
    ∃ a b, v = .ref a ∧ w = .ref b ∧ RQ1.RcP X.prog X.w A s (.ref a) (.ref b) (DEq.eqv x1 y1 && ((DEq.eqv x2 y2 && ((DEq.eqv x3 y3 && (DEq.eqv x4 y4)))))) := by
  obtain ⟨a, vs, rfl, t1, a1⟩ := h
  obtain ⟨b, ws, rfl, t2, a2⟩ := h'
  match vs, ws, a1, a2 with
  | [v1, v2, v3, v4], [w1, w2, w3, w4], ⟨p1, p2, p3, p4, _⟩, ⟨q1, q2, q3, q4, _⟩ =>
    have hv := units_in1 hu
    have q := rc_tupS (A := A) I (f := fun j => if j = 0 then DEq.eqv x1 y1 else if j = 1 then DEq.eqv x2 y2 else if j = 2 then DEq.eqv x3 y3 else DEq.eqv x4 y4) (by omega) t1 t2 rfl (fun j v w hj hk => by
      match j with
      | 0 => cases hj; cases hk; exact DEq.run I (by omega) p1 q1
      | 1 => cases hj; cases hk; exact DEq.run I (by omega) p2 q2
      | 2 => cases hj; cases hk; exact DEq.run I (by omega) p3 q3
      | 3 => cases hj; cases hk; exact DEq.run I (by omega) p4 q4
      | j + 4 => simp at hj)
    exact ⟨a, b, rfl, rfl, by simpa [List.range_succ, Bool.and_assoc] using q⟩
theorem same_tup4 {X : Cx} {pins : List (Addr × Obj)} {σ : L2.St} {H : Hp} {s : Shared} {v : V} {x1 y1 : α} {x2 y2 : β} {x3 y3 : γ} {x4 y4 : δ} (I : Inv X pins σ H s) (h : repT X.K H v [.dat x1, .dat x2, .dat x3, .dat x4]) (h' : repT X.K H v [.dat y1, .dat y2, .dat y3, .dat y4]) : (DEq.eqv x1 y1 && ((DEq.eqv x2 y2 && ((DEq.eqv x3 y3 && (DEq.eqv x4 y4)))))) = true := by
  obtain ⟨a, vs, rfl, t1, a1⟩ := h
  obtain ⟨b, ws, e, t2, a2⟩ := h'
  cases e
  cases I.tuple_inj t1 t2
  match vs, a1, a2 with
  | [v1, v2, v3, v4], ⟨p1, p2, p3, p4, _⟩, ⟨q1, q2, q3, q4, _⟩ => rw [DEq.same I p1 q1, DEq.same I p2 q2, DEq.same I p3 q3, DEq.same I p4 q4]; rfl
instance : DEq (T4 α β γ δ) := ⟨(max (DEq.dep α) (max (DEq.dep β) (max (DEq.dep γ) (DEq.dep δ)))) + 1, fun x y => (DEq.eqv x.a y.a && ((DEq.eqv x.b y.b && ((DEq.eqv x.c y.c && (DEq.eqv x.d y.d)))))), fun {X pins σ H s v x y} I h h' => same_tup4 I h h', fun {X pins σ H s A v w x y} I hu h h' => by
  obtain ⟨a, b, rfl, rfl, q⟩ := rc_tup4 I hu h h'
  refine eqS_ref (α := α) (fun e => ?_) q
  subst e
  exact same_tup4 I h h'⟩
instance : DRc (T4 α β γ δ) := ⟨fun {X pins σ H s A v w x y} I hu h h' => rc_tup4 I hu h h'⟩
end
section
variable {α β γ δ ε : Type} [Dat α] [DEq α] [Dat β] [DEq β] [Dat γ] [DEq γ] [Dat δ] [DEq δ] [Dat ε] [DEq ε]
theorem rc_tup5 {X : Cx} {pins : List (Addr × Obj)} {σ : L2.St} {H : Hp} {s : Shared} {A : Around} {v w : V} {x1 y1 : α} {x2 y2 : β} {x3 y3 : γ} {x4 y4 : δ} {x5 y5 : ε} (I : Inv X pins σ H s) (hu : A.units + ((max (DEq.dep α) (max (DEq.dep β) (max (DEq.dep γ) (max (DEq.dep δ) (DEq.dep ε))))) + 1) < cLine) (h : repT X.K H v [.dat x1, .dat x2, .dat x3, .dat x4, .dat x5]) (h' : repT X.K H w [.dat y1, .dat y2, .dat y3, .dat y4, .dat y5]) :
    ∃ a b, v = .ref a ∧ w = .ref b ∧ RQ1.RcP X.prog X.w A s (.ref a) (.ref b) (DEq.eqv x1 y1 && ((DEq.eqv x2 y2 && ((DEq.eqv x3 y3 && ((DEq.eqv x4 y4 && (DEq.eqv x5 y5)))))))) := by
  obtain ⟨a, vs, rfl, t1, a1⟩ := h
  obtain ⟨b, ws, rfl, t2, a2⟩ := h'
  match vs, ws, a1, a2 with
  | [v1, v2, v3, v4, v5], [w1, w2, w3, w4, w5], ⟨p1, p2, p3, p4, p5, _⟩, ⟨q1, q2, q3, q4, q5, _⟩ =>
    have hv := units_in1 hu
    have q := rc_tupS (A := A) I (f := fun j => if j = 0 then DEq.eqv x1 y1 else if j = 1 then DEq.eqv x2 y2 else if j = 2 then DEq.eqv x3 y3 else if j = 3 then DEq.eqv x4 y4 else DEq.eqv x5 y5) (by omega) t1 t2 rfl (fun j v w hj hk => by
      match j with
      | 0 => cases hj; cases hk; exact DEq.run I (by omega) p1 q1
      | 1 => cases hj; cases hk; exact DEq.run I (by omega) p2 q2
      | 2 => cases hj; cases hk; exact DEq.run I (by omega) p3 q3
      | 3 => cases hj; cases hk; exact DEq.run I (by omega) p4 q4
      | 4 => cases hj; cases hk; exact DEq.run I (by omega) p5 q5
      | j + 5 => simp at hj)
    exact ⟨a, b, rfl, rfl, by simpa [List.range_succ, Bool.and_assoc] using q⟩
theorem same_tup5 {X : Cx} {pins : List (Addr × Obj)} {σ : L2.St} {H : Hp} {s : Shared} {v : V} {x1 y1 : α} {x2 y2 : β} {x3 y3 : γ} {x4 y4 : δ} {x5 y5 : ε} (I : Inv X pins σ H s) (h : repT X.K H v [.dat x1, .dat x2, .dat x3, .dat x4, .dat x5]) (h' : repT X.K H v [.dat y1, .dat y2, .dat y3, .dat y4, .dat y5]) : (DEq.eqv x1 y1 && ((DEq.eqv x2 y2 && ((DEq.eqv x3 y3 && ((DEq.eqv x4 y4 && (DEq.eqv x5 y5)))))))) = true := by
  obtain ⟨a, vs, rfl, t1, a1⟩ := h
  obtain ⟨b, ws, e, t2, a2⟩ := h'
  cases e
  cases I.tuple_inj t1 t2
  match vs, a1, a2 with
  | [v1, v2, v3, v4, v5], ⟨p1, p2, p3, p4, p5, _⟩, ⟨q1, q2, q3, q4, q5, _⟩ => rw [DEq.same I p1 q1, DEq.same I p2 q2, DEq.same I p3 q3, DEq.same I p4 q4, DEq.same I p5 q5]; rfl
instance : DEq (T5 α β γ δ ε) := ⟨(max (DEq.dep α) (max (DEq.dep β) (max (DEq.dep γ) (max (DEq.dep δ) (DEq.dep ε))))) + 1, fun x y => (DEq.eqv x.a y.a && ((DEq.eqv x.b y.b && ((DEq.eqv x.c y.c && ((DEq.eqv x.d y.d && (DEq.eqv x.e y.e)))))))), fun {X pins σ H s v x y} I h h' => same_tup5 I h h', fun {X pins σ H s A v w x y} I hu h h' => by
  obtain ⟨a, b, rfl, rfl, q⟩ := rc_tup5 I hu h h'
  refine eqS_ref (α := α) (fun e => ?_) q
  subst e
  exact same_tup5 I h h'⟩
instance : DRc (T5 α β γ δ ε) := ⟨fun {X pins σ H s A v w x y} I hu h h' => rc_tup5 I hu h h'⟩
end
end R
set_option maxHeartbeats 400000
set_option autoImplicit false
/-! what is new comes back as one's own -/
namespace R
open PySem PySem.Spec PyProof.Rows L2
/-- a dict and more, as one's own pair -/
structure OS (α β : Type) where
  p : Dc α × β
instance {α β : Type} [Dat α] [Dat β] : Own (OS α β) where
  own K Hf H v L x := ∃ t a ws u, v = .ref t ∧ SqT K Hf t [.ref a, u] ∧ L = [a] ∧ H a = some (.dK ws) ∧ repD K Hf ws x.p.1.kvs ∧ Dat.rep K Hf u x.p.2
  frame := fun e f ⟨t, a, ws, u, h1, h2, h3, h4, h5, h6⟩ => ⟨t, a, ws, u, h1, e.tup h2, h3, by rw [f a (by rw [h3]; exact List.mem_singleton.mpr rfl)]; exact h4, h5.mono e, Dat.mono e h6⟩
/-- one's own, without lists and dicts within -/
class OwnNM (β : Type) [Own β] : Prop where
  cut : ∀ (K : PySem.W.Frag) (Hf Hf' H : Hp) (v : V) (L : List Addr) (x : β), (∀ a xs, Rd Hf a (.tup xs) → Rd Hf' a (.tup xs)) → Own.own K Hf H v L x → Own.own K Hf' H v L x
instance {α : Type} [Dat α] [NoMut α] : OwnNM (OL α) := ⟨fun K Hf Hf' H v L x h ⟨a, vs, h1, h2, h3, h4⟩ => ⟨a, vs, h1, h2, h3, Paired.imp h4 fun _ _ q => NoMut.cut K Hf Hf' _ _ h q⟩⟩
instance {α : Type} [Dat α] [NoMut α] : OwnNM (OD α) := ⟨fun K Hf Hf' H v L x h ⟨a, vs, h1, h2, h3, h4⟩ => ⟨a, vs, h1, h2, h3, Paired.imp h4 fun _ _ q => ⟨q.1, NoMut.cut K Hf Hf' _ _ h q.2⟩⟩⟩
instance {α β : Type} [Dat α] [NoMut α] [Dat β] [NoMut β] : OwnNM (OS α β) := ⟨fun K Hf Hf' H v L x h ⟨t, a, ws, u, h1, h2, h3, h4, h5, h6⟩ => ⟨t, a, ws, u, h1, cut_tup h h2, h3, h4, Paired.imp h5 fun _ _ q => ⟨q.1, NoMut.cut K Hf Hf' _ _ h q.2⟩, NoMut.cut K Hf Hf' _ _ h h6⟩⟩
theorem own_frzS {α β : Type} [Dat α] [Dat β] {K : PySem.W.Frag} {Hf H : Hp} {v : V} {L : List Addr} {x : Dc α × β} (h : Own.own K Hf H v L (OS.mk x)) (q : ∀ a ∈ L, Hf a = H a) : Dat.rep K Hf v x := by
  obtain ⟨t, a, ws, u, h1, h2, h3, h4, h5, h6⟩ := h
  exact ⟨t, [.ref a, u], h1, h2, ⟨a, ws, rfl, .inl (by rw [q a (by rw [h3]; exact List.mem_singleton.mpr rfl)]; exact h4), h5⟩, h6, trivial⟩
section
variable {X : Cx} {W : WX} {env env' : Env'} {ρ α β γ : Type} [Res ρ] [Dat α] [Dat β] [Dat γ] {po : Po ρ} {x : α} {y : β} {z : γ} {e a b c tg iter o : Expr} {es elts : List Expr} {pos p p2 pc p3 apos cpos tpos : Pos} {rest body : List Stmt} {xs ys : List α} {st : Stmt}
theorem sx_retO {ω : Type} [Own ω] {x : ω} {i : Nat} {n : Str} {po : Po ω} (h : env[i]? = some (.own x)) (hR : po.R x env) (hN : X.N[i]? = some n := by rfl) (hv : Vis X.env.scope n := by first | exact Or.inl rfl | exact Or.inr (Or.inl rfl) | exact Or.inr (Or.inr rfl)) (hd : (n == ("__debug__" : Str)) = false := by decide) (hc : (n == ("__classdict__" : Str)) = false := by decide) :
    SX X W [.Return (some (.Name n p)) pos] env po :=
  sx_of (pss_one (ps_ret (mE X _))) fun O fp σ H S D G => by
    obtain ⟨v, h1, h2⟩ := S.sl i _ h
    exact fun pins s I => (pe_var hN hv hd hc).run pins s σ H _ I ⟨v, h1, G.rt x env fp σ v H hR Keep.refl S ⟨fp i, fun a ha => ⟨i, ha⟩, h2⟩⟩
theorem sx_retE {ω : Type} [Own ω] {x : ω} {po : Po ω} (he : EN X e env x) (hR : po.R x env) : SX X W [.Return (some e) pos] env po :=
  sx_of (pss_one (ps_ret (mE X _))) fun O fp σ H S D G => he O fp σ H S _ fun v L H1 e1 hL hd ow => by
    have S1 := S.new (i := env.length) e1 hL hd ow
    rw [List.set_eq_of_length_le (Nat.le_refl _), List.set_eq_of_length_le (by rw [S.len]; exact Nat.le_refl _)] at S1
    refine G.rt x env _ σ v H1 hR (Keep.new (i := env.length) e1 hL) S1 ⟨L, fun a ha => ⟨env.length, by unfold setF; rw [if_pos rfl]; exact ha⟩, ow _ (Ex.le ?_)⟩
    exact wo_mono fun a z => by
      rcases z with z | ⟨j, z⟩
      · exact .inl (.inl z)
      · unfold setF at z
        split at z
        · exact .inr z
        · exact .inl (.inr ⟨j, z⟩)
theorem sx_retS {d : Dc α} {i : Nat} {n : Str} {j : Nat} {po : Po (OS α β)} (h : env[i]? = some (.own (OD.mk d))) (he : EX X b env y) (hR : po.R (OS.mk (d, y)) env) (hN : X.N[i]? = some n := by rfl) (hv : Vis X.env.scope n := by first | exact Or.inl rfl | exact Or.inr (Or.inl rfl) | exact Or.inr (Or.inr rfl)) (hd : (n == ("__debug__" : Str)) = false := by decide) (hc : (n == ("__classdict__" : Str)) = false := by decide)
    (hs : starEach [.Name n p, b] X.env = (false, eval (.Name n p) X.env) :: starEach [b] X.env := by rfl) (hs2 : starEach [b] X.env = (false, eval b X.env) :: starEach [] X.env := by rfl) : SX X W [.Return (some (.Tuple [.Name n p, b] j tpos)) pos] env po :=
  sx_of (pss_one (ps_ret (mE X _))) fun O fp σ H S D G => by
    obtain ⟨ad, ws, h1, h2, h3, h4⟩ := S.od h
    refine fun pins s I => (pe_tup (pa_cons (pe_var hN hv hd hc) (pa_cons (mE X b) pa_nil hs2) hs)).run pins s σ H _ I ⟨.ref ad, h1, ?_⟩
    refine he O fp σ H S _ fun u H1 e1 r1 => ⟨show 2 ≤ sizeLine from by decide, fun t ht => ?_⟩
    have S1 := S.ex e1
    have nt := S1.fresh ht
    have e2 : Ex H1 (upd H1 t (.tup [.ref ad, u])) := Ex.new ht
    have le := (wo_ex (U := UU O fp) (e1.trans e2)).le
    refine G.rt _ env fp σ _ _ hR (Keep.ex (e1.trans e2)) (S1.ex e2) ⟨[ad], fun a ha => ⟨i, by rw [h2]; exact ha⟩, t, ad, ws, u, rfl, .inl (.inl (upd_out nt)), rfl, (e1.trans e2) ad _ h3, h4.mono le, Dat.mono (wo_ex e2).le r1⟩
theorem en_call {ω : Type} [Own ω] {n : Str} {k m : Nat} {ps : List Str} {dvs : List V} {dxs xs : List Sl} {Φ : Phi ω} {r : ω} (d : DefOk X.prog X.w X.K X.mg X.base n k ps dvs (spP X.K X.mg m Φ)) (hr : Room k X.A) (ha : EA X (e :: es) env xs) (hΦ : Φ (xs ++ dxs) (fun r' => r' = r) (fun _ => False)) (hd : ∀ H, ARep X.K H dvs dxs)
    (hl : (xs ++ dxs).length = m := by rfl) (hg : Gl X n := by rfl) (hdb : (n == ("__debug__" : Str)) = false := by decide) (he : starEach (e :: es) X.env = (false, eval e X.env) :: starEach es X.env := by rfl) (hpl : (backTo pos (starEach es X.env)).any (·.1) = false := by rfl) : EN X (.Call (.Name n p) (e :: es) [] pos) env r := by
  obtain ⟨f, fd, ds, F, hm, hk, hb, hv⟩ := d.ex
  intro O fp σ H S Q q pins s I
  refine (pe_call F hr hg hm hk hb hv passL (mA X _) hdb he hpl).run pins s σ H Q I ?_
  refine ha O fp σ H S _ fun vs H1 e1 r1 => ?_
  have r2 := dvs_rep r1 (hd _)
  have S2 := ARep.sok (S.ex e1).bndU r2
  refine ⟨by rw [r2.length]; exact hl, UU O fp, xs ++ dxs, _, _, hΦ, S2, fun r' v H' hr' e2 ro => ?_, fun _ _ _ _ h => h.elim⟩
  subst hr'
  obtain ⟨L, g1, g2, g3⟩ := ro
  exact q v L H' (e1.trans e2) (fun a ha => e1.free (g1 a ha)) g2 fun Hf le => Own.frame le (fun _ _ => rfl) g3
theorem cut_slot {O : Addr → Prop} {fp : Nat → List Addr} {H' Hf : Hp} {i : Nat} {ad : Addr} {ob : HO} {L : List Addr} (hL : fp i = [ad]) (hl : H' ad = some ob) (ho : ∀ ys, ob ≠ .tup ys) (ho' : ∀ o ys, ob ≠ .frz o (.tup ys)) (le : Le (wo H' (fun a => UU O fp a ∨ a ∈ L)) Hf) (b : Addr) (ys : List V) (t : Rd (wo H' (fun a => UU O (setF fp i []) a ∨ a ∈ L)) b (.tup ys)) : Rd Hf b (.tup ys) := by
  have nb : b ≠ ad := fun z => by
    subst z
    rcases t with t | ⟨o, t⟩
    · have := (wo_some t).2; rw [hl] at this; exact ho ys (Option.some.inj this)
    · have := (wo_some t).2; rw [hl] at this; exact ho' o ys (Option.some.inj this)
  refine le b _ trivial ?_
  have nu : ¬ (UU O (setF fp i []) b ∨ b ∈ L) := by rcases t with t | ⟨o, t⟩ <;> exact (wo_some t).1
  have nu2 : ¬ (UU O fp b ∨ b ∈ L) := fun z => by
    rcases z with (z | ⟨j, z⟩) | z
    · exact nu (.inl (.inl z))
    · by_cases ej : j = i
      · subst ej
        rw [hL] at z
        exact nb (List.mem_singleton.mp z)
      · exact nu (.inl (.inr ⟨j, by unfold setF; rw [if_neg ej]; exact z⟩))
    · exact nu (.inr z)
  rcases t with t | ⟨o, t⟩
  · exact .inl (by rw [wo_out nu2]; exact (wo_some t).2)
  · exact .inr ⟨o, by rw [wo_out nu2]; exact (wo_some t).2⟩
theorem en_thawL {ω : Type} [Own ω] [OwnNM ω] {r : ω} {i : Nat} (hi : env[i]? = some (.own (OL.mk xs))) (h : EN X e (env.set i (.dat xs)) r) : EN X e env r := fun O fp σ H S Q q => h O (setF fp i []) σ H (S.frz hi fun v Hf r q => own_frzL r q) Q fun v L H' e1 hL hd ow => q v L H' e1 hL hd fun Hf le => by
  obtain ⟨ad, vs, h1, h2, h3, h4⟩ := S.ol hi
  exact OwnNM.cut X.K _ _ H' v L r (fun b ys t => cut_slot h2 (e1 ad _ h3) (fun _ z => by cases z) (fun _ _ z => by cases z) le b ys t) (ow _ (Le.refl _))
theorem en_thawD {ω : Type} [Own ω] [OwnNM ω] {r : ω} {i : Nat} {d : Dc α} (hi : env[i]? = some (.own (OD.mk d))) (h : EN X e (env.set i (.dat d)) r) : EN X e env r := fun O fp σ H S Q q => h O (setF fp i []) σ H (S.frz hi fun v Hf r q => own_frzD r q) Q fun v L H' e1 hL hd ow => q v L H' e1 hL hd fun Hf le => by
  obtain ⟨ad, vs, h1, h2, h3, h4⟩ := S.od hi
  exact OwnNM.cut X.K _ _ H' v L r (fun b ys t => cut_slot h2 (e1 ad _ h3) (fun _ z => by cases z) (fun _ _ z => by cases z) le b ys t) (ow _ (Le.refl _))
theorem ex_newS {x : Dc α × β} (h : EN X e env (OS.mk x)) : EX X e env x := ex_new h fun _ _ _ _ _ => own_frzS
theorem sx_frzS {i : Nat} {x : Dc α × β} (hi : env[i]? = some (.own (OS.mk x))) (h : SX X W rest (env.set i (.dat x)) po) : SX X W rest env po := fun O fp σ H S D G => h O (setF fp i []) σ H (S.frz hi fun v Hf r q => own_frzS r q) D (G.step Keep.frz')
/-! l.clear(), d.clear(), x = d.pop(k, e) -/
theorem sx_clearL {i : Nat} {st : Stmt} (ps : PS X st (tDrop (tBM0 X.K "list" rClear (tVar i)))) (hi : env[i]? = some (.own (OL.mk xs))) (h : SX X W rest (env.set i (.own (OL.mk ([] : List α)))) po) : SX X W (st :: rest) env po :=
  sx_step ps (fun O fp σ H S D q => by
    obtain ⟨ad, vs, h1, h2, h3, h4⟩ := S.ol hi
    refine ⟨.ref ad, h1, .inl ⟨rfl, vs, .inl (.inl h3)⟩, ad, vs, rfl, rfl, h3, ?_⟩
    exact q fp σ _ (Keep.mut ⟨i, by rw [h2]; exact List.mem_singleton.mpr rfl⟩) (S.mut hi h2 fun v' hv' => by
      rw [h1] at hv'
      cases hv'
      exact ⟨ad, [], rfl, rfl, upd_same, .nil⟩)) h
theorem sx_clearD {i : Nat} {st : Stmt} {d : Dc α} (ps : PS X st (tDrop (tBM0 X.K "dict" rDClear (tVar i)))) (hi : env[i]? = some (.own (OD.mk d))) (h : SX X W rest (env.set i (.own (OD.mk (⟨[]⟩ : Dc α)))) po) : SX X W (st :: rest) env po :=
  sx_step ps (fun O fp σ H S D q => by
    obtain ⟨ad, vs, h1, h2, h3, h4⟩ := S.od hi
    refine ⟨.ref ad, h1, .inr (.inr (.inl ⟨rfl, .inl ⟨vs, h3⟩⟩)), ad, vs, rfl, rfl, h3, ?_⟩
    exact q fp σ _ (Keep.mut ⟨i, by rw [h2]; exact List.mem_singleton.mpr rfl⟩) (S.mut hi h2 fun v' hv' => by
      rw [h1] at hv'
      cases hv'
      exact ⟨ad, [], rfl, rfl, upd_same, .nil⟩)) h
theorem repD.none {K : PySem.W.Frag} {H : Hp} {ws : List (Key × V)} {kvs : List (Str × α)} (h : repD K H ws kvs) {k : Str} (n : valV ws (.inr k) = none) : dropD kvs k = kvs := by
  unfold repD at h
  induction h with
  | nil => rfl
  | @cons q p _ _ h0 t ih =>
    obtain ⟨q1, q2⟩ := q
    have h1 : q1 = .inr p.1 := h0.1
    subst h1
    by_cases e : p.1 = k
    · subst e
      rw [valV_pos rfl] at n
      cases n
    · rw [valV_neg (p := ((.inr p.1 : Key), q2)) (fun z => e (Sum.inr.inj z))] at n
      unfold dropD at ih ⊢
      rw [List.filter_cons, decide_eq_true e, if_pos rfl, ih n]
theorem sx_popD {i j : Nat} {n : Str} {d : Dc α} {k : Str} (hN : X.N.Nodup) (m : M2 X o "pop" apos a e cpos) (hpv : PE X o (tVar i)) (hi : env[i]? = some (.own (OD.mk d))) (hk : EX X a env k) (he : EX X e env x) (hij : i ≠ j) (h : SX X W rest ((env.set i (.own (OD.mk (d.drop k)))).set j (.dat ((d.look k).getD x))) po) (hj : X.N[j]? = some n := by rfl) (hx : Loc X.env.scope n := by first | exact Or.inl rfl | exact Or.inr rfl)
    (hs : swapsWith (.Call (.Attribute o "pop" apos) [a, e] [] cpos) (some (.Name n p2)) pos.line X.env = pure false := by rfl) (hf : X.fn n = true ∨ X.env.scope.names.lookup n = some .local := by first | exact .inl rfl | exact .inr rfl | assumption) : SX X W (.Assign [.Name n p2] (.Call (.Attribute o "pop" apos) [a, e] [] cpos) pos :: rest) env po :=
  sx_step (ps_set hN hj hx (pe_dpop2 hpv (mE X a) (mE X e) m) hs hf) (fun O fp σ H S D q => by
    obtain ⟨ad, ws, h1, h2, h3, h4⟩ := S.od hi
    refine ⟨.ref ad, h1, ad, rfl, .inl ⟨ws, .inl h3⟩, hk O fp σ H S _ fun u H1 e1 r1 => he O fp σ H1 (S.ex e1) _ fun w H2 e2 r2 => ?_⟩
    have r1 : u = .str k := r1
    subst r1
    have S2 := (S.ex e1).ex e2
    have h5 := h4.mono (wo_ex (U := UU O fp) (e1.trans e2)).le
    refine ⟨ws, .inr k, (e1.trans e2) ad _ h3, rfl, fun v hv => ?_, fun hn => ?_⟩
    · have kp : Keep fp H fp (upd H2 ad (.dK (dropK ws (.inr k)))) := (Keep.ex (e1.trans e2)).trans (Keep.mut ⟨i, by rw [h2]; exact List.mem_singleton.mpr rfl⟩)
      have S3 := S2.mut (o := .dK (dropK ws (.inr k))) hi h2 (y := OD.mk (d.drop k)) (fun v' hv' => by
        rw [h1] at hv'
        cases hv'
        exact ⟨ad, _, rfl, rfl, upd_same, h5.drop k⟩)
      refine q fp _ _ kp (S3.set j ?_)
      rw [wo_upd_in (.inr ⟨i, by rw [h2]; exact List.mem_singleton.mpr rfl⟩)]
      rcases h5.look k with ⟨n1, n2⟩ | ⟨v', x', hv1, hx1, rx1⟩
      · rw [n1] at hv; cases hv
      · rw [hv1] at hv
        cases hv
        show Dat.rep _ _ _ ((lookD d.kvs k).getD x)
        rw [hx1]
        exact rx1
    · have e0 : d.drop k = d := by
        show Dc.mk (dropD d.kvs k) = d
        rw [h5.none hn]
      have e3 : env.set i (.own (OD.mk (d.drop k))) = env := by
        rw [e0]
        have hl := (List.getElem?_eq_some_iff.mp hi).1
        have := (List.getElem?_eq_some_iff.mp hi).2
        rw [← this, List.set_getElem_self]
      rw [e3] at q
      refine q fp _ _ (Keep.ex (e1.trans e2)) (S2.set j ?_)
      rcases h5.look k with ⟨n1, n2⟩ | ⟨v', x', hv1, hx1, rx1⟩
      · show Dat.rep _ _ _ ((lookD d.kvs k).getD x)
        rw [n2]
        exact r2
      · rw [hn] at hv1; cases hv1) h
end
end R
set_option maxHeartbeats 400000
set_option autoImplicit false
namespace R
open PySem PySem.Spec PyProof.Rows L2
section
variable {X : Cx} {W : WX} {env env' : Env'} {ρ α β γ : Type} [Res ρ] [Dat α] [Dat β] [Dat γ] {po : Po ρ} {x : α} {y : β} {z : γ} {e a b c tg iter o : Expr} {es elts : List Expr} {pos p p2 pc p3 apos cpos tpos : Pos} {rest body : List Stmt} {xs ys : List α} {st : Stmt}
theorem SOk.os {O : Addr → Prop} {fp : Nat → List Addr} {σ : L2.St} {H : Hp} {i : Nat} {q : Dc α × β} (S : SOk X.K O fp env σ H) (hi : env[i]? = some (.own (OS.mk q))) : ∃ t ad ws u, σ[i]? = some (some (.ref t)) ∧ fp i = [ad] ∧ SqT X.K (wo H (UU O fp)) t [.ref ad, u] ∧ H ad = some (.dK ws) ∧ repD X.K (wo H (UU O fp)) ws q.1.kvs ∧ Dat.rep X.K (wo H (UU O fp)) u q.2 := by
  obtain ⟨v, h1, t, ad, ws, u, h2, h3, h4, h5, h6, h7⟩ := S.sl i _ hi
  subst h2
  exact ⟨t, ad, ws, u, h1, h4, h3, h5, h6, h7⟩
theorem cut_slot1 {O : Addr → Prop} {fp : Nat → List Addr} {H' : Hp} {i : Nat} {ad : Addr} {ob : HO} (hL : fp i = [ad]) (hl : H' ad = some ob) (ho : ∀ ys, ob ≠ .tup ys) (ho' : ∀ o ys, ob ≠ .frz o (.tup ys)) (b : Addr) (ys : List V) (t : Rd (wo H' (UU O (setF fp i []))) b (.tup ys)) : Rd (wo H' (UU O fp)) b (.tup ys) := by
  have e : (fun a => UU O (setF fp i []) a ∨ a ∈ ([] : List Addr)) = UU O (setF fp i []) := by funext a; simp
  have e2 : (fun a => UU O fp a ∨ a ∈ ([] : List Addr)) = UU O fp := by funext a; simp
  have := cut_slot (O := O) (L := []) hL hl ho ho' (by rw [e2]; exact Le.refl (wo H' (UU O fp))) b ys (by rw [e]; exact t)
  exact this
theorem ex_thawS [NoMut γ] {i : Nat} {q : Dc α × β} (hi : env[i]? = some (.own (OS.mk q))) (h : EX X e (env.set i (.dat q)) z) : EX X e env z := fun O fp σ H S Q k => h O (setF fp i []) σ H (S.frz hi fun v Hf r q => own_frzS r q) Q fun v H' e1 r => k v H' e1 (by
  obtain ⟨t, ad, ws, u, h1, h2, h3, h4, h5, h6⟩ := S.os hi
  exact NoMut.cut X.K _ _ v z (fun b ys t => cut_slot1 h2 (e1 ad _ h4) (fun _ z => by cases z) (fun _ _ z => by cases z) b ys t) r)
theorem et_thawS {k : Bool} {i : Nat} {q : Dc α × β} (hi : env[i]? = some (.own (OS.mk q))) (h : ET X e (env.set i (.dat q)) k) : ET X e env k := fun O fp σ H S Q r => h O (setF fp i []) σ H (S.frz hi fun v Hf r q => own_frzS r q) Q r
theorem SOk.osMut {O : Addr → Prop} {fp : Nat → List Addr} {σ : L2.St} {H : Hp} {i : Nat} {q : Dc α × β} (S : SOk X.K O fp env σ H) (hi : env[i]? = some (.own (OS.mk q))) {t ad : Addr} {ws : List (Key × V)} {u : V} {d : Dc α} {ws' : List (Key × V)} (h1 : σ[i]? = some (some (.ref t))) (h2 : fp i = [ad]) (h3 : SqT X.K (wo H (UU O fp)) t [.ref ad, u]) (hr : repD X.K (wo H (UU O fp)) ws' d.kvs) (h6 : Dat.rep X.K (wo H (UU O fp)) u q.2) : SOk X.K O fp (env.set i (.own (OS.mk (d, q.2)))) σ (upd H ad (.dK ws')) :=
  S.mut hi h2 fun v' hv' => by
    rw [h1] at hv'
    cases hv'
    exact ⟨t, ad, ws', u, rfl, h3, rfl, upd_same, hr, h6⟩
/-- x[0].clear() of one's own pair -/
theorem sx_clearS {i : Nat} {n : Str} {q : Dc α × β} {j : Nat} {pos' : Pos} (hi : env[i]? = some (.own (OS.mk q))) (h : SX X W rest (env.set i (.own (OS.mk ((⟨[]⟩ : Dc α), q.2)))) po) (hN : X.N[i]? = some n := by rfl) (hv : Vis X.env.scope n := by first | exact Or.inl rfl | exact Or.inr (Or.inl rfl) | exact Or.inr (Or.inr rfl)) (hd : (n == ("__debug__" : Str)) = false := by decide) (hc : (n == ("__classdict__" : Str)) = false := by decide)
    (hbase : attributeBase (.Subscript (.Name n p) (.Constant (.int 0) j pos') p2) "clear" X.env (eval (.Subscript (.Name n p) (.Constant (.int 0) j pos') p2) X.env) = eval (.Subscript (.Name n p) (.Constant (.int 0) j pos') p2) X.env := by rfl) (hline : (apos.endLine == cpos.line) = true := by rfl) (hs : swapsWith (.Call (.Attribute (.Subscript (.Name n p) (.Constant (.int 0) j pos') p2) "clear" apos) [] [] cpos) none pos.line X.env = pure false := by rfl) :
    SX X W (.Expr (.Call (.Attribute (.Subscript (.Name n p) (.Constant (.int 0) j pos') p2) "clear" apos) [] [] cpos) pos :: rest) env po :=
  sx_step (ps_expr (pe_dclear (pe_ix ix_tup (pe_var hN hv hd hc) pe_int (fun _ _ => rfl)) hbase hline) hs) (fun O fp σ H S D k => by
    obtain ⟨t, ad, ws, u, h1, h2, h3, h4, h5, h6⟩ := S.os hi
    refine ⟨.ref t, h1, t, [.ref ad, u], 0, _, rfl, rfl, wo_le.tup h3, atI_nat (j := 0) rfl, .inr (.inr (.inl ⟨rfl, .inl ⟨ws, h4⟩⟩)), ad, ws, rfl, rfl, h4, ?_⟩
    exact k fp σ _ (Keep.mut ⟨i, by rw [h2]; exact List.mem_singleton.mpr rfl⟩) (S.osMut hi (ws := ws) h1 h2 h3 .nil h6)) h
/-- f(..)[0].clear() of something new -/
theorem sx_clearT {q : Dc α × β} {j : Nat} {pos' : Pos} (he : EN X e env (OS.mk q)) (h : SX X W rest env po)
    (hbase : attributeBase (.Subscript e (.Constant (.int 0) j pos') p2) "clear" X.env (eval (.Subscript e (.Constant (.int 0) j pos') p2) X.env) = eval (.Subscript e (.Constant (.int 0) j pos') p2) X.env := by rfl) (hline : (apos.endLine == cpos.line) = true := by rfl) (hs : swapsWith (.Call (.Attribute (.Subscript e (.Constant (.int 0) j pos') p2) "clear" apos) [] [] cpos) none pos.line X.env = pure false := by rfl) :
    SX X W (.Expr (.Call (.Attribute (.Subscript e (.Constant (.int 0) j pos') p2) "clear" apos) [] [] cpos) pos :: rest) env po :=
  sx_step (ps_expr (pe_dclear (pe_ix ix_tup (mE X e) pe_int (fun _ _ => rfl)) hbase hline) hs) (fun O fp σ H S D k => by
    refine he O fp σ H S _ fun v L H1 e1 hL hd ow => ?_
    obtain ⟨t, ad, ws, u, h1, h3, h2, h4, h5, h6⟩ := ow _ (Le.refl _)
    subst h1
    have fr : H ad = none := hL ad (by rw [h2]; exact List.mem_singleton.mpr rfl)
    have e2 : Ex H (upd H1 ad (.dK [])) := fun b ob hb => by
      rw [upd_ne (ne_of_none hb fr)]
      exact e1 b ob hb
    refine ⟨t, [.ref ad, u], 0, _, rfl, rfl, wo_le.tup h3, atI_nat (j := 0) rfl, .inr (.inr (.inl ⟨rfl, .inl ⟨ws, h4⟩⟩)), ad, ws, rfl, rfl, h4, ?_⟩
    exact k fp σ _ (Keep.ex e2) (S.ex e2)) h
end
end R
set_option maxHeartbeats 400000
set_option autoImplicit false
namespace R
open PySem PySem.Spec PyProof.Rows L2
section
variable {X : Cx} {W : WX} {env env' : Env'} {ρ α β γ : Type} [Res ρ] [Dat α] [Dat β] [Dat γ] {po : Po ρ} {x : α} {y : β} {z : γ} {e a b c tg iter o : Expr} {es elts : List Expr} {pos p p2 pc p3 apos cpos tpos : Pos} {rest body : List Stmt} {xs ys : List α} {st : Stmt}
/-- str(i) -/
def showI (i : Int) : Str := toString i
def Shown (i : Int) : Prop := i.natAbs.log2 < 1920
theorem ex_strI {i : Int} (hm : X.mg "str" = none) (h : EX X a env i) (g : Shown i) (he : starEach [a] X.env = (false, eval a X.env) :: starEach [] X.env := by rfl) (hpl : (backTo pos (starEach [] X.env)).any (·.1) = false := by rfl) (hg : Gl X "str" := by rfl) : EX X (.Call (.Name "str" p) [a] [] pos) env (showI i) :=
  ex_callTy call_str_int hm (by decide +kernel) (ea1 h he) (rc1 fun U v H bn r Q q => ⟨i, by rw [show v = .int i from r], g, q _ H (Ex.refl H) rfl⟩) hg (by decide) (by decide) he hpl
/-- f(..).append(x) of something new -/
theorem sx_appT (he : EN X e env (OL.mk xs)) (hx : EX X a env x) (hz : xs.length < 100000) (h : SX X W rest env po) (ps : PS X st (tDrop (tBM X.K "list" rAppend (tE X e) (tCons (tE X a) tNil)))) : SX X W (st :: rest) env po :=
  sx_step ps (fun O fp σ H S D k => by
    refine he O fp σ H S _ fun v L H1 e1 hL hd ow => ?_
    obtain ⟨ad, vs, h1, h2, h3, h4⟩ := ow _ (Le.refl _)
    subst h1
    have fr : H ad = none := hL ad (by rw [h2]; exact List.mem_singleton.mpr rfl)
    refine ⟨.inl ⟨rfl, vs, .inl (.inl h3)⟩, hx O fp σ H1 (S.ex e1) _ fun u H2 e2 r2 => ⟨ad, vs, u, rfl, rfl, e2 ad _ h3, ?_, ?_⟩⟩
    · rw [Paired.length h4]
      exact Nat.lt_of_lt_of_le hz (by decide)
    · have e3 : Ex H (upd H2 ad (.lst (vs ++ [u]))) := fun b ob hb => by
        rw [upd_ne (ne_of_none hb fr)]
        exact e2 b ob (e1 b ob hb)
      exact k fp σ _ (Keep.ex e3) (S.ex e3)) h
end
end R
set_option maxHeartbeats 1000000
set_option autoImplicit false
/-! calls that are handed one's own lists and change them -/
namespace R
open PySem PySem.Spec PyProof.Rows L2
/-- one's own, at a value that is known -/
structure At (β : Type) where
  v : V
  x : β
instance {β : Type} [Own β] : Own (At β) := ⟨fun K Hf H v L a => v = a.v ∧ Own.own K Hf H v L a.x, fun h hc ⟨e, q⟩ => ⟨e, Own.frame h hc q⟩⟩
section
variable {K : PySem.W.Frag} {O : Addr → Prop} {fp : Nat → List Addr} {env : Env'} {σ : L2.St} {H H' : Hp}
theorem SOk.pin {β : Type} [Own β] {i : Nat} {x : β} (S : SOk K O fp env σ H) (hi : env[i]? = some (.own x)) : ∃ v, σ[i]? = some (some v) ∧ SOk K O fp (env.set i (.own (At.mk v x))) σ H := by
  obtain ⟨v, h1, h2⟩ := S.sl i _ hi
  refine ⟨v, h1, { len := by rw [List.length_set]; exact S.len, bnd := S.bnd, fpO := S.fpO, sep := S.sep, dom := S.dom, sl := fun j s q => ?_ }⟩
  by_cases e : i = j
  · subst e
    rw [List.getElem?_set_self (List.getElem?_eq_some_iff.mp hi).1] at q
    cases q
    exact ⟨v, h1, rfl, h2⟩
  · rw [List.getElem?_set_ne e] at q
    exact S.sl j s q
theorem SOk.unpin {β : Type} [Own β] {i : Nat} {v : V} {x : β} (S : SOk K O fp env σ H) (hi : env[i]? = some (.own (At.mk v x))) : SOk K O fp (env.set i (.own x)) σ H where
  len := by rw [List.length_set]; exact S.len
  bnd := S.bnd
  fpO := S.fpO
  sep := S.sep
  dom := S.dom
  sl := fun j s q => by
    by_cases e : i = j
    · subst e
      rw [List.getElem?_set_self (List.getElem?_eq_some_iff.mp hi).1] at q
      cases q
      obtain ⟨w, h1, h2, h3⟩ := S.sl i _ hi
      exact ⟨w, h1, h3⟩
    · rw [List.getElem?_set_ne e] at q
      exact S.sl j s q
end
/-- what is handed over: data, or one's own in a slot -/
inductive Arg : Type 1
  | dat (s : Sl)
  | slot (i : Nat) (keep : Bool)
def AM (K : PySem.W.Frag) (Hf : Hp) (σ : L2.St) : List V → List Arg → Prop
  | [], [] => True
  | v :: vs, .dat (.dat (i := i) x) :: as => i.rep K Hf v x ∧ AM K Hf σ vs as
  | v :: vs, .slot i _ :: as => σ[i]? = some (some v) ∧ AM K Hf σ vs as
  | _, _ => False
theorem AM.mono {K : PySem.W.Frag} {H H' : Hp} {σ : L2.St} (e : Le H H') : ∀ {vs : List V} {as : List Arg}, AM K H σ vs as → AM K H' σ vs as
  | [], [], _ => trivial
  | _ :: _, .dat (.dat (i := i) x) :: _, h => ⟨i.mono e h.1, AM.mono e h.2⟩
  | _ :: _, .slot _ _ :: _, h => ⟨h.1, AM.mono e h.2⟩
  | [], _ :: _, h => by simp [AM] at h
  | _ :: _, [], h => by simp [AM] at h
  | _ :: _, .dat .any :: _, h => by simp [AM] at h
  | _ :: _, .dat (.own (i := _) _) :: _, h => by simp [AM] at h
theorem AM.len {K : PySem.W.Frag} {H : Hp} {σ : L2.St} : ∀ {vs : List V} {as : List Arg}, AM K H σ vs as → vs.length = as.length
  | [], [], _ => rfl
  | _ :: _, .dat (.dat (i := i) x) :: _, h => congrArg (· + 1) (AM.len h.2)
  | _ :: _, .slot _ _ :: _, h => congrArg (· + 1) (AM.len h.2)
  | [], _ :: _, h => by simp [AM] at h
  | _ :: _, [], h => by simp [AM] at h
  | _ :: _, .dat .any :: _, h => by simp [AM] at h
  | _ :: _, .dat (.own (i := _) _) :: _, h => by simp [AM] at h
/-- what the called def's slots hold at its start -/
def pinS (v : V) : Option Sl → Sl
  | some (.own (i := _) x) => .own (At.mk v x)
  | _ => .any
def mkA (env : Env') : List V → List Arg → Env'
  | v :: vs, .dat s :: as => s :: mkA env vs as
  | v :: vs, .slot i b :: as => (if b = true then pinS v env[i]? else env[i]?.getD .any) :: mkA env vs as
  | _, _ => []
/-- what the caller's slots hold behind the call -/
def upA (e' : Env') : Nat → List Arg → Env' → Env'
  | _, [], env => env
  | k, .dat _ :: as, env => upA e' (k + 1) as env
  | k, .slot i b :: as, env => upA e' (k + 1) as (env.set i (if b = true then e'.getD k .any else .any))
def isPin (v : V) : Sl → Prop
  | s => ∃ (β : Type) (_ : Own β) (y : β), s = .own (At.mk v y)
theorem mkA_len (env : Env') : ∀ {vs : List V} {as : List Arg}, vs.length = as.length → (mkA env vs as).length = vs.length
  | [], [], _ => rfl
  | _ :: _, .dat _ :: _, h => congrArg (· + 1) (mkA_len env (Nat.succ.inj h))
  | _ :: _, .slot _ _ :: _, h => congrArg (· + 1) (mkA_len env (Nat.succ.inj h))
theorem AM.get {K : PySem.W.Frag} {H : Hp} {σ : L2.St} {env : Env'} : ∀ {vs : List V} {as : List Arg}, AM K H σ vs as → ∀ {k : Nat} {v : V}, vs[k]? = some v → (∃ (α : Type) (i : Dat α) (x : α), as[k]? = some (.dat (.dat x)) ∧ (mkA env vs as)[k]? = some (.dat x) ∧ i.rep K H v x) ∨ ∃ (i : Nat) (b : Bool), as[k]? = some (.slot i b) ∧ (mkA env vs as)[k]? = some (if b = true then pinS v env[i]? else env[i]?.getD .any) ∧ σ[i]? = some (some v)
  | v :: vs, .dat (.dat (i := i) x) :: as, h, 0, w, e => by cases e; exact .inl ⟨_, i, x, rfl, rfl, h.1⟩
  | v :: vs, .slot i b :: as, h, 0, w, e => by cases e; exact .inr ⟨i, b, rfl, rfl, h.1⟩
  | v :: vs, .dat (.dat (i := i) x) :: as, h, k + 1, w, e => AM.get (vs := vs) (as := as) h.2 (by simpa using e)
  | v :: vs, .slot i b :: as, h, k + 1, w, e => AM.get (vs := vs) (as := as) h.2 (by simpa using e)
  | [], _, _, k, w, e => by simp at e
  | _ :: _, [], h, _, _, _ => by simp [AM] at h
  | _ :: _, .dat .any :: _, h, _, _, _ => by simp [AM] at h
  | _ :: _, .dat (.own (i := _) _) :: _, h, _, _, _ => by simp [AM] at h
/-- which slot stands at which place -/
def posOf (as : List Arg) (i : Nat) : Option Nat := as.findIdx? fun a => match a with
  | .slot j _ => decide (j = i)
  | .dat _ => false
theorem posOf_some {as : List Arg} {i k : Nat} (h : posOf as i = some k) : ∃ b, as[k]? = some (.slot i b) := by
  unfold posOf at h
  obtain ⟨h1, h2, _⟩ := List.findIdx?_eq_some_iff_getElem.mp h
  rw [List.getElem?_eq_getElem h1]
  cases e : as[k] with
  | dat s => rw [e] at h2; simp at h2
  | slot j b =>
    rw [e] at h2
    have : j = i := by simpa using h2
    rw [this]
    exact ⟨b, rfl⟩
theorem posOf_none {as : List Arg} {i : Nat} (h : posOf as i = none) (k : Nat) (b : Bool) : as[k]? ≠ some (.slot i b) := fun e => by
  unfold posOf at h
  rw [List.findIdx?_eq_none_iff] at h
  have := h _ (List.mem_of_getElem? e)
  simp at this
/-- each slot is handed over once -/
def Once (as : List Arg) : Prop := ∀ (k l i : Nat) (b c : Bool), as[k]? = some (.slot i b) → as[l]? = some (.slot i c) → k = l
theorem posOf_is {as : List Arg} (h1 : Once as) {k i : Nat} {b : Bool} (h : as[k]? = some (.slot i b)) : posOf as i = some k := by
  cases e : posOf as i with
  | none => exact absurd h (posOf_none e k b)
  | some l =>
    obtain ⟨c, hc⟩ := posOf_some e
    rw [h1 k l i b c h hc]
theorem upA_get (e' : Env') : ∀ (as : List Arg) (k : Nat) (env : Env') (j : Nat), (∀ (l : Nat) (b : Bool), as[l]? ≠ some (.slot j b)) → (upA e' k as env)[j]? = env[j]?
  | [], _, _, _, _ => rfl
  | .dat _ :: as, k, env, j, h => upA_get e' as (k + 1) env j fun l b => by simpa using h (l + 1) b
  | .slot i b :: as, k, env, j, h => by
    show (upA e' (k + 1) as _)[j]? = _
    rw [upA_get e' as (k + 1) _ j fun l b => by simpa using h (l + 1) b, List.getElem?_set_ne fun e => h 0 b (by rw [e]; rfl)]
theorem upA_at (e' : Env') : ∀ (as : List Arg) (k : Nat) (env : Env') (l j : Nat) (b : Bool), Once as → as[l]? = some (.slot j b) → j < env.length → (upA e' k as env)[j]? = some (if b = true then e'.getD (k + l) .any else .any)
  | .dat _ :: as, k, env, 0, j, _, _, h, _ => by simp at h
  | .dat _ :: as, k, env, l + 1, j, b, o, h, hl => by
    have := upA_at e' as (k + 1) env l j b (fun a c i x y q1 q2 => by have := o (a + 1) (c + 1) i x y (by simpa using q1) (by simpa using q2); omega) (by simpa using h) hl
    rw [show k + 1 + l = k + (l + 1) by omega] at this
    exact this
  | .slot i b' :: as, k, env, 0, j, b, o, h, hl => by
    have e : i = j ∧ b' = b := by simpa using h
    obtain ⟨e, e2⟩ := e
    subst e e2
    show (upA e' (k + 1) as _)[i]? = _
    rw [upA_get e' as (k + 1) _ i fun l b z => by have := o 0 (l + 1) i b' b rfl (by simpa using z); omega, List.getElem?_set_self hl]
    rfl
  | .slot i b' :: as, k, env, l + 1, j, b, o, h, hl => by
    have := upA_at e' as (k + 1) (env.set i (if b' = true then e'.getD k .any else .any)) l j b (fun a c i x y q1 q2 => by have := o (a + 1) (c + 1) i x y (by simpa using q1) (by simpa using q2); omega) (by simpa using h) (by rw [List.length_set]; exact hl)
    rw [show k + 1 + l = k + (l + 1) by omega] at this
    exact this
  | [], _, _, _, _, _, _, h, _ => by simp at h
theorem upA_len (e' : Env') : ∀ (as : List Arg) (k : Nat) (env : Env'), (upA e' k as env).length = env.length
  | [], _, _ => rfl
  | .dat _ :: as, k, env => upA_len e' as (k + 1) env
  | .slot i b :: as, k, env => by rw [show upA e' k (.slot i b :: as) env = upA e' (k + 1) as (env.set i (if b = true then e'.getD k .any else .any)) from rfl, upA_len e' as, List.length_set]
def Pins (vs : List V) (as : List Arg) (e' : Env') : Prop := ∀ (l i : Nat) (v : V), as[l]? = some (.slot i true) → vs[l]? = some v → isPin v (e'.getD l .any)
/-- the heart of a call with one's own handed over -/
theorem callM_core {K : PySem.W.Frag} {O : Addr → Prop} {fp : Nat → List Addr} {env : Env'} {σ : L2.St} {H : Hp} {vs : List V} {as : List Arg} (S1 : SOk K O fp env σ H) (r1 : AM K (wo H (UU O fp)) σ vs as) (ho : Once as) (hown : ∀ (l i : Nat) (b : Bool), as[l]? = some (.slot i b) → ∃ (β : Type) (_ : Own β) (x : β), env[i]? = some (.own x)) :
    ∃ (Oc : Addr → Prop) (fc : Nat → List Addr), SOk K Oc fc (mkA env vs as) (vs.map some) H ∧ (∀ i a, a ∈ fc i → i < as.length ∧ ∃ (j k : Nat) (b : Bool), as[k]? = some (Arg.slot j b) ∧ a ∈ fp j) ∧ (∀ a, (O a ∨ ∃ j, posOf as j = none ∧ a ∈ fp j) → Oc a) ∧ ∀ env' fp' σ' H', Pins vs as env' → Keep fc H fp' H' → SOk K Oc fp' env' σ' H' → ∃ f2, Keep fp H f2 H' ∧ SOk K O f2 (upA env' 0 as env) σ H' ∧ (∀ a, UU O f2 a → UU Oc fp' a) := by
  have hlen : vs.length = as.length := r1.len
  let Oc : Addr → Prop := fun a => O a ∨ ∃ j, posOf as j = none ∧ a ∈ fp j
  let fc : Nat → List Addr := fun k => match as[k]? with
    | some (.slot i _) => fp i
    | _ => []
  have fc_in : ∀ k a, a ∈ fc k → ∃ i b, as[k]? = some (.slot i b) ∧ a ∈ fp i := fun k a z => by
    cases q : as[k]? with
    | none => simp only [fc, q] at z; cases z
    | some b =>
      cases b with
      | dat s => simp only [fc, q] at z; cases z
      | slot i c => simp only [fc, q] at z; exact ⟨i, c, rfl, z⟩
  have fc_at : ∀ k i b, as[k]? = some (.slot i b) → fc k = fp i := fun k i b q => by simp only [fc, q]
  have hU : UU Oc fc = UU O fp := by
    funext a
    apply propext
    constructor
    · rintro ((z | ⟨j, _, z⟩) | ⟨k, z⟩)
      · exact .inl z
      · exact .inr ⟨j, z⟩
      · obtain ⟨i, _, _, z⟩ := fc_in k a z
        exact .inr ⟨i, z⟩
    · rintro (z | ⟨j, z⟩)
      · exact .inl (.inl z)
      · cases q : posOf as j with
        | none => exact .inl (.inr ⟨j, q, z⟩)
        | some k =>
          obtain ⟨b, hb⟩ := posOf_some q
          exact .inr ⟨k, by rw [fc_at k j b hb]; exact z⟩
  refine ⟨Oc, fc, {
    len := by rw [List.length_map, mkA_len env hlen]
    bnd := fun a z => by
      rcases z with z | ⟨j, _, z⟩
      · exact S1.bnd a z
      · exact S1.dom j a z
    fpO := fun k a z => by
      obtain ⟨i, b, q, z⟩ := fc_in k a z
      rintro (y | ⟨j, q2, y⟩)
      · exact S1.fpO i a z y
      · have := S1.sep i j a z y
        subst this
        exact posOf_none q2 k b q
    sep := fun k l a z y => by
      obtain ⟨i, b, q, z⟩ := fc_in k a z
      obtain ⟨j, c, q2, y⟩ := fc_in l a y
      have := S1.sep i j a z y
      subst this
      exact ho k l i b c q q2
    dom := fun k a z => by
      obtain ⟨i, _, q, z⟩ := fc_in k a z
      exact S1.dom i a z
    sl := fun l s q => by
      rw [hU]
      have hk : l < vs.length := by rw [← mkA_len env hlen]; exact (List.getElem?_eq_some_iff.mp q).1
      have ev : vs[l]? = some vs[l] := List.getElem?_eq_getElem hk
      rcases r1.get (env := env) ev with ⟨α', i, x, q1, q2, q3⟩ | ⟨i, b, q1, q2, q3⟩
      · rw [q2] at q
        cases q
        exact ⟨vs[l], by rw [List.getElem?_map, ev]; rfl, q3⟩
      · obtain ⟨β, ib, x, hx⟩ := hown l i b q1
        rw [q2, hx] at q
        obtain ⟨v', y1, y2⟩ := S1.sl i _ hx
        rw [q3] at y1
        have y1 : vs[l] = v' := by injection y1 with y1; injection y1
        subst y1
        cases b with
        | true =>
          cases q
          exact ⟨vs[l], by rw [List.getElem?_map, ev]; rfl, rfl, by rw [fc_at l i true q1]; exact y2⟩
        | false =>
          cases q
          exact ⟨vs[l], by rw [List.getElem?_map, ev]; rfl, by rw [fc_at l i false q1]; exact y2⟩ }, fun l a z => ?_, fun a z => z, fun env' fp' σ' H' hpin kp S' => ?_⟩
  · obtain ⟨i, b, q, y⟩ := fc_in l a z
    exact ⟨(List.getElem?_eq_some_iff.mp q).1, i, l, b, q, y⟩
  · let f2 : Nat → List Addr := fun j => match posOf as j with
      | some k => (match as[k]? with
        | some (.slot _ true) => fp' k
        | _ => [])
      | none => fp j
    have f2_n : ∀ j, posOf as j = none → f2 j = fp j := fun j q => by simp only [f2, q]
    have f2_t : ∀ j k i, posOf as j = some k → as[k]? = some (.slot i true) → f2 j = fp' k := fun j k i q q2 => by simp only [f2, q, q2]
    have f2_f : ∀ j k i, posOf as j = some k → as[k]? = some (.slot i false) → f2 j = [] := fun j k i q q2 => by simp only [f2, q, q2]
    have f2_s : ∀ j k a, posOf as j = some k → a ∈ f2 j → a ∈ fp' k := fun j k a q z => by
      obtain ⟨b, hb⟩ := posOf_some q
      cases b with
      | true => rw [f2_t j k j q hb] at z; exact z
      | false => rw [f2_f j k j q hb] at z; cases z
    have KP : Keep fp H f2 H' := ⟨fun a o n q => kp.1 a o (fun ⟨k, z⟩ => by obtain ⟨i, _, _, z⟩ := fc_in k a z; exact n ⟨i, z⟩) q, fun j a z => by
      cases q : posOf as j with
      | none => rw [f2_n j q] at z; exact .inl ⟨j, z⟩
      | some k =>
        rcases kp.2 k a (f2_s j k a q z) with ⟨l, y⟩ | y
        · obtain ⟨i, _, _, y⟩ := fc_in l a y
          exact .inl ⟨i, y⟩
        · exact .inr y⟩
    have hsub : ∀ a, UU O f2 a → UU Oc fp' a := fun a z => by
      rcases z with z | ⟨j, z⟩
      · exact .inl (.inl z)
      · cases q : posOf as j with
        | none => rw [f2_n j q] at z; exact .inl (.inr ⟨j, q, z⟩)
        | some k => exact .inr ⟨k, f2_s j k a q z⟩
    have hle : Le (wo H' (UU Oc fp')) (wo H' (UU O f2)) := (wo_mono hsub).le
    refine ⟨f2, KP, {
      len := by rw [upA_len]; exact S1.len
      bnd := fun a z => S'.bnd a (.inl z)
      fpO := fun j a z y => by
        cases q : posOf as j with
        | none => rw [f2_n j q] at z; exact S1.fpO j a z y
        | some k => exact S'.fpO k a (f2_s j k a q z) (.inl y)
      sep := fun i j a z y => by
        cases q : posOf as i with
        | none =>
          rw [f2_n i q] at z
          cases q2 : posOf as j with
          | none => rw [f2_n j q2] at y; exact S1.sep i j a z y
          | some l => exact absurd (.inr ⟨i, q, z⟩) (S'.fpO l a (f2_s j l a q2 y))
        | some k =>
          have z := f2_s i k a q z
          cases q2 : posOf as j with
          | none => rw [f2_n j q2] at y; exact absurd (.inr ⟨j, q2, y⟩) (S'.fpO k a z)
          | some l =>
            have y := f2_s j l a q2 y
            have := S'.sep k l a z y
            subst this
            obtain ⟨b, hb⟩ := posOf_some q
            obtain ⟨c, hc⟩ := posOf_some q2
            have := hb.symm.trans hc
            injection this with this
            injection this
      dom := fun j a z => by
        cases q : posOf as j with
        | none => rw [f2_n j q] at z; exact S'.bnd a (.inr ⟨j, q, z⟩)
        | some k => exact S'.dom k a (f2_s j k a q z)
      sl := fun j s q => by
        cases qp : posOf as j with
        | none =>
          rw [upA_get env' as 0 env j (posOf_none qp)] at q
          have r := S1.sl j s q
          cases s with
          | any => exact trivial
          | dat x =>
            obtain ⟨v, y1, y2⟩ := r
            exact ⟨v, y1, Dat.mono KP.frz.le y2⟩
          | own x =>
            obtain ⟨v, y1, y2⟩ := r
            refine ⟨v, y1, ?_⟩
            rw [f2_n j qp]
            refine Own.frame KP.frz.le (fun a z => ?_) y2
            obtain ⟨o, w⟩ := S1.dom j a z
            rw [w]
            exact kp.1 a o (fun ⟨l, y⟩ => by
              obtain ⟨i, b, q3, y⟩ := fc_in l a y
              have := S1.sep i j a y z
              subst this
              exact posOf_none qp l b q3) w
        | some l =>
          obtain ⟨b, hs⟩ := posOf_some qp
          have hj : j < env.length := by
            obtain ⟨β, ib, x, hx⟩ := hown l j b hs
            exact (List.getElem?_eq_some_iff.mp hx).1
          rw [upA_at env' as 0 env l j b ho hs hj, Nat.zero_add] at q
          cases b with
          | false =>
            have q : Sl.any = s := by injection q
            subst q
            exact trivial
          | true =>
            have hlv : l < vs.length := by rw [hlen]; exact (List.getElem?_eq_some_iff.mp hs).1
            have ev : vs[l]? = some vs[l] := List.getElem?_eq_getElem hlv
            obtain ⟨β, ib, y, hy⟩ := hpin l j vs[l] hs ev
            have es : s = .own (At.mk vs[l] y) := by
              have q : env'.getD l .any = s := by injection q
              rw [← q]; exact hy
            subst es
            have el : env'[l]? = some (.own (At.mk vs[l] y)) := by
              rw [List.getD_eq_getElem?_getD] at hy
              cases w : env'[l]? with
              | none => rw [w] at hy; cases hy
              | some t => rw [w] at hy; rw [show t = _ from hy]
            obtain ⟨v', y1, y2, y3⟩ := S'.sl l _ el
            have y2 : v' = vs[l] := y2
            subst y2
            have hσ : σ[j]? = some (some vs[l]) := by
              rcases r1.get (env := env) ev with ⟨α', i, x, q1, _⟩ | ⟨i, b', q1, _, q3⟩
              · rw [hs] at q1; cases q1
              · rw [hs] at q1
                cases q1
                exact q3
            refine ⟨vs[l], hσ, rfl, ?_⟩
            rw [f2_t j l j qp hs]
            exact Own.frame hle (fun _ _ => rfl) y3 }, hsub⟩
/-- the promise of a def that changes what it is handed: args, what holds of its slots at its end -/
abbrev PhiM (ρ : Type) := List Sl → (ρ → Env' → Prop) → Prop
def spM {ρ : Type} [Dat ρ] (K : PySem.W.Frag) (n : Nat) (Φ : PhiM ρ) : Sp := fun vs H Q _ =>
  vs.length = n ∧ ∃ O fp args R, Φ args R ∧ (∀ i a, a ∈ fp i → i < n) ∧ SOk K O fp args (vs.map some) H ∧
    (∀ r env' fp' σ' v H', R r env' → Keep fp H fp' H' → SOk K O fp' env' σ' H' → Dat.rep K (wo H' (UU O fp')) v r → Q v H')
theorem SOk.padM {K : PySem.W.Frag} {O : Addr → Prop} {fp : Nat → List Addr} {args : Env'} {vs : List V} {H : Hp} (S : SOk K O fp args (vs.map some) H) (n : Nat) : SOk K O fp (args ++ List.replicate n .any) (vs.map some ++ List.replicate n none) H where
  len := by simp [S.len] <;> simpa using S.len
  bnd := S.bnd
  fpO := S.fpO
  sep := S.sep
  dom := S.dom
  sl := fun i s q => by
    have hl : vs.length = args.length := by simpa using S.len
    by_cases h : i < args.length
    · rw [List.getElem?_append_left h] at q
      rw [List.getElem?_append_left (by simpa [hl] using h)]
      exact S.sl i s q
    · rw [List.getElem?_append_right (by omega)] at q
      have := List.mem_of_getElem? q
      rw [List.mem_replicate] at this
      rw [this.2]
      exact trivial
section
variable {P : Program} {w : World} {K : PySem.W.Frag} {mg : Str → Option Value} {base : Heap}
theorem fn_okM {ρ : Type} [Dat ρ] {x qual : Str} {st : Stmt} {f : Addr} {fd : FuncData} {N ps : List Str} {k n : Nat} {Φ : PhiM ρ} (F : Fun K x qual st f fd) (S : FnScope N ps (defScope st)) (hn : ps.length = n)
    (hb : ∀ (args : Env') (R : ρ → Env' → Prop), Φ args R → args.length = n → ∀ (cdv : Value) (A : Around) (outer : List PySem.Env) (s : Shared) (H : Hp) (E : XK) (W : WX), Room k (A.deeper (envOfC qual (defScope st) s.heap.objs.size f cdv)) → Takes (cxX P w K mg base N qual (defScope st) f cdv A outer s H E) W →
      SX (cxX P w K mg base N qual (defScope st) f cdv A outer s H E) W (defBody st) (args ++ List.replicate (N.length - n) .any) { N := fun e => ∃ r, R r e ∧ ∀ Hf, Dat.rep K Hf .non r, R := R }) :
    FnOk P w K mg base (L2.CX P w) (k + 1) f fd ps (spM K n Φ) := by
  refine F.okX S (fun vs H Q E h => h.1.trans hn.symm) fun cdv A outer s H vs Q E hr h => ?_
  obtain ⟨hl, O, fp, args, R, ph, hfp, SS, hq⟩ := h
  have hlen : args.length = n := by
    have := SS.len
    rw [List.length_map] at this
    omega
  refine ⟨tSs _ _, mSs _ _, ?_⟩
  have tk : Takes (cxOf (L2.CX P w) P w K mg base N qual (defScope st) f cdv A outer s H E) (fun cls d _ H => E cls d H) := takes_of rfl rfl rfl rfl
  refine hb args R ph hlen cdv A outer s H E (fun cls d _ H => E cls d H) hr tk O fp _ H ?_ _ ?_
  · have := SS.padM (N.length - n)
    rw [show L2.start N vs = vs.map some ++ List.replicate (N.length - n) none from by unfold L2.start; rw [hl]]
    exact this
  · exact ⟨fun e fp' σ' H' ⟨r, h1, h2⟩ kp S' => hq r e fp' σ' .non H' h1 kp S' (h2 _), fun r e fp' σ' v H' h1 kp S' rp => hq r e fp' σ' v H' h1 kp S' rp, fun x e fp' σ' cls d H' h1 kp S' xa => h1.elim, fun _ _ _ _ h => h.elim, fun _ _ _ _ h => h.elim⟩
end
def EAM (X : Cx) (es : List Expr) (env : Env') (as : List Arg) : Prop :=
  ∀ O fp σ H, SOk X.K O fp env σ H → ∀ Q : List V → Hp → Prop, (∀ vs H', Ex H H' → AM X.K (wo H' (UU O fp)) σ vs as → Q vs H') → tA X es σ H Q
section
variable {X : Cx} {W : WX} {env env' : Env'} {ρ α β γ : Type} [Res ρ] [Dat α] [Dat β] [Dat γ] {po : Po ρ} {x : α} {y : β} {z : γ} {e a b c tg : Expr} {es : List Expr} {pos p p2 : Pos} {st : Stmt} {sts rest : List Stmt}
theorem eam_nil : EAM X [] env [] := fun O fp σ H S Q q pins s pos I => (pa_nil).run pins s pos σ H Q I (q [] H (Ex.refl H) trivial)
theorem eam_dat {as : List Arg} (h : EX X e env x) (hr : EAM X es env as) (hs : starEach (e :: es) X.env = (false, eval e X.env) :: starEach es X.env := by rfl) : EAM X (e :: es) env (.dat (.dat x) :: as) := fun O fp σ H S Q q pos pins s I =>
  (pa_cons (mE X e) (mA X es) hs).run pos pins s σ H Q I (h O fp σ H S _ fun v H1 e1 r1 => hr O fp σ H1 (S.ex e1) _ fun vs H2 e2 r2 => q _ H2 (e1.trans e2) ⟨Dat.mono (wo_ex e2).le r1, r2⟩)
theorem eam_slot (keep : Bool) {i : Nat} {n : Str} {as : List Arg} {β : Type} [Own β] {x : β} (h : env[i]? = some (.own x)) (hr : EAM X es env as) (hN : X.N[i]? = some n := by rfl) (hv : Vis X.env.scope n := by first | exact Or.inl rfl | exact Or.inr (Or.inl rfl) | exact Or.inr (Or.inr rfl)) (hd : (n == ("__debug__" : Str)) = false := by decide) (hc : (n == ("__classdict__" : Str)) = false := by decide)
    (hs : starEach (.Name n p :: es) X.env = (false, eval (.Name n p) X.env) :: starEach es X.env := by rfl) : EAM X (.Name n p :: es) env (.slot i keep :: as) := fun O fp σ H S Q q pos pins s I => by
  obtain ⟨v, h1, _⟩ := S.sl i _ h
  exact (pa_cons (pe_var hN hv hd hc) (mA X es) hs).run pos pins s σ H Q I ⟨v, h1, hr O fp σ H S _ fun vs H2 e2 r2 => q _ H2 e2 ⟨h1, r2⟩⟩
/-- f(..) as a statement, some of one's own handed over -/
theorem sx_callM {n : Str} {k m : Nat} {ps : List Str} {Φ : PhiM Unit} {as : List Arg} (d : DefOk X.prog X.w X.K X.mg X.base n k ps [] (spM X.K m Φ)) (hr : Room k X.A) (ha : EAM X (e :: es) env as) (ho : Once as) (hown : ∀ (l i : Nat) (b : Bool), as[l]? = some (.slot i b) → ∃ (β : Type) (_ : Own β) (x : β), env[i]? = some (.own x)) (hl : as.length = m)
    (h : ∀ vs : List V, vs.length = as.length → ∃ R, Φ (mkA env vs as) R ∧ ∀ r e', R r e' → Pins vs as e' ∧ SX X W rest (upA e' 0 as env) po)
    (hg : Gl X n := by rfl) (hdb : (n == ("__debug__" : Str)) = false := by decide) (he : starEach (e :: es) X.env = (false, eval e X.env) :: starEach es X.env := by rfl) (hpl : (backTo pos (starEach es X.env)).any (·.1) = false := by rfl) (hs : swapsWith (.Call (.Name n p) (e :: es) [] pos) none p2.line X.env = pure false := by rfl) :
    SX X W (.Expr (.Call (.Name n p) (e :: es) [] pos) p2 :: rest) env po := by
  obtain ⟨f, fd, ds, F, hm, hk, hb, hv⟩ := d.ex
  refine sx_cons (fun e2 => SX X W rest e2 po) (s1_of (ps_expr (pe_call F hr hg hm hk hb hv passL (mA X _) hdb he hpl) hs) fun O fp σ H S D G => ha O fp σ H S _ fun vs H1 e1 r1 => ?_) fun _ h => h
  obtain ⟨R, hΦ, hR⟩ := h vs r1.len
  show spM X.K m Φ (vs ++ []) H1 _ _
  rw [List.append_nil]
  obtain ⟨Oc, fc, SC, hfc, hOc, fin⟩ := callM_core (S.ex e1) r1 ho hown
  refine ⟨r1.len.trans hl, Oc, fc, mkA env vs as, R, hΦ, fun i a z => by rw [← hl]; exact (hfc i a z).1, SC, fun r env' fp' σ' v H' hr' kp S' _ => ?_⟩
  obtain ⟨hpin, hrest⟩ := hR r env' hr'
  obtain ⟨f2, k2, S2, _⟩ := fin env' fp' σ' H' hpin kp S'
  exact G.nx _ f2 σ H' hrest ((Keep.ex e1).trans k2) S2
/-- t = f(..), some of one's own handed over -/
theorem sx_asgM {n : Str} {k m : Nat} {ps : List Str} {ρ' : Type} [Dat ρ'] {Φ : PhiM ρ'} {as : List Arg} (d : DefOk X.prog X.w X.K X.mg X.base n k ps [] (spM X.K m Φ)) (hr : Room k X.A) (ha : EAM X (e :: es) env as) (ho : Once as) (hown : ∀ (l i : Nat) (b : Bool), as[l]? = some (.slot i b) → ∃ (β : Type) (_ : Own β) (x : β), env[i]? = some (.own x)) (hl : as.length = m)
    (h : ∀ vs : List V, vs.length = as.length → ∃ R, Φ (mkA env vs as) R ∧ ∀ r e', R r e' → Pins vs as e' ∧ ∃ env2, GX X tg r (upA e' 0 as env) env2 ∧ SX X W rest env2 po)
    (hg : Gl X n := by rfl) (hdb : (n == ("__debug__" : Str)) = false := by decide) (he : starEach (e :: es) X.env = (false, eval e X.env) :: starEach es X.env := by rfl) (hpl : (backTo pos (starEach es X.env)).any (·.1) = false := by rfl) (hs : swapsWithSole [tg] (.Call (.Name n p) (e :: es) [] pos) p2.line X.env = pure false := by rfl) (hw : swappedStores [tg] (.Call (.Name n p) (e :: es) [] pos) X.env = pure none := by rfl) (h1 : (assignEach [tg] X.env).map (·.2) = [assign tg X.env] := by rfl) :
    SX X W (.Assign [tg] (.Call (.Name n p) (e :: es) [] pos) p2 :: rest) env po := by
  obtain ⟨f, fd, ds, F, hm, hk, hb, hv⟩ := d.ex
  refine sx_cons (fun e2 => SX X W rest e2 po) (s1_of (ps_asg (pe_call F hr hg hm hk hb hv passL (mA X _) hdb he hpl) (mG X tg) hs hw h1) fun O fp σ H S D G => ha O fp σ H S _ fun vs H1 e1 r1 => ?_) fun _ h => h
  obtain ⟨R, hΦ, hR⟩ := h vs r1.len
  show spM X.K m Φ (vs ++ []) H1 _ _
  rw [List.append_nil]
  obtain ⟨Oc, fc, SC, hfc, hOc, fin⟩ := callM_core (S.ex e1) r1 ho hown
  refine ⟨r1.len.trans hl, Oc, fc, mkA env vs as, R, hΦ, fun i a z => by rw [← hl]; exact (hfc i a z).1, SC, fun r env' fp' σ' v H' hr' kp S' rv => ?_⟩
  obtain ⟨hpin, env2, hgx, hrest⟩ := hR r env' hr'
  obtain ⟨f2, k2, S2, sub⟩ := fin env' fp' σ' H' hpin kp S'
  refine hgx O f2 σ H' v S2 (Dat.mono (wo_mono sub).le rv) _ fun σ3 S3 => ?_
  exact G.nx _ f2 σ3 H' hrest ((Keep.ex e1).trans k2) S3
/-- the promise of a def that eats what it is handed and hands back what is one's own -/
def spMO {ω : Type} [Own ω] (K : PySem.W.Frag) (n : Nat) (Φ : PhiM ω) : Sp := fun vs H Q _ =>
  vs.length = n ∧ ∃ O fp args R, Φ args R ∧ (∀ i a, a ∈ fp i → i < n) ∧ SOk K O fp args (vs.map some) H ∧
    (∀ r env' fp' σ' v H' L, R r env' → Keep fp H fp' H' → SOk K O fp' env' σ' H' → (∀ a ∈ L, ∃ i, a ∈ fp' i) → Own.own K (wo H' (UU O fp')) H' v L r → Q v H')
section
variable {P : Program} {w : World} {K : PySem.W.Frag} {mg : Str → Option Value} {base : Heap}
theorem fn_okMO {ω : Type} [Own ω] {x qual : Str} {st : Stmt} {f : Addr} {fd : FuncData} {N ps : List Str} {k n : Nat} {Φ : PhiM ω} (F : Fun K x qual st f fd) (S : FnScope N ps (defScope st)) (hn : ps.length = n)
    (hb : ∀ (args : Env') (R : ω → Env' → Prop), Φ args R → args.length = n → ∀ (cdv : Value) (A : Around) (outer : List PySem.Env) (s : Shared) (H : Hp) (E : XK) (W : WX), Room k (A.deeper (envOfC qual (defScope st) s.heap.objs.size f cdv)) → Takes (cxX P w K mg base N qual (defScope st) f cdv A outer s H E) W →
      SX (cxX P w K mg base N qual (defScope st) f cdv A outer s H E) W (defBody st) (args ++ List.replicate (N.length - n) .any) { N := fun _ => False, R := R }) :
    FnOk P w K mg base (L2.CX P w) (k + 1) f fd ps (spMO K n Φ) := by
  refine F.okX S (fun vs H Q E h => h.1.trans hn.symm) fun cdv A outer s H vs Q E hr h => ?_
  obtain ⟨hl, O, fp, args, R, ph, hfp, SS, hq⟩ := h
  have hlen : args.length = n := by
    have := SS.len
    rw [List.length_map] at this
    omega
  refine ⟨tSs _ _, mSs _ _, ?_⟩
  have tk : Takes (cxOf (L2.CX P w) P w K mg base N qual (defScope st) f cdv A outer s H E) (fun cls d _ H => E cls d H) := takes_of rfl rfl rfl rfl
  refine hb args R ph hlen cdv A outer s H E (fun cls d _ H => E cls d H) hr tk O fp _ H ?_ _ ?_
  · have := SS.padM (N.length - n)
    rw [show L2.start N vs = vs.map some ++ List.replicate (N.length - n) none from by unfold L2.start; rw [hl]]
    exact this
  · exact ⟨fun e fp' σ' H' h1 kp S' => h1.elim, fun r e fp' σ' v H' h1 kp S' ⟨L, hL, ow⟩ => hq r e fp' σ' v H' L h1 kp S' hL ow, fun x e fp' σ' cls d H' h1 kp S' xa => h1.elim, fun _ _ _ _ h => h.elim, fun _ _ _ _ h => h.elim⟩
end
/-- what one owns after a call that ate some of it and handed back x -/
theorem SOk.eaten {K : PySem.W.Frag} {O Oc : Addr → Prop} {fp fc fp' : Nat → List Addr} {env env' : Env'} {σ σ' : L2.St} {H H' : Hp} {as : List Arg} {β : Type} [Own β] (S : SOk K O fp env σ H) (ho : Once as) (hne : ∀ (l i : Nat), as[l]? ≠ some (Arg.slot i true))
    (hown : ∀ (l i : Nat) (b : Bool), as[l]? = some (.slot i b) → ∃ (β : Type) (_ : Own β) (x : β), env[i]? = some (.own x))
    (hfc : ∀ i a, a ∈ fc i → i < as.length ∧ ∃ (j k : Nat) (b : Bool), as[k]? = some (Arg.slot j b) ∧ a ∈ fp j) (hOc : ∀ a, (O a ∨ ∃ j, posOf as j = none ∧ a ∈ fp j) → Oc a) (kp : Keep fc H fp' H') (S' : SOk K Oc fp' env' σ' H')
    {i : Nat} {x : β} {v : V} {L : List Addr} (hL : ∀ a ∈ L, ∃ k, a ∈ fp' k) (ow : Own.own K (wo H' (UU Oc fp')) H' v L x) :
    ∃ f2, Keep fp H f2 H' ∧ SOk K O f2 ((upA env' 0 as env).set i (.own x)) (σ.set i (some v)) H' := by
  let f2 : Nat → List Addr := fun j => if j = i then L else if posOf as j = none then fp j else []
  have f2_i : f2 i = L := by simp only [f2, if_pos]
  have f2_n : ∀ j, j ≠ i → posOf as j = none → f2 j = fp j := fun j h q => by simp only [f2, if_neg h, if_pos q]
  have f2_s : ∀ j, j ≠ i → posOf as j ≠ none → f2 j = [] := fun j h q => by simp only [f2, if_neg h, if_neg q]
  have in2 : ∀ j a, a ∈ f2 j → (j = i ∧ a ∈ L) ∨ (j ≠ i ∧ posOf as j = none ∧ a ∈ fp j) := fun j a z => by
    by_cases h : j = i
    · subst h
      rw [f2_i] at z
      exact .inl ⟨rfl, z⟩
    · by_cases q : posOf as j = none
      · rw [f2_n j h q] at z; exact .inr ⟨h, q, z⟩
      · rw [f2_s j h q] at z; cases z
  have Lout : ∀ a ∈ L, ¬ Oc a := fun a ha => by
    obtain ⟨k, hk⟩ := hL a ha
    exact S'.fpO k a hk
  have KP : Keep fp H f2 H' := ⟨fun a o n q => kp.1 a o (fun ⟨k, z⟩ => by
    obtain ⟨_, j, _, _, _, y⟩ := hfc k a z
    exact n ⟨j, y⟩) q, fun j a z => by
    rcases in2 j a z with ⟨_, y⟩ | ⟨_, _, y⟩
    · obtain ⟨k, hk⟩ := hL a y
      rcases kp.2 k a hk with ⟨l, w⟩ | w
      · obtain ⟨_, j2, _, _, _, y2⟩ := hfc l a w
        exact .inl ⟨j2, y2⟩
      · exact .inr w
    · exact .inl ⟨j, y⟩⟩
  have sub : ∀ a, UU O f2 a → UU Oc fp' a := fun a z => by
    rcases z with z | ⟨j, z⟩
    · exact .inl (hOc a (.inl z))
    · rcases in2 j a z with ⟨_, y⟩ | ⟨_, q, y⟩
      · obtain ⟨k, hk⟩ := hL a y
        exact .inr ⟨k, hk⟩
      · exact .inl (hOc a (.inr ⟨j, q, y⟩))
  refine ⟨f2, KP, {
    len := by rw [List.length_set, List.length_set, upA_len]; exact S.len
    bnd := fun a z => S'.bnd a (hOc a (.inl z))
    fpO := fun j a z y => by
      rcases in2 j a z with ⟨_, w⟩ | ⟨_, _, w⟩
      · exact Lout a w (hOc a (.inl y))
      · exact S.fpO j a w y
    sep := fun j k a z y => by
      rcases in2 j a z with ⟨e1, w⟩ | ⟨e1, q1, w⟩ <;> rcases in2 k a y with ⟨e2, w2⟩ | ⟨e2, q2, w2⟩
      · rw [e1, e2]
      · exact absurd (hOc a (.inr ⟨k, q2, w2⟩)) (Lout a w)
      · exact absurd (hOc a (.inr ⟨j, q1, w⟩)) (Lout a w2)
      · exact S.sep j k a w w2
    dom := fun j a z => by
      rcases in2 j a z with ⟨_, w⟩ | ⟨_, q, w⟩
      · obtain ⟨k, hk⟩ := hL a w
        exact S'.dom k a hk
      · exact S'.bnd a (hOc a (.inr ⟨j, q, w⟩))
    sl := fun j s q => by
      by_cases e' : i = j
      · subst e'
        have hl : i < (upA env' 0 as env).length := by
          have := (List.getElem?_eq_some_iff.mp q).1
          simpa using this
        rw [List.getElem?_set_self hl] at q
        cases q
        refine ⟨v, by rw [List.getElem?_set_self (by rw [S.len, ← upA_len env' as 0 env]; exact hl)], ?_⟩
        rw [f2_i]
        exact Own.frame (wo_mono sub).le (fun _ _ => rfl) ow
      · rw [List.getElem?_set_ne e'] at q
        rw [List.getElem?_set_ne e']
        cases qp : posOf as j with
        | some l =>
          obtain ⟨b, hs⟩ := posOf_some qp
          cases b with
          | true => exact absurd hs (hne l j)
          | false =>
            obtain ⟨β', ib, y, hy⟩ := hown l j false hs
            rw [upA_at env' as 0 env l j false ho hs (List.getElem?_eq_some_iff.mp hy).1] at q
            have q : Sl.any = s := by injection q
            subst q
            exact trivial
        | none =>
          rw [upA_get env' as 0 env j (posOf_none qp)] at q
          have r := S.sl j s q
          rw [f2_n j (fun z => e' z.symm) qp]
          cases s with
          | any => exact trivial
          | dat x =>
            obtain ⟨u, y1, y2⟩ := r
            exact ⟨u, y1, Dat.mono KP.frz.le y2⟩
          | own x =>
            obtain ⟨u, y1, y2⟩ := r
            refine ⟨u, y1, Own.frame KP.frz.le (fun a z => ?_) y2⟩
            obtain ⟨o, w⟩ := S.dom j a z
            rw [w]
            exact kp.1 a o (fun ⟨l, y⟩ => by
              obtain ⟨_, j2, k2, b, q3, y3⟩ := hfc l a y
              have := S.sep j2 j a y3 z
              subst this
              exact posOf_none qp k2 b q3) w }⟩
theorem sx_asgMO {X : Cx} {W : WX} {env : Env'} {ρ : Type} [Res ρ] {po : Po ρ} {e : Expr} {es : List Expr} {pos p p2 p3 : Pos} {rest : List Stmt} {n nm : Str} {k m i : Nat} {ps : List Str} {ω : Type} [Own ω] {Φ : PhiM ω} {as : List Arg} (hN : X.N.Nodup) (d : DefOk X.prog X.w X.K X.mg X.base n k ps [] (spMO X.K m Φ)) (hr : Room k X.A) (ha : EAM X (e :: es) env as) (ho : Once as) (hown : ∀ (l i : Nat) (b : Bool), as[l]? = some (.slot i b) → ∃ (β : Type) (_ : Own β) (x : β), env[i]? = some (.own x)) (hl : as.length = m)
    (hne : ∀ (l i : Nat), as[l]? ≠ some (.slot i true))
    (h : ∀ vs : List V, vs.length = as.length → ∃ R, Φ (mkA env vs as) R ∧ ∀ r e', R r e' → SX X W rest ((upA e' 0 as env).set i (.own r)) po)
    (hi : X.N[i]? = some nm := by rfl) (hx : Loc X.env.scope nm := by first | exact Or.inl rfl | exact Or.inr rfl) (hf : X.fn nm = true ∨ X.env.scope.names.lookup nm = some .local := by first | exact .inl rfl | exact .inr rfl | assumption)
    (hg : Gl X n := by rfl) (hdb : (n == ("__debug__" : Str)) = false := by decide) (he : starEach (e :: es) X.env = (false, eval e X.env) :: starEach es X.env := by rfl) (hpl : (backTo pos (starEach es X.env)).any (·.1) = false := by rfl) (hs : swapsWith (.Call (.Name n p) (e :: es) [] pos) (some (.Name nm p3)) p2.line X.env = pure false := by rfl) :
    SX X W (.Assign [.Name nm p3] (.Call (.Name n p) (e :: es) [] pos) p2 :: rest) env po := by
  obtain ⟨f, fd, ds, F, hm, hk, hb, hv⟩ := d.ex
  refine sx_cons (fun e2 => SX X W rest e2 po) (s1_of (ps_set hN hi hx (pe_call F hr hg hm hk hb hv passL (mA X _) hdb he hpl) hs hf) fun O fp σ H S D G => ha O fp σ H S _ fun vs H1 e1 r1 => ?_) fun _ h => h
  obtain ⟨R, hΦ, hR⟩ := h vs r1.len
  show spMO X.K m Φ (vs ++ []) H1 _ _
  rw [List.append_nil]
  obtain ⟨Oc, fc, SC, hfc, hOc, fin⟩ := callM_core (S.ex e1) r1 ho hown
  refine ⟨r1.len.trans hl, Oc, fc, mkA env vs as, R, hΦ, fun i a z => by rw [← hl]; exact (hfc i a z).1, SC, fun r env' fp' σ' v H' L hr' kp S' hL ow => ?_⟩
  obtain ⟨f2, k2, S2⟩ := (S.ex e1).eaten ho hne hown hfc hOc kp S' (i := i) hL ow
  exact G.nx _ f2 (σ.set i (some v)) H' (hR r env' hr') ((Keep.ex e1).trans k2) S2
/-! what is pinned -/
theorem sx_unpin {i : Nat} {v : V} {β : Type} [Own β] {x : β} (hi : env[i]? = some (.own (At.mk v x))) (h : SX X W sts (env.set i (.own x)) po) : SX X W sts env po := fun O fp σ H S => h O fp σ H (S.unpin hi)
theorem ex_unpin {i : Nat} {v : V} {β : Type} [Own β] {x : β} (hi : env[i]? = some (.own (At.mk v x))) (h : EX X e (env.set i (.own x)) z) : EX X e env z := fun O fp σ H S => h O fp σ H (S.unpin hi)
theorem et_unpin {i : Nat} {v : V} {β : Type} [Own β] {x : β} {k : Bool} (hi : env[i]? = some (.own (At.mk v x))) (h : ET X e (env.set i (.own x)) k) : ET X e env k := fun O fp σ H S => h O fp σ H (S.unpin hi)
theorem sx_appP {i : Nat} {v : V} {xs : List α} (ps : PS X st (tDrop (tBM X.K "list" rAppend (tVar i) (tCons (tE X e) tNil)))) (hi : env[i]? = some (.own (At.mk v (OL.mk xs)))) (he : EX X e env x) (hz : xs.length < 100000) (h : SX X W rest (env.set i (.own (At.mk v (OL.mk (xs ++ [x]))))) po) : SX X W (st :: rest) env po :=
  sx_step ps (fun O fp σ H S D k => by
    obtain ⟨w, w1, w2, ad, vs, h1, h2, h3, h4⟩ := S.sl i _ hi
    subst h1
    refine ⟨.ref ad, w1, .inl ⟨rfl, vs, .inl (.inl h3)⟩, he O fp σ H S _ fun u H1 e1 r1 => ?_⟩
    have h4' := h4.mono (wo_ex e1).le
    refine ⟨ad, vs, u, rfl, rfl, e1 ad _ h3, by rw [Paired.length h4]; exact Nat.lt_of_lt_of_le hz (by decide), k fp σ _ ((Keep.ex e1).trans (Keep.mut ⟨i, by rw [h2]; exact List.mem_singleton.mpr rfl⟩)) ?_⟩
    exact (S.ex e1).mut hi h2 fun v' hv' => by
      rw [w1] at hv'
      cases hv'
      exact ⟨w2, ad, vs ++ [u], rfl, rfl, upd_same, Paired.app h4' r1⟩) h
end
end R
set_option maxHeartbeats 1000000
set_option autoImplicit false
/-! what is an int or a text; in of lists; parts of tuples; sorted dicts; joined texts -/
namespace R
open PySem PySem.Spec PyProof.Rows L2
/-! ### an int or a text -/
instance : Dat Key := ⟨fun _ _ v k => v = kV k, fun _ h => h⟩
instance : NoMut Key := ⟨fun _ _ _ _ _ _ h => h⟩
theorem kV_eq (x y : Key) : decide (kV x = kV y) = decide (x = y) := by
  by_cases h : x = y
  · subst h; simp
  · rw [decide_eq_false h, decide_eq_false]
    intro z
    cases x <;> cases y
    · injection z with z; exact h (by rw [z])
    · cases z
    · cases z
    · injection z with z; exact h (by rw [z])
instance : Flat Key := ⟨fun K Hf Hf' v w x y h1 h2 => by
  have h1 : v = kV x := h1
  have h2 : w = kV y := h2
  subst h1 h2
  refine ⟨by cases x <;> cases y <;> rfl, kV_eq x y⟩⟩
theorem kV_flat (x : Key) : flatV (kV x) = true := by cases x <;> rfl
theorem eqV_key (x y : Key) : eqV (kV x) (kV y) = decide (x = y) := by
  cases x with
  | inl i => cases y with
    | inl j =>
      show (i == j) = _
      by_cases e : i = j
      · subst e; simp
      · rw [decide_eq_false fun z => e (Sum.inl.inj z)]; exact beq_false_of_ne e
    | inr j => rfl
  | inr i => cases y with
    | inl j => rfl
    | inr j =>
      show (i == j) = _
      by_cases e : i = j
      · subst e; simp
      · rw [decide_eq_false fun z => e (Sum.inr.inj z)]; exact beq_false_of_ne e
instance : DEq Key := ⟨0, fun x y => decide (x = y), fun {X pins σ H s v x y} I h h' => by
  have h : v = kV x := h
  have h' : v = kV y := h'
  rw [h] at h'
  rw [← kV_eq]; exact decide_eq_true h', fun {X pins σ H s A v w x y} I hu h h' => by
  cases (show v = kV x from h)
  cases (show w = kV y from h')
  have q := eqS_flat (X := X) (A := A) (s := s) (v := kV x) (w := kV y) (kV_flat x) (kV_flat y)
  rw [eqV_key] at q
  exact q⟩
def keyS : Key → Str
  | .inr s => s
  | .inl _ => Str.ofString ""
section
variable {X : Cx} {W : WX} {env env' : Env'} {ρ α β γ : Type} [Res ρ] [Dat α] [Dat β] [Dat γ] {po : Po ρ} {x : α} {y : β} {z : γ} {e a b c tg iter o : Expr} {es elts : List Expr} {pos p p2 pc p3 apos cpos : Pos} {rest body : List Stmt} {xs ys : List α} {st : Stmt}
theorem ex_keyI {i : Int} (h : EX X e env i) : EX X e env (Sum.inl i : Key) := fun O fp σ H S Q q => h O fp σ H S Q fun v H' e1 r => q v H' e1 r
theorem ex_keyS {s : Str} (h : EX X e env s) : EX X e env (Sum.inr s : Key) := fun O fp σ H S Q q => h O fp σ H S Q fun v H' e1 r => q v H' e1 r
theorem ex_ofKey {k : Key} (h : EX X e env k) (g : k.isRight = true) : EX X e env (keyS k) := fun O fp σ H S Q q => h O fp σ H S Q fun v H' e1 r => q v H' e1 (by
  have r : v = kV k := r
  cases k with
  | inl i => cases g
  | inr s => exact r)
theorem repL.keys {K : PySem.W.Frag} {H : Hp} : ∀ {vs : List V} {xs : List Str}, repL K H vs xs → repL K H vs (xs.map (Sum.inr : Str → Key))
  | _, _, .nil => .nil
  | _, _, .cons h t => .cons h (repL.keys t)
theorem ex_keysL {ss : List Str} (h : EX X e env ss) : EX X e env (ss.map (Sum.inr : Str → Key)) := fun O fp σ H S Q q => h O fp σ H S Q fun v H' e1 r => q v H' e1 (by
  obtain ⟨a, vs, h1, h2, h3⟩ := r
  exact ⟨a, vs, h1, h2, h3.keys⟩)
theorem ex_isiK {k : Key} (hi : X.mg "isinstance" = none) (hT : X.mg "str" = none) (h : EX X a env k) (hk1 : kitB "int" "str" = some false) (hk2 : kitB "str" "str" = some true) (hv : bootBuiltins "str" = some (.type "str")) (hg : Gl X "isinstance" := by rfl) (hgT : Gl X "str" := by rfl)
    (he : starEach [a, .Name "str" pc] X.env = (false, eval a X.env) :: starEach [.Name "str" pc] X.env := by rfl) (he2 : starEach [.Name "str" pc] X.env = (false, eval (.Name "str" pc) X.env) :: starEach [] X.env := by rfl) (hpl : (backTo pos (starEach [.Name "str" pc] X.env)).any (·.1) = false := by rfl) : EX X (.Call (.Name "isinstance" p) [a, .Name "str" pc] [] pos) env k.isRight :=
  ex_of (pe_callB call_isi hg hi (by decide +kernel) (pa_cons (mE X a) (pa_cons (pe_bltn (v := .ty "str") hgT hT hv rfl (by decide) (by decide)) pa_nil he2) he) (by decide) (by decide) he hpl) fun O fp σ H S Q q => h O fp σ H S _ fun v H1 e1 r1 => by
    have r1 : v = kV k := r1
    subst r1
    cases k with
    | inl i => exact ⟨_, .ty "str", .type "int", .type "str", false, rfl, .ty "str", .base (.int i), kit_ty hk1, q _ H1 e1 rfl⟩
    | inr i => exact ⟨_, .ty "str", .type "str", .type "str", true, rfl, .ty "str", .base (.str i), kit_ty hk2, q _ H1 e1 rfl⟩
/-! ### in of lists -/
theorem inV_strs (x : Str) (xs : List Str) : inV (.str x) (xs.map V.str) = xs.any fun y => decide (y = x) := by
  unfold inV
  rw [List.any_map]
  congr 1
theorem ex_inS {s : Str} {ss : List Str} (h : EX X a env s) (ho : EX X o env ss) (hm : behindInMarks .In o = false := by rfl) : EX X (.Compare a [.In] [o] pos) env (ss.any fun y => decide (y = s)) :=
  ex_cmp op_in_seq h ho (fun U v1 v2 H _ r1 r2 Q q => by
    obtain ⟨ad, vs, h1, h2, h3⟩ := r2
    have := h3.strs
    subst this
    have r1 : v1 = .str s := r1
    subst r1
    refine ⟨ad, _, h1, .inl (wo_le.lst h2), rfl, ?_, q _ H (Ex.refl H) ?_⟩
    · rw [List.all_map]
      exact List.all_eq_true.mpr fun _ _ => rfl
    · show V.bl _ = V.bl _
      rw [if_neg (by decide), inV_strs]) hm
theorem ex_notinS {s : Str} {ss : List Str} (h : EX X a env s) (ho : EX X o env ss) (hm : behindInMarks .NotIn o = false := by rfl) : EX X (.Compare a [.NotIn] [o] pos) env (!(ss.any fun y => decide (y = s))) :=
  ex_cmp op_notIn_seq h ho (fun U v1 v2 H _ r1 r2 Q q => by
    obtain ⟨ad, vs, h1, h2, h3⟩ := r2
    have := h3.strs
    subst this
    have r1 : v1 = .str s := r1
    subst r1
    refine ⟨ad, _, h1, .inl (wo_le.lst h2), rfl, ?_, q _ H (Ex.refl H) ?_⟩
    · rw [List.all_map]
      exact List.all_eq_true.mpr fun _ _ => rfl
    · show V.bl _ = V.bl _
      rw [if_pos rfl, inV_strs]) hm
/-! ### texts in order -/
def ltS (x y : Str) : Bool := decide (x.cps.toList < y.cps.toList)
theorem ex_ltS {s t : Str} (ha : EX X a env s) (hb : EX X b env t) : EX X (.Compare a [.Lt] [b] pos) env (ltS s t) := ex_cmp op_lt_str ha hb (fun U v1 v2 H _ r1 r2 Q q => ⟨s, t, r1, r2, q _ H (Ex.refl H) rfl⟩) (nomark _)
theorem ex_gtS {s t : Str} (ha : EX X a env s) (hb : EX X b env t) : EX X (.Compare a [.Gt] [b] pos) env (ltS t s) := ex_cmp op_gt_str ha hb (fun U v1 v2 H _ r1 r2 Q q => ⟨s, t, r1, r2, q _ H (Ex.refl H) rfl⟩) (nomark _)
/-! ### ''.join -/
theorem ex_join {s : Str} {ss : List Str} (ho : EX X o env s) (h : EX X e env ss) (g : (ss.map (·.length)).sum + ss.length * s.length ≤ 16777216) (hs : starEach [e] X.env = [(false, eval e X.env)] := by rfl) (hbase : attributeBase o "join" X.env (eval o X.env) = eval o X.env := by rfl) (hline : (apos.endLine == pos.line) = true := by rfl) :
    EX X (.Call (.Attribute o "join" apos) [e] [] pos) env (Txt.join s ss) := ex_of (pe_join (mE X o) (mE X e) hs hbase hline) fun O fp σ H S Q q => ho O fp σ H S _ fun v H1 e1 r1 => ⟨⟨s, r1⟩, h O fp σ H1 (S.ex e1) _ fun u H2 e2 r2 => by
  obtain ⟨ad, vs, h1, h2, h3⟩ := r2
  have := h3.strs
  subst this
  exact ⟨s, ad, ss, r1, by rw [h1], .inl (wo_le.lst h2), g, q _ H2 (e1.trans e2) rfl⟩⟩
/-! ### sorted texts -/
def leS (x y : Str) : Bool := !ltS y x
def sortS (xs : List Str) : List Str := xs.mergeSort leS
end
end R
set_option maxHeartbeats 1000000
set_option autoImplicit false
/-! one's own read where the answer holds no lists (or no dicts); comprehensions over one's own; small dicts -/
namespace R
open PySem PySem.Spec PyProof.Rows L2
/-- data that holds no list -/
class NoL (α : Type) [Dat α] : Prop where
  cut : ∀ (K : PySem.W.Frag) (Hf Hf' : Hp) (v : V) (x : α), (∀ a ob, Pl ob → (∀ xs, ob ≠ .lst xs) → Rd Hf a ob → Rd Hf' a ob) → Dat.rep K Hf v x → Dat.rep K Hf' v x
/-- data that holds no dict -/
class NoD (α : Type) [Dat α] : Prop where
  cut : ∀ (K : PySem.W.Frag) (Hf Hf' : Hp) (v : V) (x : α), (∀ a ob, Pl ob → (∀ xs, ob ≠ .dK xs) → Rd Hf a ob → Rd Hf' a ob) → Dat.rep K Hf v x → Dat.rep K Hf' v x
theorem NoMut.noL {α : Type} [Dat α] [NoMut α] : NoL α := ⟨fun K Hf Hf' v x h r => NoMut.cut K Hf Hf' v x (fun a xs t => h a _ trivial (fun _ z => by cases z) t) r⟩
theorem NoMut.noD {α : Type} [Dat α] [NoMut α] : NoD α := ⟨fun K Hf Hf' v x h r => NoMut.cut K Hf Hf' v x (fun a xs t => h a _ trivial (fun _ z => by cases z) t) r⟩
instance : NoL Int := NoMut.noL
instance : NoL Bool := NoMut.noL
instance : NoL Str := NoMut.noL
instance : NoL Unit := NoMut.noL
instance : NoL Rat := NoMut.noL
instance : NoL Key := NoMut.noL
instance : NoD Int := NoMut.noD
instance : NoD Bool := NoMut.noD
instance : NoD Str := NoMut.noD
instance : NoD Unit := NoMut.noD
instance : NoD Rat := NoMut.noD
instance : NoD Key := NoMut.noD
/-- the parts of a tuple, cut -/
inductive NoLs : List Sl → Prop
  | nil : NoLs []
  | cons {α : Type} [Dat α] [NoL α] {x : α} {r : List Sl} : NoLs r → NoLs (.dat x :: r)
inductive NoDs : List Sl → Prop
  | nil : NoDs []
  | cons {α : Type} [Dat α] [NoD α] {x : α} {r : List Sl} : NoDs r → NoDs (.dat x :: r)
theorem ARep.cutL {K : PySem.W.Frag} {Hf Hf' : Hp} (h : ∀ a ob, Pl ob → (∀ xs, ob ≠ .lst xs) → Rd Hf a ob → Rd Hf' a ob) : ∀ {vs : List V} {cs : List Sl}, NoLs cs → ARep K Hf vs cs → ARep K Hf' vs cs := fun {vs cs} n => by
  induction n generalizing vs with
  | nil => intro r; cases vs with | nil => exact trivial | cons _ _ => simp [ARep] at r
  | cons n ih =>
    intro r
    cases vs with
    | nil => simp [ARep] at r
    | cons v vs => exact ⟨NoL.cut K Hf Hf' _ _ h r.1, ih r.2⟩
theorem ARep.cutD {K : PySem.W.Frag} {Hf Hf' : Hp} (h : ∀ a ob, Pl ob → (∀ xs, ob ≠ .dK xs) → Rd Hf a ob → Rd Hf' a ob) : ∀ {vs : List V} {cs : List Sl}, NoDs cs → ARep K Hf vs cs → ARep K Hf' vs cs := fun {vs cs} n => by
  induction n generalizing vs with
  | nil => intro r; cases vs with | nil => exact trivial | cons _ _ => simp [ARep] at r
  | cons n ih =>
    intro r
    cases vs with
    | nil => simp [ARep] at r
    | cons v vs => exact ⟨NoD.cut K Hf Hf' _ _ h r.1, ih r.2⟩
theorem repT.cutL {K : PySem.W.Frag} {Hf Hf' : Hp} {v : V} {cs : List Sl} (h : ∀ a ob, Pl ob → (∀ xs, ob ≠ .lst xs) → Rd Hf a ob → Rd Hf' a ob) (n : NoLs cs) (r : repT K Hf v cs) : repT K Hf' v cs := by
  obtain ⟨a, vs, e, t, ar⟩ := r
  exact ⟨a, vs, e, cut_tup (fun a xs t => h a _ trivial (fun _ z => by cases z) t) t, ar.cutL h n⟩
theorem repT.cutD {K : PySem.W.Frag} {Hf Hf' : Hp} {v : V} {cs : List Sl} (h : ∀ a ob, Pl ob → (∀ xs, ob ≠ .dK xs) → Rd Hf a ob → Rd Hf' a ob) (n : NoDs cs) (r : repT K Hf v cs) : repT K Hf' v cs := by
  obtain ⟨a, vs, e, t, ar⟩ := r
  exact ⟨a, vs, e, cut_tup (fun a xs t => h a _ trivial (fun _ z => by cases z) t) t, ar.cutD h n⟩
section
variable {α β γ δ ε : Type} [Dat α] [Dat β] [Dat γ] [Dat δ] [Dat ε]
instance [NoL α] [NoL β] : NoL (α × β) := ⟨fun K Hf Hf' v x h r => repT.cutL h (.cons (.cons .nil)) r⟩
instance [NoL α] [NoL β] [NoL γ] : NoL (T3 α β γ) := ⟨fun K Hf Hf' v x h r => repT.cutL h (.cons (.cons (.cons .nil))) r⟩
instance [NoL α] [NoL β] [NoL γ] [NoL δ] : NoL (T4 α β γ δ) := ⟨fun K Hf Hf' v x h r => repT.cutL h (.cons (.cons (.cons (.cons .nil)))) r⟩
instance [NoL α] [NoL β] [NoL γ] [NoL δ] [NoL ε] : NoL (T5 α β γ δ ε) := ⟨fun K Hf Hf' v x h r => repT.cutL h (.cons (.cons (.cons (.cons (.cons .nil))))) r⟩
instance [NoD α] [NoD β] : NoD (α × β) := ⟨fun K Hf Hf' v x h r => repT.cutD h (.cons (.cons .nil)) r⟩
instance [NoD α] [NoD β] [NoD γ] : NoD (T3 α β γ) := ⟨fun K Hf Hf' v x h r => repT.cutD h (.cons (.cons (.cons .nil))) r⟩
instance [NoD α] [NoD β] [NoD γ] [NoD δ] : NoD (T4 α β γ δ) := ⟨fun K Hf Hf' v x h r => repT.cutD h (.cons (.cons (.cons (.cons .nil)))) r⟩
instance [NoD α] [NoD β] [NoD γ] [NoD δ] [NoD ε] : NoD (T5 α β γ δ ε) := ⟨fun K Hf Hf' v x h r => repT.cutD h (.cons (.cons (.cons (.cons (.cons .nil))))) r⟩
instance [NoL α] : NoL (Dc α) := ⟨fun K Hf Hf' v x h r => by
  obtain ⟨a, ws, e, t, ar⟩ := r
  exact ⟨a, ws, e, h a _ trivial (fun _ z => by cases z) t, Paired.imp ar fun _ _ q => ⟨q.1, NoL.cut K Hf Hf' _ _ h q.2⟩⟩⟩
theorem SqL.cutD {K : PySem.W.Frag} {Hf Hf' : Hp} {a : Addr} {vs : List V} (h : ∀ a ob, Pl ob → (∀ xs, ob ≠ .dK xs) → Rd Hf a ob → Rd Hf' a ob) (t : SqL K Hf a vs) : SqL K Hf' a vs := by
  rcases t with t | t
  · exact .inl (h a _ trivial (fun _ z => by cases z) t)
  · exact .inr t
instance [NoD α] : NoD (List α) := ⟨fun K Hf Hf' v x h r => by
  obtain ⟨a, ws, e, t, ar⟩ := r
  exact ⟨a, ws, e, SqL.cutD h t, Paired.imp ar fun _ _ q => NoD.cut K Hf Hf' _ _ h q⟩⟩
theorem opt_none {K : PySem.W.Frag} {H H' : Hp} {v : V} (h : Dat.rep K H v (none : Option α)) : Dat.rep K H' v (none : Option α) := h
instance [NoL α] : NoL (Option α) := ⟨fun K Hf Hf' v x h r => by
  cases x with
  | none => exact opt_none r
  | some y => exact NoL.cut K Hf Hf' v y h r⟩
instance [NoD α] : NoD (Option α) := ⟨fun K Hf Hf' v x h r => by
  cases x with
  | none => exact opt_none r
  | some y => exact NoD.cut K Hf Hf' v y h r⟩
end
/-- one's own whose parts are so -/
class OwnNL (β : Type) [Own β] : Prop where
  cut : ∀ (K : PySem.W.Frag) (Hf Hf' H : Hp) (v : V) (L : List Addr) (x : β), (∀ a ob, Pl ob → (∀ xs, ob ≠ .lst xs) → Rd Hf a ob → Rd Hf' a ob) → Own.own K Hf H v L x → Own.own K Hf' H v L x
class OwnND (β : Type) [Own β] : Prop where
  cut : ∀ (K : PySem.W.Frag) (Hf Hf' H : Hp) (v : V) (L : List Addr) (x : β), (∀ a ob, Pl ob → (∀ xs, ob ≠ .dK xs) → Rd Hf a ob → Rd Hf' a ob) → Own.own K Hf H v L x → Own.own K Hf' H v L x
instance {α : Type} [Dat α] [NoL α] : OwnNL (OL α) := ⟨fun K Hf Hf' H v L x h ⟨a, vs, h1, h2, h3, h4⟩ => ⟨a, vs, h1, h2, h3, Paired.imp h4 fun _ _ q => NoL.cut K Hf Hf' _ _ h q⟩⟩
instance {α : Type} [Dat α] [NoL α] : OwnNL (OD α) := ⟨fun K Hf Hf' H v L x h ⟨a, vs, h1, h2, h3, h4⟩ => ⟨a, vs, h1, h2, h3, Paired.imp h4 fun _ _ q => ⟨q.1, NoL.cut K Hf Hf' _ _ h q.2⟩⟩⟩
instance {α : Type} [Dat α] [NoD α] : OwnND (OL α) := ⟨fun K Hf Hf' H v L x h ⟨a, vs, h1, h2, h3, h4⟩ => ⟨a, vs, h1, h2, h3, Paired.imp h4 fun _ _ q => NoD.cut K Hf Hf' _ _ h q⟩⟩
instance {α : Type} [Dat α] [NoD α] : OwnND (OD α) := ⟨fun K Hf Hf' H v L x h ⟨a, vs, h1, h2, h3, h4⟩ => ⟨a, vs, h1, h2, h3, Paired.imp h4 fun _ _ q => ⟨q.1, NoD.cut K Hf Hf' _ _ h q.2⟩⟩⟩
theorem cut_at {O : Addr → Prop} {fp : Nat → List Addr} {H' Hf : Hp} {i : Nat} {ad : Addr} {ob0 : HO} {L : List Addr} (hL : fp i = [ad]) (hl : H' ad = some ob0) (le : Le (wo H' (fun a => UU O fp a ∨ a ∈ L)) Hf) (b : Addr) (ob : HO) (pl : Pl ob) (ne : ob ≠ ob0) (ne' : ∀ o, ob0 ≠ .frz o ob) (t : Rd (wo H' (fun a => UU O (setF fp i []) a ∨ a ∈ L)) b ob) : Rd Hf b ob := by
  have nb : b ≠ ad := fun z => by
    subst z
    rcases t with t | ⟨o, t⟩
    · have := (wo_some t).2; rw [hl] at this; exact ne (Option.some.inj this).symm
    · have := (wo_some t).2; rw [hl] at this; exact ne' o (Option.some.inj this)
  refine le b _ pl ?_
  have nu : ¬ (UU O (setF fp i []) b ∨ b ∈ L) := by rcases t with t | ⟨o, t⟩ <;> exact (wo_some t).1
  have nu2 : ¬ (UU O fp b ∨ b ∈ L) := fun z => by
    rcases z with (z | ⟨j, z⟩) | z
    · exact nu (.inl (.inl z))
    · by_cases ej : j = i
      · subst ej
        rw [hL] at z
        exact nb (List.mem_singleton.mp z)
      · exact nu (.inl (.inr ⟨j, by unfold setF; rw [if_neg ej]; exact z⟩))
    · exact nu (.inr z)
  rcases t with t | ⟨o, t⟩
  · exact .inl (by rw [wo_out nu2]; exact (wo_some t).2)
  · exact .inr ⟨o, by rw [wo_out nu2]; exact (wo_some t).2⟩
theorem or_nil {U : Addr → Prop} : (fun a => U a ∨ a ∈ ([] : List Addr)) = U := by
  funext a
  apply propext
  constructor
  · rintro (z | z)
    · exact z
    · cases z
  · exact .inl
/-- the greatest reading of what makes something of one's own -/
def LE {β : Type} [Own β] (X : Cx) (t : TE) (env : Env') (x : β) : Prop :=
  ∀ O fp σ H, SOk X.K O fp env σ H → ∀ Q : VK, (∀ v L H', Ex H H' → (∀ a ∈ L, H a = none) → (∀ a ∈ L, ∃ o, H' a = some o) → (∀ Hf, Le (wo H' (fun a => UU O fp a ∨ a ∈ L)) Hf → Own.own X.K Hf H' v L x) → Q v H') → t σ H Q
section
variable {X : Cx} {W : WX} {env env' env0 : Env'} {ρ α β γ : Type} [Res ρ] [Dat α] [Dat β] [Dat γ] {po : Po ρ} {x : α} {y : β} {z : γ} {e a b c tg iter o : Expr} {es elts : List Expr} {pos p p2 pc p3 apos cpos : Pos} {rest body : List Stmt} {xs ys : List α} {st : Stmt} {t : TE}
theorem le_thawL {ω : Type} [Own ω] [OwnNL ω] {r : ω} {i : Nat} (hi : env[i]? = some (.own (OL.mk xs))) (h : LE X t (env.set i (.dat xs)) r) : LE X t env r := fun O fp σ H S Q q => h O (setF fp i []) σ H (S.frz hi fun v Hf r q => own_frzL r q) Q fun v L H' e1 hL hd ow => q v L H' e1 hL hd fun Hf le => by
  obtain ⟨ad, vs, h1, h2, h3, h4⟩ := S.ol hi
  exact OwnNL.cut X.K _ _ H' v L r (fun b ob pl ne q => cut_at h2 (e1 ad _ h3) le b ob pl (ne _) (fun _ z => by cases z) q) (ow _ (Le.refl _))
theorem le_thawD {ω : Type} [Own ω] [OwnND ω] {r : ω} {i : Nat} {d : Dc α} (hi : env[i]? = some (.own (OD.mk d))) (h : LE X t (env.set i (.dat d)) r) : LE X t env r := fun O fp σ H S Q q => h O (setF fp i []) σ H (S.frz hi fun v Hf r q => own_frzD r q) Q fun v L H' e1 hL hd ow => q v L H' e1 hL hd fun Hf le => by
  obtain ⟨ad, vs, h1, h2, h3, h4⟩ := S.od hi
  exact OwnND.cut X.K _ _ H' v L r (fun b ob pl ne q => cut_at h2 (e1 ad _ h3) le b ob pl (ne _) (fun _ z => by cases z) q) (ow _ (Le.refl _))
theorem le_unpin {ω : Type} [Own ω] {r : ω} {i : Nat} {v : V} {β' : Type} [Own β'] {x : β'} (hi : env[i]? = some (.own (At.mk v x))) (h : LE X t (env.set i (.own x)) r) : LE X t env r := fun O fp σ H S => h O fp σ H (S.unpin hi)
theorem en_thawLL {ω : Type} [Own ω] [OwnNL ω] {r : ω} {i : Nat} (hi : env[i]? = some (.own (OL.mk xs))) (h : EN X e (env.set i (.dat xs)) r) : EN X e env r := le_thawL hi h
theorem en_thawDD {ω : Type} [Own ω] [OwnND ω] {r : ω} {i : Nat} {d : Dc α} (hi : env[i]? = some (.own (OD.mk d))) (h : EN X e (env.set i (.dat d)) r) : EN X e env r := le_thawD hi h
theorem en_unpin {ω : Type} [Own ω] {r : ω} {i : Nat} {v : V} {β' : Type} [Own β'] {x : β'} (hi : env[i]? = some (.own (At.mk v x))) (h : EN X e (env.set i (.own x)) r) : EN X e env r := le_unpin hi h
theorem ex_thawLL [NoL γ] {i : Nat} (hi : env[i]? = some (.own (OL.mk xs))) (h : EX X e (env.set i (.dat xs)) z) : EX X e env z := fun O fp σ H S Q q => h O (setF fp i []) σ H (S.frz hi fun v Hf r q => own_frzL r q) Q fun v H' e1 r => q v H' e1 (by
  obtain ⟨ad, vs, h1, h2, h3, h4⟩ := S.ol hi
  refine NoL.cut X.K _ _ v z (fun b ob pl ne q => cut_at (O := O) (L := []) h2 (e1 ad _ h3) ?_ b ob pl (ne _) (fun _ z => by cases z) ?_) r
  · rw [or_nil]; exact Le.refl _
  · rw [or_nil]; exact q)
theorem ex_thawDD [NoD γ] {i : Nat} {d : Dc α} (hi : env[i]? = some (.own (OD.mk d))) (h : EX X e (env.set i (.dat d)) z) : EX X e env z := fun O fp σ H S Q q => h O (setF fp i []) σ H (S.frz hi fun v Hf r q => own_frzD r q) Q fun v H' e1 r => q v H' e1 (by
  obtain ⟨ad, vs, h1, h2, h3, h4⟩ := S.od hi
  refine NoD.cut X.K _ _ v z (fun b ob pl ne q => cut_at (O := O) (L := []) h2 (e1 ad _ h3) ?_ b ob pl (ne _) (fun _ z => by cases z) ?_) r
  · rw [or_nil]; exact Le.refl _
  · rw [or_nil]; exact q)
/-- y = [..], one's own being read -/
theorem sx_newLcT {i : Nat} {y : Str} {scope : Scope} {ifs : List Expr} {own : List (Str × Nat)} {tt : TT} {g : TG} (T : ∀ (t : TE) (zs : List β), LE X t env0 (OL.mk zs) → LE X t env (OL.mk zs)) (mk : α → Env') (f : α → β) (t : α → Bool) (hc : X.calm = true) (hN : X.N.Nodup) (ok : BlkOk X.N X.env.scope scope own) (hi : IX X tg iter env0 xs) (hz : xs.length ≤ 100000) (hg : TgOk α X g (own.map (·.2)) (wipeE env0 (own.map (·.2))) mk) (hww : ∀ σ : L2.St, L2.wipe (L2.wipe σ (own.map (·.2))) (own.map (·.2)) = L2.wipe σ (own.map (·.2)))
    (pg : ∀ (s : Shared) (H : Hp) (C : Addr) (cl : List (Str × Addr)) (fp : List Addr), PG (X.blk s H scope (compEnvC scope cl C X.env) fp) tg g) (pt : ∀ (s : Shared) (H : Hp) (C : Addr) (cl : List (Str × Addr)) (fp : List Addr), PTs (X.blk s H scope (compEnvC scope cl C X.env) fp) ifs tt)
    (ht : ∀ x ∈ xs, EvT X.K tt (mk x) (t x)) (he : ∀ x ∈ xs, t x = true → Blk X scope fun Y => EX Y e (mk x) (f x)) (hr : SX X W rest (env.set i (.own (OL.mk ((xs.filter t).map f)))) po)
    (hy : X.N[i]? = some y) (hyl : X.env.scope.names.lookup y = some .local) (hsw : swapsWith (.ListComp e [⟨tg, iter, ifs, 0⟩] scope pos) (some (.Name y p2)) p3.line X.env = pure true) (hs : ∀ x, foldedSetIterable iter X.env x = pure x := by intro _; rfl) : SX X W (.Assign [.Name y p2] (.ListComp e [⟨tg, iter, ifs, 0⟩] scope pos) p3 :: rest) env po :=
  sx_step (ps_setLc hc hN hy hyl hsw (mI X tg iter) ok pg pt (fun s H C cl fp => mEb s H C cl fp) hs) (fun O fp σ H S D q => T _ _ (lc_ev mk f t hi hz hg hww ht (fun x hx h => ev_b (he x hx h))) O fp σ H S _ fun v L H1 e1 hL hd r1 => q (setF fp i L) _ H1 (Keep.new e1 hL) (S.new e1 hL hd r1)) hr
/-- {k: v} -/
theorem en_dict1 {s : Str} (hk : EX X a env s) (hv : EX X b env x) : EN X (.Dict [some a] [b] pos) env (OD.mk ⟨[(s, x)]⟩) := fun O fp σ H S Q q pins s0 I => by
  refine (pe_disp (pps_cons (mE X a) (mE X b) pps_nil) rfl rfl (fun z => by cases z) (Nat.le_of_ble_eq_true rfl)).run pins s0 σ H Q I fun u hu => ?_
  have S1 := S.hide (o := .dK []) hu
  have nu : ¬ UU O fp u := S.fresh hu
  refine hk _ fp σ _ S1 _ fun v1 H1 e1 r1 => hv _ fp σ H1 (S1.ex e1) _ fun v2 H2 e2 r2 => ?_
  have r1 : v1 = .str s := r1
  subst r1
  have e12 := e1.trans e2
  have h2 : H2 u = some (.dK []) := e12 u _ upd_same
  have e3 : Ex H (upd H2 u (.dK [(.inr s, v2)])) := fun c ob hc => by
    have nc := ne_of_none hc hu
    rw [upd_ne nc]
    exact e12 c ob (by rw [upd_ne nc]; exact hc)
  refine ⟨h2, [(.inr s, v2)], rfl, by simp, ?_⟩
  show Q (.ref u) (upd H2 u (.dK [(.inr s, v2)]))
  refine q (.ref u) [u] _ e3 (fun c hc => by rw [List.mem_singleton.mp hc]; exact hu) (fun c hc => by rw [List.mem_singleton.mp hc]; exact ⟨_, upd_same⟩) fun Hf le => ⟨u, _, rfl, rfl, upd_same, .cons ⟨rfl, ?_⟩ .nil⟩
  refine Dat.mono (Le.trans (Ex.le fun c ob hc => ?_) le) r2
  obtain ⟨n, hc⟩ := wo_some hc
  have nc : c ≠ u := fun z => n (.inl (.inr z))
  have n2 : ¬ (UU O fp c ∨ c ∈ [u]) := fun z => by
    rcases z with (z | z) | z
    · exact n (.inl (.inl z))
    · exact n (.inr z)
    · exact nc (List.mem_singleton.mp z)
  rw [wo_out n2, upd_ne nc]
  exact hc
/-! what a call with one's own asks, piece by piece -/
def slotsOf : List Arg → List Nat
  | [] => []
  | .dat _ :: as => slotsOf as
  | .slot i _ :: as => i :: slotsOf as
theorem slots_mem : ∀ {as : List Arg} {k i : Nat} {b : Bool}, as[k]? = some (.slot i b) → i ∈ slotsOf as
  | .dat _ :: as, 0, i, b, h => by simp at h
  | .dat _ :: as, k + 1, i, b, h => slots_mem (as := as) (by simpa using h)
  | .slot j c :: as, 0, i, b, h => by
    have : j = i ∧ c = b := by simpa using h
    rw [this.1]
    exact List.mem_cons_self
  | .slot j c :: as, k + 1, i, b, h => List.mem_cons_of_mem _ (slots_mem (as := as) (by simpa using h))
  | [], k, i, b, h => by simp at h
theorem once_nd : ∀ {as : List Arg}, (slotsOf as).Nodup → Once as
  | [], _, k, l, i, b, c, h, _ => by simp at h
  | .dat _ :: as, n, k, l, i, b, c, h, g => by
    cases k with
    | zero => simp at h
    | succ k => cases l with
      | zero => simp at g
      | succ l => rw [once_nd (as := as) n k l i b c (by simpa using h) (by simpa using g)]
  | .slot j d :: as, n, k, l, i, b, c, h, g => by
    have n := List.nodup_cons.mp n
    cases k with
    | zero =>
      have e : j = i ∧ d = b := by simpa using h
      cases l with
      | zero => rfl
      | succ l => exact absurd (by rw [e.1]; exact slots_mem (as := as) (k := l) (b := c) (by simpa using g)) n.1
    | succ k => cases l with
      | zero =>
        have e : j = i ∧ d = c := by simpa using g
        exact absurd (by rw [e.1]; exact slots_mem (as := as) (k := k) (b := b) (by simpa using h)) n.1
      | succ l => rw [once_nd (as := as) n.2 k l i b c (by simpa using h) (by simpa using g)]
theorem once_of {as : List Arg} {ns : List Nat} (h : slotsOf as = ns) (n : ns.Nodup) : Once as := once_nd (h ▸ n)
def OwnsR (env : Env') : List Arg → Prop
  | [] => True
  | .dat _ :: as => OwnsR env as
  | .slot i _ :: as => (∃ (β : Type) (_ : Own β) (x : β), env[i]? = some (.own x)) ∧ OwnsR env as
theorem owns_of {env : Env'} : ∀ {as : List Arg}, OwnsR env as → ∀ (l i : Nat) (b : Bool), as[l]? = some (.slot i b) → ∃ (β : Type) (_ : Own β) (x : β), env[i]? = some (.own x)
  | [], _, l, i, b, h => by simp at h
  | .dat _ :: as, o, 0, i, b, h => by simp at h
  | .dat _ :: as, o, l + 1, i, b, h => owns_of (as := as) o l i b (by simpa using h)
  | .slot j c :: as, o, 0, i, b, h => by
    have e : j = i ∧ c = b := by simpa using h
    rw [← e.1]
    exact o.1
  | .slot j c :: as, o, l + 1, i, b, h => owns_of (as := as) o.2 l i b (by simpa using h)
def PinsR (e' : Env') : Nat → List V → List Arg → Prop
  | _, _, [] => True
  | _, [], _ => True
  | k, v :: vs, .slot _ true :: as => isPin v (e'.getD k .any) ∧ PinsR e' (k + 1) vs as
  | k, _ :: vs, .slot _ false :: as => PinsR e' (k + 1) vs as
  | k, _ :: vs, .dat _ :: as => PinsR e' (k + 1) vs as
theorem pinsR_get {e' : Env'} : ∀ {vs : List V} {as : List Arg} {k : Nat}, PinsR e' k vs as → ∀ (l i : Nat) (v : V), as[l]? = some (.slot i true) → vs[l]? = some v → isPin v (e'.getD (k + l) .any)
  | _, [], _, _, l, i, v, h, _ => by simp at h
  | [], _ :: _, _, _, l, i, v, _, g => by simp at g
  | w :: vs, .slot j true :: as, k, r, 0, i, v, h, g => by
    have e : w = v := by simpa using g
    rw [← e]
    exact r.1
  | w :: vs, .slot j true :: as, k, r, l + 1, i, v, h, g => by
    have := pinsR_get (as := as) r.2 l i v (by simpa using h) (by simpa using g)
    rw [show k + 1 + l = k + (l + 1) by omega] at this
    exact this
  | w :: vs, .slot j false :: as, k, r, 0, i, v, h, g => by simp at h
  | w :: vs, .slot j false :: as, k, r, l + 1, i, v, h, g => by
    have := pinsR_get (as := as) r l i v (by simpa using h) (by simpa using g)
    rw [show k + 1 + l = k + (l + 1) by omega] at this
    exact this
  | w :: vs, .dat _ :: as, k, r, 0, i, v, h, g => by simp at h
  | w :: vs, .dat _ :: as, k, r, l + 1, i, v, h, g => by
    have := pinsR_get (as := as) r l i v (by simpa using h) (by simpa using g)
    rw [show k + 1 + l = k + (l + 1) by omega] at this
    exact this
theorem pins_of {vs : List V} {as : List Arg} {e' : Env'} (h : PinsR e' 0 vs as) : Pins vs as e' := fun l i v h1 h2 => by
  have := pinsR_get h l i v h1 h2
  rw [Nat.zero_add] at this
  exact this
end
end R
set_option maxHeartbeats 1000000
set_option autoImplicit false
/-! what the text's top holds -/
namespace R
open PySem PySem.Spec PyProof.Rows L2
/-- a name of the text that holds data -/
structure GC {α : Type} [Dat α] (K : PySem.W.Frag) (mg : Str → Option Value) (n : Str) (x : α) : Prop where
  ex : ∃ v u, mg n = some u ∧ RelV v u ∧ ∀ Hf, Dat.rep K Hf v x
instance : Inhabited Key := ⟨Sum.inl 0⟩
structure TpS where
  l : List Str
structure TpI where
  l : List Int
instance : Dat TpS := ⟨fun K H v x => ∃ a vs, v = .ref a ∧ SqT K H a vs ∧ repL K H vs x.l, fun e ⟨a, vs, h, t, r⟩ => ⟨a, vs, h, e.tup t, r.mono e⟩⟩
instance : Dat TpI := ⟨fun K H v x => ∃ a vs, v = .ref a ∧ SqT K H a vs ∧ repL K H vs x.l, fun e ⟨a, vs, h, t, r⟩ => ⟨a, vs, h, e.tup t, r.mono e⟩⟩
section
variable {K : PySem.W.Frag} {mg : Str → Option Value} {n : Str}
theorem gc_int {i : Int} {t : Tok} (h : mg n = some (.int i t)) : GC K mg n i := ⟨.int i, _, h, ⟨t, rfl⟩, fun _ => rfl⟩
theorem gc_str {i : Str} {t : Tok} (h : mg n = some (.str i t)) : GC K mg n i := ⟨.str i, _, h, ⟨t, rfl⟩, fun _ => rfl⟩
theorem gc_rat {q : Rat} {a : Addr} {i j : Int} {t u : Tok} {d : Option Addr} {z : Nat} {sl : Array (Option Value)} (h : mg n = some (.ref a)) (l : K.lookup a = some ⟨.type "tuple", d, .seq #[.int i t, .int j u] z, sl⟩) (h1 : q.num = i) (h2 : (q.den : Int) = j) : GC K mg n q :=
  ⟨.ref a, _, h, rfl, fun Hf => ⟨a, [.int i, .int j], rfl, .inr ⟨_, _, _, l, rfl, rfl, (by decide : 2 ≤ sizeLine), .cons ⟨_, rfl⟩ (.cons ⟨_, rfl⟩ .nil)⟩, by rw [h1]; rfl, by rw [h2]; rfl, trivial⟩⟩
theorem strs_vals : ∀ {xs : List Str} {us : List Value}, Paired (fun x u => ∃ t, u = Value.str x t) xs us → Vals (xs.map V.str) us
  | _, _, .nil => .nil
  | _, _, .cons h t => .cons h (strs_vals t)
theorem strs_rep {Hf : Hp} : ∀ xs : List Str, repL K Hf (xs.map V.str) xs
  | [] => .nil
  | _ :: r => .cons rfl (strs_rep r)
theorem ints_vals : ∀ {xs : List Int} {us : List Value}, Paired (fun x u => ∃ t, u = Value.int x t) xs us → Vals (xs.map V.int) us
  | _, _, .nil => .nil
  | _, _, .cons h t => .cons h (ints_vals t)
theorem gc_tps {xs : List Str} {us : List Value} {a : Addr} {d : Option Addr} {z : Nat} {sl : Array (Option Value)} (h : mg n = some (.ref a)) (l : K.lookup a = some ⟨.type "tuple", d, .seq us.toArray z, sl⟩) (p : Paired (fun x u => ∃ t, u = Value.str x t) xs us) (hz : us.length ≤ 100000) : GC K mg n (TpS.mk xs) :=
  ⟨.ref a, _, h, rfl, fun Hf => ⟨a, xs.map V.str, rfl, .inr ⟨_, _, _, l, rfl, rfl, by rw [List.size_toArray]; exact sz_of hz, strs_vals p⟩, strs_rep xs⟩⟩
theorem gc_tpi {xs : List Int} {us : List Value} {a : Addr} {d : Option Addr} {z : Nat} {sl : Array (Option Value)} (h : mg n = some (.ref a)) (l : K.lookup a = some ⟨.type "tuple", d, .seq us.toArray z, sl⟩) (p : Paired (fun x u => ∃ t, u = Value.int x t) xs us) (hz : us.length ≤ 100000) : GC K mg n (TpI.mk xs) :=
  ⟨.ref a, _, h, rfl, fun Hf => ⟨a, xs.map V.int, rfl, .inr ⟨_, _, _, l, rfl, rfl, by rw [List.size_toArray]; exact sz_of hz, ints_vals p⟩, ints_rep xs⟩⟩
end
section
variable {X : Cx} {W : WX} {env env' env0 : Env'} {ρ α β γ : Type} [Res ρ] [Dat α] [Dat β] [Dat γ] {po : Po ρ} {x : α} {y : β} {z : γ} {e a b c tg iter o : Expr} {es elts : List Expr} {pos p p2 pc p3 apos cpos : Pos} {rest body : List Stmt} {xs ys : List α} {st : Stmt} {t : TE}
theorem ex_gc {n : Str} (g : GC X.K X.mg n x) (hg : Gl X n := by rfl) (hd : (n == ("__debug__" : Str)) = false := by decide) : EX X (.Name n pos) env x := by
  obtain ⟨v, u, h, r, q⟩ := g.ex
  exact ex_of (pe_glob hg h r hd) (ev_c q)
/-- isinstance of what may be None -/
theorem ex_isiO {n : String} [TyN α n] {m : Option α} {T : Str} {c : String} (hi : X.mg "isinstance" = none) (hT : X.mg T = none) (h : EX X a env m) (hk : kitB n c = some true) (hk0 : kitB "NoneType" c = some false) (hv : bootBuiltins T = some (.type c)) (hg : Gl X "isinstance" := by rfl) (hgT : Gl X T := by rfl) (hn : T ≠ "__name__" := by decide) (hd : (T == ("__debug__" : Str)) = false := by decide)
    (he : starEach [a, .Name T pc] X.env = (false, eval a X.env) :: starEach [.Name T pc] X.env := by rfl) (he2 : starEach [.Name T pc] X.env = (false, eval (.Name T pc) X.env) :: starEach [] X.env := by rfl) (hpl : (backTo pos (starEach [.Name T pc] X.env)).any (·.1) = false := by rfl) : EX X (.Call (.Name "isinstance" p) [a, .Name T pc] [] pos) env m.isSome :=
  ex_of (pe_callB call_isi hg hi (by decide +kernel) (pa_cons (mE X a) (pa_cons (pe_bltn (v := .ty c) hgT hT hv rfl hn hd) pa_nil he2) he) (by decide) (by decide) he hpl) fun O fp σ H S Q q => h O fp σ H S _ fun v H1 e1 r1 => by
    cases m with
    | none =>
      have r1 : v = .non := r1
      subst r1
      exact ⟨_, .ty c, .type "NoneType", .type c, false, rfl, .ty c, .base .non, kit_ty hk0, q _ H1 e1 rfl⟩
    | some y =>
      have r1 : Dat.rep X.K (wo H1 (UU O fp)) v y := r1
      exact ⟨v, .ty c, .type n, .type c, true, rfl, .ty c, TyX.mono (TyN.ty _ _ _ _ r1), kit_ty hk, q _ H1 e1 rfl⟩
theorem EvT.go {Q : Bool → Hp → Prop} {H : Hp} {k j : Bool} (h : Q k H) (e : j = k) : Q j H := e ▸ h
theorem et_din {d : Dc α} {k : Str} (hu : X.A.units + 1 < cLine) (hk : EX X a env k) (ho : EX X o env d) (hm : behindInMarks .In o = false := by rfl) : ET X (.Compare a [.In] [o] pos) env (d.has k) :=
  et_of (pt_cmp (pc_din hu (mE X a) (mE X o)) hm) fun O fp σ H S Q q => hk O fp σ H S _ fun v2 H1 e1 r2 => ho O fp σ H1 (S.ex e1) _ fun v1 H2 e2 r1 => by
    obtain ⟨ad, ws, h1, h2, h3⟩ := r1
    have r2 : v2 = .str k := r2
    subst h1 r2
    refine ⟨ad, valV ws (.inr k), rfl, .inl ⟨ws, .inr k, wo_le _ _ trivial h2, rfl, rfl⟩, _, rfl, ?_⟩
    refine EvT.go (q H2 (e1.trans e2)) ?_
    unfold Dc.has
    rcases h3.look k with ⟨n1, n2⟩ | ⟨v, x', hv, hx, rx⟩
    · rw [n1, n2]; rfl
    · rw [hv, hx]; rfl
theorem et_dnotin {d : Dc α} {k : Str} (hu : X.A.units + 1 < cLine) (hk : EX X a env k) (ho : EX X o env d) (hm : behindInMarks .NotIn o = false := by rfl) : ET X (.Compare a [.NotIn] [o] pos) env (!d.has k) :=
  et_of (pt_cmp (pc_dnotin hu (mE X a) (mE X o)) hm) fun O fp σ H S Q q => hk O fp σ H S _ fun v2 H1 e1 r2 => ho O fp σ H1 (S.ex e1) _ fun v1 H2 e2 r1 => by
    obtain ⟨ad, ws, h1, h2, h3⟩ := r1
    have r2 : v2 = .str k := r2
    subst h1 r2
    refine ⟨ad, valV ws (.inr k), rfl, .inl ⟨ws, .inr k, wo_le _ _ trivial h2, rfl, rfl⟩, _, rfl, ?_⟩
    refine EvT.go (q H2 (e1.trans e2)) ?_
    unfold Dc.has
    rcases h3.look k with ⟨n1, n2⟩ | ⟨v, x', hv, hx, rx⟩
    · rw [n1, n2]; rfl
    · rw [hv, hx]; rfl
theorem ex_inT {s : Str} {ss : TpS} (h : EX X a env s) (ho : EX X o env ss) (hm : behindInMarks .In o = false := by rfl) : EX X (.Compare a [.In] [o] pos) env (ss.l.any fun y => decide (y = s)) :=
  ex_cmp op_in_seq h ho (fun U v1 v2 H _ r1 r2 Q q => by
    obtain ⟨ad, vs, h1, h2, h3⟩ := r2
    have := h3.strs
    subst this
    have r1 : v1 = .str s := r1
    subst r1
    refine ⟨ad, _, h1, .inr (wo_le.tup h2), rfl, ?_, q _ H (Ex.refl H) ?_⟩
    · rw [List.all_map]
      exact List.all_eq_true.mpr fun _ _ => rfl
    · show V.bl _ = V.bl _
      rw [if_neg (by decide), inV_strs]) hm
theorem ex_notinT {s : Str} {ss : TpS} (h : EX X a env s) (ho : EX X o env ss) (hm : behindInMarks .NotIn o = false := by rfl) : EX X (.Compare a [.NotIn] [o] pos) env (!(ss.l.any fun y => decide (y = s))) :=
  ex_cmp op_notIn_seq h ho (fun U v1 v2 H _ r1 r2 Q q => by
    obtain ⟨ad, vs, h1, h2, h3⟩ := r2
    have := h3.strs
    subst this
    have r1 : v1 = .str s := r1
    subst r1
    refine ⟨ad, _, h1, .inr (wo_le.tup h2), rfl, ?_, q _ H (Ex.refl H) ?_⟩
    · rw [List.all_map]
      exact List.all_eq_true.mpr fun _ _ => rfl
    · show V.bl _ = V.bl _
      rw [if_pos rfl, inV_strs]) hm
theorem et_inS {s : Str} {ss : List Str} (h : EX X a env s) (ho : EX X o env ss) (hm : behindInMarks .In o = false := by rfl) : ET X (.Compare a [.In] [o] pos) env (ss.any fun y => decide (y = s)) :=
  et_cmp op_in_seq h ho (fun U v1 v2 H _ r1 r2 Q q => by
    obtain ⟨ad, vs, h1, h2, h3⟩ := r2
    have := h3.strs
    subst this
    have r1 : v1 = .str s := r1
    subst r1
    refine ⟨ad, _, h1, .inl (wo_le.lst h2), rfl, ?_, q _ H (Ex.refl H) ?_⟩
    · rw [List.all_map]
      exact List.all_eq_true.mpr fun _ _ => rfl
    · show V.bl _ = V.bl _
      rw [if_neg (by decide), inV_strs]) hm
theorem et_notinS {s : Str} {ss : List Str} (h : EX X a env s) (ho : EX X o env ss) (hm : behindInMarks .NotIn o = false := by rfl) : ET X (.Compare a [.NotIn] [o] pos) env (!(ss.any fun y => decide (y = s))) :=
  et_cmp op_notIn_seq h ho (fun U v1 v2 H _ r1 r2 Q q => by
    obtain ⟨ad, vs, h1, h2, h3⟩ := r2
    have := h3.strs
    subst this
    have r1 : v1 = .str s := r1
    subst r1
    refine ⟨ad, _, h1, .inl (wo_le.lst h2), rfl, ?_, q _ H (Ex.refl H) ?_⟩
    · rw [List.all_map]
      exact List.all_eq_true.mpr fun _ _ => rfl
    · show V.bl _ = V.bl _
      rw [if_pos rfl, inV_strs]) hm
theorem et_ltS {s t : Str} (ha : EX X a env s) (hb : EX X b env t) : ET X (.Compare a [.Lt] [b] pos) env (ltS s t) := et_cmp op_lt_str ha hb (fun U v1 v2 H _ r1 r2 Q q => ⟨s, t, r1, r2, q _ H (Ex.refl H) rfl⟩) (nomark _)
theorem et_gtS {s t : Str} (ha : EX X a env s) (hb : EX X b env t) : ET X (.Compare a [.Gt] [b] pos) env (ltS t s) := et_cmp op_gt_str ha hb (fun U v1 v2 H _ r1 r2 Q q => ⟨s, t, r1, r2, q _ H (Ex.refl H) rfl⟩) (nomark _)
theorem et_inT {s : Str} {ss : TpS} (h : EX X a env s) (ho : EX X o env ss) (hm : behindInMarks .In o = false := by rfl) : ET X (.Compare a [.In] [o] pos) env (ss.l.any fun y => decide (y = s)) :=
  et_cmp op_in_seq h ho (fun U v1 v2 H _ r1 r2 Q q => by
    obtain ⟨ad, vs, h1, h2, h3⟩ := r2
    have := h3.strs
    subst this
    have r1 : v1 = .str s := r1
    subst r1
    refine ⟨ad, _, h1, .inr (wo_le.tup h2), rfl, ?_, q _ H (Ex.refl H) ?_⟩
    · rw [List.all_map]
      exact List.all_eq_true.mpr fun _ _ => rfl
    · show V.bl _ = V.bl _
      rw [if_neg (by decide), inV_strs]) hm
theorem et_notinT {s : Str} {ss : TpS} (h : EX X a env s) (ho : EX X o env ss) (hm : behindInMarks .NotIn o = false := by rfl) : ET X (.Compare a [.NotIn] [o] pos) env (!(ss.l.any fun y => decide (y = s))) :=
  et_cmp op_notIn_seq h ho (fun U v1 v2 H _ r1 r2 Q q => by
    obtain ⟨ad, vs, h1, h2, h3⟩ := r2
    have := h3.strs
    subst this
    have r1 : v1 = .str s := r1
    subst r1
    refine ⟨ad, _, h1, .inr (wo_le.tup h2), rfl, ?_, q _ H (Ex.refl H) ?_⟩
    · rw [List.all_map]
      exact List.all_eq_true.mpr fun _ _ => rfl
    · show V.bl _ = V.bl _
      rw [if_pos rfl, inV_strs]) hm
end
end R
set_option maxHeartbeats 1000000
set_option autoImplicit false
/-! try with ways out; except C as e, isinstance(e, D) -/
namespace R
open PySem PySem.Spec PyProof.Rows L2
/-- the exception that a suite holds -/
structure ExV where
  a : Addr
instance : Dat ExV := ⟨fun _ _ v x => v = .ref x.a, fun _ h => h⟩
/-- isinstance(e, c) for all that may be caught -/
structure IsC (K : PySem.W.Frag) (mg : Str → Option Value) (all some' : List Str) (c : Str) : Prop where
  ex : ∃ Cv, mg c = some (.ref Cv) ∧ ∀ n ∈ all, ∃ D, mg n = some (.ref D) ∧ ExcC K D ∧ PySem.W.kitOne K (.ref D) (.ref Cv) = some (some'.contains n)
section
variable {X : Cx} {W : WX} {env env' : Env'} {ρ α β γ : Type} [Res ρ] [Dat α] [Dat β] [Dat γ] {po : Po ρ} {x : α} {y : β} {z : γ} {e a b c : Expr} {es elts : List Expr} {pos p p2 pc p3 : Pos} {rest body : List Stmt}
theorem ex_isE {i : Nat} {v c : Str} {all some' : List Str} {e : Exn} {ad : Addr} {oe : Obj} {cls : Value} {d : Option Addr} {pn : List (Addr × Obj)} {Hf : Hp} (I : IsC X.K X.mg all some' c) (hi : X.mg "isinstance" = none) (hall : exnIn all e = true) (h1 : ∃ n, e = .one n) (hz : Zc cls d oe) (hfd : ∃ vs, oe.data = .fields vs) (xa : ExAt X.mg X.K Hf e cls d) (hv : env[i]? = some (.dat (ExV.mk ad)))
    (hN : (X.suite ad ((ad, oe) :: pn)).N[i]? = some v := by rfl) (hvis : Vis (X.suite ad ((ad, oe) :: pn)).env.scope v := by first | exact Or.inl rfl | exact Or.inr (Or.inl rfl) | exact Or.inr (Or.inr rfl)) (hd : (v == ("__debug__" : Str)) = false := by decide) (hc : (v == ("__classdict__" : Str)) = false := by decide)
    (hg : Gl (X.suite ad ((ad, oe) :: pn)) "isinstance" := by rfl) (hgc : Gl (X.suite ad ((ad, oe) :: pn)) c := by rfl) (hdc : (c == ("__debug__" : Str)) = false := by decide) (he : starEach [.Name v p, .Name c pc] (X.suite ad ((ad, oe) :: pn)).env = (false, eval (.Name v p) (X.suite ad ((ad, oe) :: pn)).env) :: starEach [.Name c pc] (X.suite ad ((ad, oe) :: pn)).env := by rfl) (he2 : starEach [.Name c pc] (X.suite ad ((ad, oe) :: pn)).env = (false, eval (.Name c pc) (X.suite ad ((ad, oe) :: pn)).env) :: starEach [] (X.suite ad ((ad, oe) :: pn)).env := by rfl) (hpl : (backTo pos (starEach [.Name c pc] (X.suite ad ((ad, oe) :: pn)).env)).any (·.1) = false := by rfl) :
    EX (X.suite ad ((ad, oe) :: pn)) (.Call (.Name "isinstance" p2) [.Name v p, .Name c pc] [] pos) env (exnIn some' e) := by
  obtain ⟨n, rfl⟩ := h1
  obtain ⟨Cv, hm, tb⟩ := I.ex
  have hn : n ∈ all := List.contains_iff_mem.mp hall
  obtain ⟨D, q1, q2, q3⟩ := tb n hn
  obtain ⟨x1, x2⟩ := xa
  rw [q1] at x1
  cases x1
  subst x2
  exact ex_of (pe_callB (call_isE q2 hz hfd) hg hi (by decide +kernel) (pa_cons (pe_var hN hvis hd hc) (pa_cons (pe_glob (v := .ref Cv) hgc hm rfl hdc) pa_nil he2) he) (by decide) (by decide) he hpl) fun O fp σ H S Q q => by
    obtain ⟨v1, w1, w2⟩ := S.sl i _ hv
    have w2 : v1 = .ref ad := w2
    subst w2
    exact ⟨.ref ad, w1, .ref Cv, .ref Cv, some'.contains n, rfl, fun u r => r, q3, q _ H (Ex.refl H) rfl⟩
/-- try: .. except C: .., ways out let be -/
theorem sx_tryG {S T : Type} {x : Str} {np ps' : Pos} {b0 : Stmt} {suite : List Stmt} {all some' : List Str} (uu : S → Env' → Env') (m : Except Exn (Stp S T)) (h : Exn → Stp S T) (hs : X.stack = X.env :: X.outer) (hf : X.env.frame = some X.env.locals) (cc : CatC X.K X.mg all some' x) (tk : Takes X W)
    (hv : ∀ e, m = .error e → exnIn all e = true ∧ exnIn some' e = true)
    (hb : ∀ (W' : WX) (pn : List (Addr × Obj)) (xe : Value → Shared → Prop), Takes (X.tr pn xe) W' → PassesOwn (model X.prog X.w) X.A X.env xe → SX (X.tr pn xe) W' body env { po with N := fun e => ∃ s, m = .ok (.go s) ∧ Sub e (uu s env), X := fun e env' => m = .error e ∧ env' = env })
    (hsu : ∀ e, m = .error e → ∀ (ad : Addr) (oe : Obj) (cls : Value) (d : Option Addr) (pn : List (Addr × Obj)) (Hf : Hp), Zc cls d oe → (∃ vs, oe.data = .fields vs) → ExAt X.mg X.K Hf e cls d → SX (X.suite ad ((ad, oe) :: pn)) W (b0 :: suite) env { po with N := fun e' => ∃ s, tryV m h = .go s ∧ Sub e' (uu s env) })
    (hr : ∀ s, tryV m h = .go s → SX X W rest (uu s env) po) (hg : Gl X x := by rfl) (hdb : (x == ("__debug__" : Str)) = false := by decide) : SX X W (.Try body [.ExceptHandler (some (.Name x np)) none (b0 :: suite) ps'] [] [] pos :: rest) env po := by
  obtain ⟨cv, hm, hx⟩ := cc.ex
  refine sx_cons (fun e => ∃ s, tryV m h = .go s ∧ Sub e (uu s env)) (s1_of (ps_try_only (tb := fun W' D σ H => ∀ pn xe, Takes (X.tr pn xe) W' → PassesOwn (model X.prog X.w) X.A X.env xe → tSs (X.tr pn xe) body D σ H) (ts := fun ad cls d D σ H => ∀ oe pn, Zc cls d oe → (∃ vs, oe.data = .fields vs) → tSs (X.suite ad ((ad, oe) :: pn)) (b0 :: suite) D σ H) hs hf ⟨hg, hdb, .inl hm⟩ tk
    (fun W' pn xe t q => ⟨fun pins s σ H D I h => h pn xe t q pins s I⟩) (fun ad oe cls d pn hz hfd => ⟨fun pins s σ H D I h => h oe pn hz hfd pins s I⟩)) fun O fp σ H S' D G => fun pn xe t q => hb _ pn xe t q O fp σ H S' D ⟨fun e f s2 h1 ⟨s, g1, g2⟩ kp S2 => G.nx e f s2 h1 ⟨s, tryV_ok g1, g2⟩ kp S2, G.rt, fun e env' fp' σ' cls d H' ⟨g1, g2⟩ kp S2 xa => by
      subst g2
      refine ⟨true, by rw [hx e _ cls d (hv e g1).1 xa, (hv e g1).2], fun _ ad ha oe pn hz hfd => ?_, fun z => by cases z⟩
      exact hsu e g1 ad oe cls d pn _ hz hfd xa O fp' σ' H' S2 D (G.step kp), G.bk, G.ct⟩) fun e ⟨s, g1, g2⟩ => sx_sub g2 (hr s g1)
/-- try: .. except C as e: .. -/
theorem sx_tryA {S T : Type} {i : Nat} {x v : Str} {np ps' : Pos} {b0 : Stmt} {suite : List Stmt} {all some' : List Str} (uu : S → Env' → Env') (m : Except Exn (Stp S T)) (h : Exn → Stp S T) (hN : X.N.Nodup) (hs : X.stack = X.env :: X.outer) (hf : X.env.frame = some X.env.locals) (cc : CatC X.K X.mg all some' x) (tk : Takes X W)
    (hv : ∀ e, m = .error e → exnIn all e = true ∧ exnIn some' e = true)
    (hb : ∀ (W' : WX) (pn : List (Addr × Obj)) (xe : Value → Shared → Prop), Takes (X.tr pn xe) W' → PassesOwn (model X.prog X.w) X.A X.env xe → SX (X.tr pn xe) W' body env { po with N := fun e => ∃ s, m = .ok (.go s) ∧ Sub e (uu s env), X := fun e env' => m = .error e ∧ env' = env })
    (hsu : ∀ e, m = .error e → ∀ (ad : Addr) (oe : Obj) (cls : Value) (d : Option Addr) (pn : List (Addr × Obj)) (Hf : Hp), Zc cls d oe → (∃ vs, oe.data = .fields vs) → ExAt X.mg X.K Hf e cls d → SX (X.suite ad ((ad, oe) :: pn)) W (b0 :: suite) (env.set i (.dat (ExV.mk ad))) { po with N := fun e' => ∃ s, tryV m h = .go s ∧ Sub (e'.set i .any) (uu s env), R := fun r e' => po.R r (e'.set i .any), B := fun e' => po.B (e'.set i .any), C := fun e' => po.C (e'.set i .any), X := fun _ _ => False })
    (hR : ∀ r e e', po.R r e → po.R r e') (hr : ∀ s, tryV m h = .go s → SX X W rest (uu s env) po) (hi : X.N[i]? = some v := by rfl) (hl : X.env.kindOf v = some .local := by rfl) (hg : Gl X x := by rfl) (hdb : (x == ("__debug__" : Str)) = false := by decide) : SX X W (.Try body [.ExceptHandler (some (.Name x np)) (some v) (b0 :: suite) ps'] [] [] pos :: rest) env po := by
  obtain ⟨cv, hm, hx⟩ := cc.ex
  refine sx_cons (fun e => ∃ s, tryV m h = .go s ∧ Sub e (uu s env)) (s1_of (ps_try_as (tb := fun W' D σ H => ∀ pn xe, Takes (X.tr pn xe) W' → PassesOwn (model X.prog X.w) X.A X.env xe → tSs (X.tr pn xe) body D σ H) (ts := fun ad cls d D σ H => ∀ oe pn, Zc cls d oe → (∃ vs, oe.data = .fields vs) → tSs (X.suite ad ((ad, oe) :: pn)) (b0 :: suite) D σ H) hs hf hN hi hl ⟨hg, hdb, .inl hm⟩ tk
    (fun W' pn xe t q => ⟨fun pins s σ H D I h => h pn xe t q pins s I⟩) (fun ad oe cls d pn hz hfd => ⟨fun pins s σ H D I h => h oe pn hz hfd pins s I⟩)) fun O fp σ H S' D G => fun pn xe t q => hb _ pn xe t q O fp σ H S' D ⟨fun e f s2 h1 ⟨s, g1, g2⟩ kp S2 => G.nx e f s2 h1 ⟨s, tryV_ok g1, g2⟩ kp S2, G.rt, fun e env' fp' σ' cls d H' ⟨g1, g2⟩ kp S2 xa => by
      subst g2
      refine ⟨true, by rw [hx e _ cls d (hv e g1).1 xa, (hv e g1).2], fun _ ad ha oe pn hz hfd => ?_, fun z => by cases z⟩
      refine hsu e g1 ad oe cls d pn _ hz hfd xa O fp' _ H' (S2.set i rfl) _ ?_
      have G2 := G.step kp
      exact ⟨fun e2 f2 s2 h2 ⟨s, k1, k2⟩ kp2 S3 => G2.nx (e2.set i .any) f2 _ h2 ⟨s, k1, k2⟩ kp2 (S3.forget i), fun r e2 f2 s2 v2 h2 k kp2 S3 rr => G2.rt r e2 f2 s2 v2 h2 (hR r _ _ k) kp2 S3 rr, fun e2 f2 s2 c2 d2 d3 h2 k => k.elim, fun e2 f2 s2 h2 k kp2 S3 => G2.bk (e2.set i .any) f2 _ h2 k kp2 (S3.forget i), fun e2 f2 s2 h2 k kp2 S3 => G2.ct (e2.set i .any) f2 _ h2 k kp2 (S3.forget i)⟩, G.bk, G.ct⟩) fun e ⟨s, g1, g2⟩ => sx_sub g2 (hr s g1)
end
end R
set_option maxHeartbeats 1000000
set_option autoImplicit false
/-! list(reversed(xs)) -/
namespace RQ2
open PySem PySem.Spec PyProof.Rows RT
section
variable {pg : Program} {wd : World} {Z : Around} {st : Shared} {RR : Result → Shared → Prop}
/-- a fresh list takes what a reversed list gives -/
theorem takes_rev {j m S : Addr} {vs : Array Value} (noh : Z.handled = none) (ij : st.heap.IsRevIter j m ((vs.size : Int) - 1)) (im : st.heap.IsList m vs) (ne : m ≠ j) (sz : vs.size ≤ sizeLine) (c0 : Nat) (neS : S ≠ j) (neM : S ≠ m) (iS : st.heap.get? S = some { cls := .type "list", data := .seq #[] c0 })
    (fin : ∀ t acc c1, Moved [S, j] (fun a b => b = a) st t → t.heap.get? S = some { cls := .type "list", dict := none, data := .seq acc c1, slots := #[] } → ItemsOf (fun i v => vs[vs.size - 1 - i]? = some v) acc vs.size → RR (.ok (.ret .none)) t) :
    wpAny (model pg wd) Z.in1 (Builtin.List.listExtendWith (.ref S) (.ref j) .none)
      (fun f t => match f with | .done r => RR (.ok r) t | .again k => k.quiet = true ∧ codeAny (model pg wd) Z k RR t) (fun e t => RR (.error e) t) st := by
  have WW := (Walks.listRev (prog := pg) (w := wd) (A := Z.in1) noh j m ne vs).toS
  have out : S ∉ [j, m] := by simp only [List.mem_cons, List.not_mem_nil, or_false, not_or]; exact ⟨neS, neM⟩
  have ty : st.TypeIs (.ref j) "list_reverseiterator" := Heap.IsRevIter.typeIs ij
  have same : Builtin.List.listSameRef (.ref S) (.ref j) = false := by simp [Builtin.List.listSameRef, neS]
  unfold Builtin.List.listExtendWith
  refine wpAny_bind (wpAny_typeOf ty ?_)
  rw [if_neg (by rw [same]; decide)]
  refine wpAny_bind (wpAny_pyIter_revIter ij ?_)
  refine wpAny_bind (wpAny_holding ?_)
  unfold Builtin.List.listLengthHint
  refine wpAny_bind (wpAny_specialOf ty nolen_lri ?_)
  show wpAny _ Z.in1 (specialOf (Value.ref j) (Str.ofString "__length_hint__") >>= _) _ _ _
  refine wpAny_bind (wpAny_specialOf ty hint_lri ?_)
  generalize hk : ("list_reverseiterator.__length_hint__" : String) = k0
  wp_delta
  rw [show splitId k0 = some ("list_reverseiterator", "__length_hint__") from by subst hk; decide +kernel]
  subst hk
  refine wpAny_bind (wpAny_isInstance (b := true) ty (by rw [isSubtype_type]; kernel_rfl) ?_)
  refine wpAny_pure ?_
  rw [if_neg (by decide)]
  have z0 : ((vs.size : Nat) : Int) - 1 - ((0 : Nat) : Int) = (vs.size : Int) - 1 := by omega
  refine wpAny_pure ⟨plainId_quiet F.plain_extend_loop _, codeAny_extend_loopS WW sz _ out _ vs.size 0 _ _ _ rfl (Nat.zero_le _) ⟨Nat.zero_le _, by rw [z0]; exact ij, im⟩ iS (ItemsOf.nil _) fun t acc c1 mv hS hi => ?_⟩
  exact fin t acc c1 mv hS hi
/-- list(a reversed list) -/
theorem list_rev {EE : Value → Shared → Prop} {j m : Addr} {vs : Array Value} {QQ : Value → Shared → Prop} (noh : Z.handled = none) (ij : st.heap.IsRevIter j m ((vs.size : Int) - 1)) (im : st.heap.IsList m vs) (ne : m ≠ j) (sz : vs.size ≤ sizeLine)
    (fin : ∀ (hp : Heap) (tk : Nat) acc c1, (∀ b o, b ≠ j → st.heap.get? b = some o → hp.get? b = some o) → hp.get? st.heap.objs.size = some { cls := .type "list", dict := none, data := .seq acc c1, slots := #[] } → ItemsOf (fun i v => vs[vs.size - 1 - i]? = some v) acc vs.size → QQ (.ref st.heap.objs.size) { st with heap := hp, toks := tk }) :
    wpAny (model pg wd) Z (call (.type "list") [.ref j]) QQ EE st := by
  obtain ⟨oj, hj, _⟩ := id ij
  obtain ⟨om, hm, _⟩ := id im
  have neS : st.heap.objs.size ≠ j := Nat.ne_of_gt (Heap.lt_size hj)
  have neM : st.heap.objs.size ≠ m := Nat.ne_of_gt (Heap.lt_size hm)
  refine callType_codes (Q₁ := fun ob t => ob = .ref st.heap.objs.size ∧ t = { st with heap := st.heap.push { cls := .type "list", data := .seq #[] } }) F.called_list (F.typeCall_list_1 _) F.entry_list_init (code_list_new _ ⟨rfl, rfl⟩) fun ob t ht => ?_
  obtain ⟨rfl, rfl⟩ := ht
  have at0 : (st.heap.push { cls := .type "list", data := .seq #[] }).get? st.heap.objs.size = some { cls := .type "list", data := .seq #[] } := Heap.get?_push_size _ rfl
  refine ⟨⟨_, at0, rfl⟩, F.args_list_init_2 _ _, ?_⟩
  show wpAny _ Z.in1.in1 (do let was ← Builtin.List.listItems (.ref st.heap.objs.size); Builtin.List.listUpdate (.ref st.heap.objs.size) (fun _ => #[]); letGo was.toList.reverse; Builtin.List.listExtendWith (.ref st.heap.objs.size) (.ref j) .none) _ _ _
  refine wpAny_bind ?_
  unfold Builtin.List.listItems
  refine wpAny_bind (wpAny_seqItems at0 rfl (wpAny_pure ?_))
  show wpAny _ Z.in1.in1 (updateSeq st.heap.objs.size (fun _ => #[]) >>= fun _ => letGo (#[] : Array Value).toList.reverse >>= fun _ => Builtin.List.listExtendWith (.ref st.heap.objs.size) (.ref j) .none) _ _ _
  refine wpAny_bind (wpAny_updateSeq at0 rfl ?_)
  have at1 := Heap.get?_update_self (Obj.mapSeq (fun _ => (#[] : Array Value))) at0 rfl
  have keep : ∀ b o, st.heap.get? b = some o → ((st.heap.push { cls := .type "list", data := .seq #[] }).update st.heap.objs.size (Obj.mapSeq (fun _ => (#[] : Array Value)))).get? b = some o := fun b o e => by
    have hb : b ≠ st.heap.objs.size := fun z => Nat.lt_irrefl _ (z ▸ Heap.lt_size e)
    exact (Heap.get?_update_other _ _ (Ne.symm hb)).trans (Heap.get?_push_of_some _ e)
  refine wpAny_bind (wpAny_letGo ?_)
  refine takes_rev (Z := Z.in1) noh (ij.at fun o e => keep _ _ e) (im.at fun o e => keep _ _ e) ne sz _ neS neM at1 fun t acc c1 mv hS hi => ⟨rfl, ?_⟩
  have et0 := Moved.eq_with mv
  have et : t = { st with heap := t.heap, toks := t.toks } := et0
  rw [et]
  refine fin t.heap t.toks acc c1 (fun b o hb e => mv.heap b o (fun hmem => ?_) (keep b o e)) hS hi
  rcases List.mem_cons.mp hmem with z | z
  · exact Nat.lt_irrefl _ (z ▸ Heap.lt_size e)
  · exact hb (List.mem_singleton.mp z)
end
end RQ2
namespace R
open PySem PySem.Spec PyProof.Rows L2
def tLstRev (K : PySem.W.Frag) (te : TE) : TE := fun σ H Q => te σ H fun v H1 => ∃ (a : Addr) (ws : List V), v = .ref a ∧ SqL K H1 a ws ∧ ∀ q, H1 q = none → Q (.ref q) (upd H1 q (.lst ws.reverse))
theorem rev_vals {ws : List V} {us : List Value} {acc : Array Value} (r : Vals ws us) (h : ItemsOf (fun i v => us.toArray[us.toArray.size - 1 - i]? = some v) acc us.toArray.size) : Vals ws.reverse acc.toList := by
  have e0 : us.toArray.size = us.length := List.size_toArray
  have e : acc.toList = us.reverse := by
    apply List.ext_getElem?
    intro j
    by_cases hj : j < us.length
    · have hja : j < acc.toList.length := by rw [Array.length_toList, h.1, e0]; exact hj
      have q1 : acc.toList[j]? = some acc.toList[j] := List.getElem?_eq_getElem hja
      have q2 : us.toArray[us.toArray.size - 1 - j]? = some acc.toList[j] := h.2 j _ (by rw [← Array.getElem?_toList]; exact q1)
      rw [q1, List.getElem?_reverse hj, ← q2, e0]
      simp
    · rw [List.getElem?_eq_none (by rw [Array.length_toList, h.1, e0]; omega), List.getElem?_eq_none (by rw [List.length_reverse]; omega)]
  rw [e]
  exact r.reverse
theorem pe_lstRev {X : Cx} {e : Expr} {te : TE} {p p2 pos pos2 : Pos} (hc : X.calm = true) (hg : Gl X "list") (hm : X.mg "list" = none) (hg2 : Gl X "reversed") (hm2 : X.mg "reversed" = none) (he : PE X e te) (hs : starEach [e] X.env = (false, eval e X.env) :: starEach [] X.env)
    (hs2 : starEach [.Call (.Name "reversed" p2) [e] [] pos2] X.env = (false, eval (.Call (.Name "reversed" p2) [e] [] pos2) X.env) :: starEach [] X.env) :
    PE X (.Call (.Name "list" p) [.Call (.Name "reversed" p2) [e] [] pos2] [] pos) (tLstRev X.K te) := by
  refine ⟨fun pins s σ H Q I h => ?_⟩
  refine Call_ (ld_blt I hg hm (by decide +kernel : bootBuiltins "list" = some (.type "list")) (PyProof.Rows.callWith_type1 (args_cons (Call_ (ld_blt I hg2 hm2 PyProof.Rows.boot_reversed (PyProof.Rows.callWith_type1 (args_cons (thn (he.run pins s σ H _ I h) fun u s1 ⟨v, H1, I1, r1, q1⟩ => args_nil ?_) hs) hs rfl))) hs2) hs2 rfl))
  obtain ⟨a, ws, ev, hq, q⟩ := q1
  subst ev
  obtain rfl : u = Value.ref a := r1
  obtain ⟨us, rv, pl, hz⟩ := I1.list hq
  refine call_reversed_list pl.isList ?_
  have J2 : Inv X pins σ H1 { s1 with heap := s1.heap.push (revObj a ((us.toArray.size : Int) - 1)) } := I1.kept (t' := s1.toks) fun b o z => Heap.get?_push_of_some _ z
  obtain ⟨ol, hol, _⟩ := id pl.isList
  have na : a ≠ s1.heap.objs.size := Nat.ne_of_lt (Heap.lt_size hol)
  have nz : us.toArray.size ≤ sizeLine := by rw [List.size_toArray, ← rv.length]; exact hz
  have fp : FpOk X pins H1 s1.heap.objs.size := I1.fpOk (H' := H1) (Nat.le_refl _) (I1.hok.fresh (Nat.le_refl _))
  refine args_nil ?_
  refine RQ2.list_rev (Z := X.A) (st := { s1 with heap := s1.heap.push (revObj a ((us.toArray.size : Int) - 1)) }) (I1.ok.hd hc) ⟨_, Heap.get?_push_size _ rfl, rfl, rfl⟩ (pl.isList.push _) na nz fun hp tk acc c1 hk hS hi => ?_
  have hn : H1 (s1.heap.push (revObj a ((us.toArray.size : Int) - 1))).objs.size = none := J2.hok.fresh (Nat.le_refl _)
  have hr : Vals ws.reverse acc.toList := rev_vals rv hi
  have J3 : Inv X pins σ (upd H1 (s1.heap.push (revObj a ((us.toArray.size : Int) - 1))).objs.size (.lst ws.reverse)) { s1 with heap := hp, toks := tk } :=
    J2.turnedNew (t' := tk) (ch := [s1.heap.objs.size]) (T := (s1.heap.push (revObj a ((us.toArray.size : Int) - 1))).objs.size) (fun b o hb z => hk b o (by simpa using hb) z) (fun b hb => by rw [List.mem_singleton.mp hb]; exact fp) (Nat.le_refl _) ⟨by rw [List.length_reverse]; exact hz, acc.toList, c1, hr, hS⟩
  exact ⟨V.ref (s1.heap.push (revObj a ((us.toArray.size : Int) - 1))).objs.size, _, J3, rfl, q _ hn⟩
section
variable {X : Cx} {env : Env'} {α : Type} [Dat α] {a : Expr} {p p2 pos pos2 : Pos} {xs : List α}
theorem Paired.rep_rev {K : PySem.W.Frag} {H : Hp} {vs : List V} {ys : List α} (h : repL K H vs ys) : repL K H vs.reverse ys.reverse := by
  induction h with
  | nil => exact .nil
  | cons r t ih => rw [List.reverse_cons, List.reverse_cons]; exact repL.app ih (.cons r .nil)
/-- list(reversed(xs)) -/
theorem en_listRev (hc : X.calm = true) (hm : X.mg "list" = none) (hm2 : X.mg "reversed" = none) (h : EX X a env xs) (hs : starEach [a] X.env = (false, eval a X.env) :: starEach [] X.env := by rfl)
    (hs2 : starEach [.Call (.Name "reversed" p2) [a] [] pos2] X.env = (false, eval (.Call (.Name "reversed" p2) [a] [] pos2) X.env) :: starEach [] X.env := by rfl) (hg : Gl X "list" := by rfl) (hg2 : Gl X "reversed" := by rfl) :
    EN X (.Call (.Name "list" p) [.Call (.Name "reversed" p2) [a] [] pos2] [] pos) env (OL.mk xs.reverse) := by
  intro O fp σ H S Q q pins s I
  refine (pe_lstRev hc hg hm hg2 hm2 (mE X a) hs hs2).run pins s σ H Q I ?_
  refine h O fp σ H S _ fun v H1 e1 r1 => ?_
  obtain ⟨ad, vs, rfl, t1, l1⟩ := r1
  refine ⟨ad, vs, rfl, wo_le.lst t1, fun u hu => ?_⟩
  refine q (.ref u) [u] _ (e1.trans (Ex.new hu)) (fun b hb => by rw [List.mem_singleton.mp hb]; exact e1.free hu) (fun b hb => by rw [List.mem_singleton.mp hb]; exact ⟨_, upd_same⟩) fun Hf le => ⟨u, vs.reverse, rfl, rfl, upd_same, ?_⟩
  exact (Paired.rep_rev l1).mono (Le.trans (le_new hu) le)
end
end R
set_option maxHeartbeats 1000000
set_option autoImplicit false
/-! sorted(set(ns)), ns a list of ints -/
namespace RQ3
open PySem PySem.Spec PyProof.Rows L2
section
variable {pg : Program} {wd : World} {Z : Around} {st : Shared} {EE : Value → Shared → Prop}
abbrev newSet (wd : World) : Obj := { cls := .type "set", dict := none, data := .set #[] 0 (.fresh 0 0 (!wd.params.followText "set-order")) }
theorem set_ints {j : Addr} {vs : Array Value} (ns : List Int) {QQ : Value → Shared → Prop} (noh : Z.handled = none) (ij : st.heap.IsList j vs) (iv : IntsAre vs.toList ns) (room : ns.length + 1 < scanBound)
    (fin : ∀ (hp : Heap) (tk c : Nat), SetR wd hp st.heap.objs.size (fun k => decide (k ∈ ns)) c → c ≤ ns.length → (∀ b o, st.heap.get? b = some o → hp.get? b = some o) → QQ (.ref st.heap.objs.size) { st with heap := hp, toks := tk }) :
    wpAny (model pg wd) Z (call (.type "set") [.ref j]) QQ EE st := by
  have sz : vs.size = ns.length := (Array.length_toList (xs := vs)).symm.trans (IntsAre.length iv)
  obtain ⟨c0, tl, om⟩ := F.called_set.mro
  have made0 := F.called_set.made
  have sub0 := F.called_set.sub
  refine wpAny_call (codeAny_of_tree ?_)
  show wpAny _ _ (callAny (.type "set") _) _ _ _
  refine wpAny_pure ⟨Code.quiet_builtin _ (by decide +kernel), codeAny_builtin F.entry_type_call ?_⟩; rw [Around.under_plain (weight_type_call_type "set" [.ref j] []) rfl]
  have h1 := F.called_set.notType
  have h2 := F.called_set.canCreate
  have ck0 := F.typeCall_set_1 (.ref j)
  repeat (any_goals (first | assumption | wp_step))
  refine codeAny_mono (code_set_led1 (.ref j) (E := EE) (Q₁ := fun obj s₁ => obj = .ref st.heap.objs.size ∧ s₁ = { st with heap := st.heap.push { cls := .type "set", dict := none, data := .set #[] 0 (.fresh 0 0 (!wd.params.followText "set-order")) } }) ⟨rfl, rfl⟩) fun r s₁ hr => ?_
  cases r with
  | error e => exact hr
  | ok fl =>
    cases fl with
    | ret obj =>
      obtain ⟨rfl, rfl⟩ := hr
      have at0 : (st.heap.push { cls := .type "set", dict := none, data := .set #[] 0 (.fresh 0 0 (!wd.params.followText "set-order")) }).get? st.heap.objs.size = some { cls := .type "set", dict := none, data := .set #[] 0 (.fresh 0 0 (!wd.params.followText "set-order")) } := Heap.get?_push_size _ rfl
      have ty0 : Shared.TypeIs { st with heap := st.heap.push { cls := .type "set", dict := none, data := .set #[] 0 (.fresh 0 0 (!wd.params.followText "set-order")) } } (.ref st.heap.objs.size) "set" := ⟨_, at0, rfl⟩
      have lk0 := F.called_set.init.lookup
      have bd0 := F.called_set.init.bind (.ref st.heap.objs.size)
      repeat (any_goals (first | assumption | wp_step))
      refine codeAny_mono (codeAny_call_builtin (R := wants (fun r s₂ => r = .none ∧ ∃ h' tk c, s₂ = { st with heap := h', toks := tk } ∧ SetR wd h' st.heap.objs.size (fun j => decide (j ∈ ns)) c ∧ c ≤ ns.length ∧ (∀ b o, st.heap.get? b = some o → h'.get? b = some o)) EE) F.called_set.init.plain F.entry_set_init (check_set_init_1 ty0 ?_)) fun r₂ s₂ hr₂ => ?_
      · obtain ⟨ol, om1, hcl, nl, hdl⟩ := ij
        obtain ⟨ocls, odict, odata, oslots⟩ := ol
        simp only at hcl hdl
        subst hcl; subst hdl
        have ol1 : (st.heap.push { cls := .type "set", dict := none, data := .set #[] 0 (.fresh 0 0 (!wd.params.followText "set-order")) }).get? j = some { cls := .type "list", dict := odict, data := .seq vs nl, slots := oslots } := Heap.get?_push_of_some _ om1
        have ss0 := F.sub_list_set
        have sf0 := F.sub_list_frozenset
        have hne : (Value.type "list" == Value.type "dict") = false := by decide
        have ij1 : (st.heap.push { cls := .type "set", dict := none, data := .set #[] 0 (.fresh 0 0 (!wd.params.followText "set-order")) }).IsList j vs := ⟨_, ol1, rfl, nl, rfl⟩
        unfold Builtin.«set.__init__» noKeywords Builtin.Frozenset.updateFrom
        generalize hPI : pyIter = PI
        wp_walk
        subst hPI
        refine wpAny_pyIter_list ij1 ?_
        refine wpAny_bind (wpAny_runValue ?_)
        have lt0 : j < st.heap.objs.size := Heap.lt_size om1
        have noh3 : Z.in1.in1.in1.handled = none := by simp [noh]
        have szh : (st.heap.push { cls := .type "set", dict := none, data := .set #[] 0 (.fresh 0 0 (!wd.params.followText "set-order")) }).objs.size = st.heap.objs.size + 1 := Heap.size_push ..
        have neI : j ≠ (st.heap.push { cls := .type "set", dict := none, data := .set #[] 0 (.fresh 0 0 (!wd.params.followText "set-order")) }).objs.size := by
          rw [Heap.size_push]; exact Nat.ne_of_lt (Nat.lt_succ_of_lt lt0)
        have out0 : st.heap.objs.size ∉ [(st.heap.push { cls := .type "set", dict := none, data := .set #[] 0 (.fresh 0 0 (!wd.params.followText "set-order")) }).objs.size, j] := by
          rw [Heap.size_push]; simp only [List.mem_cons, List.mem_singleton, List.not_mem_nil, or_false, not_or]
          exact ⟨Nat.ne_of_lt (Nat.lt_succ_self _), Nat.ne_of_gt lt0⟩
        have val0 : ∀ (i : Nat) (v : Value), vs[i]? = some v → ∃ k t, ns[i]? = some k ∧ v = .int k t := fun i v hv => by
          have hi : i < ns.length := by rw [← sz]; exact (Array.getElem?_eq_some_iff.mp hv).1
          obtain ⟨t, e⟩ := IntsAre.int_at iv i v (by rw [Array.getElem?_toList]; exact hv)
          refine ⟨ns[i], t, List.getElem?_eq_getElem hi, ?_⟩
          rw [e, List.getD_eq_getElem?_getD, List.getElem?_eq_getElem hi] <;> rfl
        refine set_update_ints ((Walks.list noh3 _ j neI vs).toS) st.heap.objs.size
          out0 ns sz room val0 (vs.size - 0) 0 _ (by omega) (Nat.zero_le _)
          ⟨⟨_, Heap.get?_push_size _ rfl, rfl, rfl⟩, (ij1.push _)⟩ ?hS0 ?hR
        case hS0 =>
          have gt0 : ((st.heap.push { cls := .type "set", dict := none, data := .set #[] 0 (.fresh 0 0 (!wd.params.followText "set-order")) }).push { cls := .type "list_iterator", data := .fields #[.ref j, .int 0 0] }).get? st.heap.objs.size
              = some { cls := .type "set", dict := none, data := .set #[] 0 (.fresh 0 0 (!wd.params.followText "set-order")) } := Heap.get?_push_of_some _ at0
          exact ⟨0, Nat.le_refl 0, setR_new_at gt0⟩
        case hR =>
          intro s' c' mv zS0 zS
          have zc := zS0
          obtain ⟨h', g2, d', tk', os'⟩ := s'
          have eg : g2 = st.gens := mv.gens
          have ed : d' = st.drawn := mv.drawn
          have eo : os' = st.os := mv.os
          subst eg; subst ed; subst eo
          show wpAny _ _ _ _ _ _
          refine wpAny_pure ?_
          show wpAny _ _ (ret Value.none) _ _ _
          rw [sz] at zc
          refine wpAny_pure ⟨rfl, h', tk', c', rfl, zS, zc, fun b o e => ?_⟩
          have hb0 : b < st.heap.objs.size := Heap.lt_size e
          have hb1 : b ≠ st.heap.objs.size := Nat.ne_of_lt hb0
          have hb2 : b ≠ (st.heap.push { cls := .type "set", dict := none, data := .set #[] 0 (.fresh 0 0 (!wd.params.followText "set-order")) }).objs.size := by
            rw [Heap.size_push]; exact Nat.ne_of_lt (Nat.lt_succ_of_lt hb0)
          exact mv.heap b o (by simp only [List.mem_cons, List.mem_singleton, List.not_mem_nil, or_false, not_or]; exact ⟨hb1, hb2⟩) (Heap.get?_push_of_some _ (Heap.get?_push_of_some _ e))
      · cases r₂ with
        | error e => exact hr₂
        | ok fl₂ =>
          cases fl₂ with
          | ret r =>
            obtain ⟨rfl, h', tk, c', rfl, zS, zc, zk⟩ := hr₂
            repeat (any_goals (first | assumption | wp_step))
            exact fin _ _ _ zS zc zk
          | _ => exact hr₂.elim
    | _ => exact hr.elim
end
end RQ3
namespace R
open PySem PySem.Spec PyProof.Rows L2
/-- into a rising list, once -/
def insU (n : Int) : List Int → List Int
  | [] => [n]
  | m :: l => if n < m then n :: m :: l else if n = m then m :: l else m :: insU n l
/-- the numbers of a list, rising, each once -/
def sortU (xs : List Int) : List Int := xs.foldr insU []
theorem mem_insU {n k : Int} : ∀ {l : List Int}, k ∈ insU n l ↔ k = n ∨ k ∈ l
  | [] => by simp [insU]
  | m :: l => by
    unfold insU
    split
    · simp
    · split
      · rename_i h; subst h; simp
      · rw [List.mem_cons, mem_insU, List.mem_cons]
        constructor
        · rintro (h | h | h)
          · exact .inr (.inl h)
          · exact .inl h
          · exact .inr (.inr h)
        · rintro (h | h | h)
          · exact .inr (.inl h)
          · exact .inl h
          · exact .inr (.inr h)
theorem rise_insU {n : Int} : ∀ {l : List Int}, l.Pairwise (· < ·) → (insU n l).Pairwise (· < ·)
  | [], _ => by simp [insU]
  | m :: l, h => by
    have h1 := List.pairwise_cons.mp h
    unfold insU
    split
    · rename_i hn
      exact List.pairwise_cons.mpr ⟨fun a ha => by
        rcases List.mem_cons.mp ha with z | z
        · rw [z]; exact hn
        · exact Int.lt_trans hn (h1.1 a z), h⟩
    · split
      · exact h
      · exact List.pairwise_cons.mpr ⟨fun a ha => by
          rcases mem_insU.mp ha with z | z
          · rw [z]; omega
          · exact h1.1 a z, rise_insU h1.2⟩
theorem mem_sortU {k : Int} : ∀ {xs : List Int}, k ∈ sortU xs ↔ k ∈ xs
  | [] => by simp [sortU]
  | x :: xs => by
    show k ∈ insU x (sortU xs) ↔ _
    rw [mem_insU, mem_sortU, List.mem_cons]
theorem rise_sortU : ∀ {xs : List Int}, (sortU xs).Pairwise (· < ·)
  | [] => by simp [sortU]
  | x :: xs => rise_insU rise_sortU
/-- a rising list is told by its members -/
theorem rise_eq : ∀ {xs ys : List Int}, xs.Pairwise (· < ·) → ys.Pairwise (· < ·) → (∀ k, k ∈ xs ↔ k ∈ ys) → xs = ys
  | [], [], _, _, _ => rfl
  | [], y :: ys, _, _, h => absurd ((h y).mpr (by simp)) (by simp)
  | x :: xs, [], _, _, h => absurd ((h x).mp (by simp)) (by simp)
  | x :: xs, y :: ys, h1, h2, h => by
    have a1 := List.pairwise_cons.mp h1
    have a2 := List.pairwise_cons.mp h2
    have e : x = y := by
      rcases List.mem_cons.mp ((h x).mp (by simp)) with z | z
      · exact z
      · rcases List.mem_cons.mp ((h y).mpr (by simp)) with w | w
        · exact w.symm
        · have := a2.1 x z
          have := a1.1 y w
          omega
    subst e
    rw [rise_eq a1.2 a2.2 fun k => ⟨fun hk => by
      rcases List.mem_cons.mp ((h k).mp (by simp [hk])) with z | z
      · have := a1.1 k hk
        omega
      · exact z, fun hk => by
      rcases List.mem_cons.mp ((h k).mpr (by simp [hk])) with z | z
      · have := a2.1 k hk
        omega
      · exact z⟩]
theorem sortU_self {xs : List Int} (h : xs.Pairwise (· < ·)) : sortU xs = xs := rise_eq rise_sortU h fun k => mem_sortU
theorem sortU_eq_iff {xs : List Int} : xs = sortU xs ↔ xs.Pairwise (· < ·) := ⟨fun h => by rw [h]; exact rise_sortU, fun h => (sortU_self h).symm⟩
theorem sortU_len : ∀ {xs : List Int}, (sortU xs).length ≤ xs.length
  | [] => Nat.le_refl _
  | x :: xs => by
    have h : ∀ (l : List Int), (insU x l).length ≤ l.length + 1 := fun l => by
      induction l with
      | nil => exact Nat.le_refl _
      | cons m l ih =>
        unfold insU
        split
        · exact Nat.le_refl _
        · split
          · exact Nat.le_succ _
          · exact Nat.succ_le_succ ih
    exact Nat.le_trans (h _) (Nat.succ_le_succ sortU_len)
def tSortU (K : PySem.W.Frag) (te : TE) : TE := fun σ H Q => te σ H fun v H1 => ∃ (a : Addr) (ns : List Int), v = .ref a ∧ SqL K H1 a (ns.map V.int) ∧ ns.length < 64 ∧ ∀ q, H1 q = none → Q (.ref q) (upd H1 q (.lst ((sortU ns).map V.int)))
theorem pe_sortU {X : Cx} {e : Expr} {te : TE} {p p2 pos pos2 : Pos} (hc : X.calm = true) (hg : Gl X "sorted") (hm : X.mg "sorted" = none) (hg2 : Gl X "set") (hm2 : X.mg "set" = none) (he : PE X e te) (hs : starEach [e] X.env = (false, eval e X.env) :: starEach [] X.env)
    (hs2 : starEach [.Call (.Name "set" p2) [e] [] pos2] X.env = (false, eval (.Call (.Name "set" p2) [e] [] pos2) X.env) :: starEach [] X.env) :
    PE X (.Call (.Name "sorted" p) [.Call (.Name "set" p2) [e] [] pos2] [] pos) (tSortU X.K te) := by
  refine ⟨fun pins s0 σ H Q I h => ?_⟩
  refine Call_ (ld_blt I hg hm PyProof.Rows.boot_sorted (PyProof.Rows.callWith_builtin1 (args_cons (Call_ (ld_blt I hg2 hm2 PyProof.Rows.boot_set (PyProof.Rows.callWith_type1 (args_cons (thn (he.run pins s0 σ H _ I h) fun u s1 ⟨v, H1, I1, r1, q1⟩ => args_nil ?_) hs) hs rfl))) hs2) hs2 rfl))
  obtain ⟨a, ns, ev, hq, hl, q⟩ := q1
  subst ev
  obtain rfl : u = Value.ref a := r1
  obtain ⟨us, rv, pl, hz⟩ := I1.list hq
  have iv : IntsAre us.toArray.toList ns := by simpa using RZ.intsAre_vals rv
  refine RQ3.set_ints ns (I1.ok.hd hc) pl.isList iv (by unfold scanBound; omega) fun hp tk c hS hcl hk => ?_
  have hn1 : H1 s1.heap.objs.size = none := I1.hok.fresh (Nat.le_refl _)
  have J : Inv X pins σ H1 { s1 with heap := hp, toks := tk } := I1.kept (t' := tk) fun b o z => hk b o z
  refine args_nil ?_
  refine sorted_set (s := { s1 with heap := hp, toks := tk }) hS (I1.ok.hd hc) (by omega) fun s' p0 out c2 ms k g o hp0 hp1 hi hs0 hm0 hl0 => ?_
  have em : ms = sortU ns := rise_eq hs0 rise_sortU fun k => by rw [hm0, mem_sortU]; exact decide_eq_true_iff
  subst em
  have hlen : ((sortU ns).map V.int).length ≤ sizeLine := by rw [List.length_map, hl0, sizeLine_eq]; omega
  have hn : H1 p0 = none := J.hok.fresh hp0
  have J2 : Inv X pins σ (upd H1 p0 (.lst ((sortU ns).map V.int))) { ({ s1 with heap := hp, toks := tk } : Shared) with heap := s'.heap, gens := s'.gens, drawn := s'.drawn, toks := s'.toks } :=
    Inv.call (s := ({ s1 with heap := hp, toks := tk } : Shared)) J (ch := []) (Un.laid k hp0 hn) (J.hok.laid k hp0 ⟨hlen, out.toList, c2, vals_of_ints hi, hp1⟩) (by rw [g]; exact J.bare) (fun _ z => nomatch z)
  have e : s' = { s1 with heap := s'.heap, gens := s'.gens, drawn := s'.drawn, toks := s'.toks } := by
    cases s'; cases s1; cases o; rfl
  rw [e]
  exact ⟨.ref p0, _, J2, rfl, q p0 hn⟩
section
variable {X : Cx} {env : Env'} {a : Expr} {p p2 pos pos2 : Pos} {xs : List Int}
/-- sorted(set(xs)), xs a list of ints -/
theorem en_sortU (hc : X.calm = true) (hm : X.mg "sorted" = none) (hm2 : X.mg "set" = none) (h : EX X a env xs) (hl : xs.length < 64) (hs : starEach [a] X.env = (false, eval a X.env) :: starEach [] X.env := by rfl)
    (hs2 : starEach [.Call (.Name "set" p2) [a] [] pos2] X.env = (false, eval (.Call (.Name "set" p2) [a] [] pos2) X.env) :: starEach [] X.env := by rfl) (hg : Gl X "sorted" := by rfl) (hg2 : Gl X "set" := by rfl) :
    EN X (.Call (.Name "sorted" p) [.Call (.Name "set" p2) [a] [] pos2] [] pos) env (OL.mk (sortU xs)) := by
  intro O fp σ H S Q q pins s I
  refine (pe_sortU hc hg hm hg2 hm2 (mE X a) hs hs2).run pins s σ H Q I ?_
  refine h O fp σ H S _ fun v H1 e1 r1 => ?_
  obtain ⟨ad, vs, rfl, t1, l1⟩ := r1
  obtain rfl := repL.ints l1
  refine ⟨ad, xs, rfl, wo_le.lst t1, hl, fun u hu => ?_⟩
  refine q (.ref u) [u] _ (e1.trans (Ex.new hu)) (fun b hb => by rw [List.mem_singleton.mp hb]; exact e1.free hu) (fun b hb => by rw [List.mem_singleton.mp hb]; exact ⟨_, upd_same⟩) fun Hf le => ⟨u, (sortU xs).map V.int, rfl, rfl, upd_same, ?_⟩
  exact ints_rep _
end
end R
set_option maxHeartbeats 400000
set_option autoImplicit false
namespace R
open PySem PySem.Spec PyProof.Rows L2
/-- nothing handed over is pinned -/
def noPinB : List Arg → Bool
  | [] => true
  | .dat _ :: r => noPinB r
  | .slot _ b :: r => !b && noPinB r
theorem no_pin : ∀ {as : List Arg}, noPinB as = true → ∀ (l i : Nat), as[l]? ≠ some (Arg.slot i true)
  | [], _, _, _, e => by simp at e
  | .dat _ :: r, h, 0, _, e => by simp at e
  | .dat _ :: r, h, l + 1, i, e => no_pin (as := r) h l i (by simpa using e)
  | .slot j b :: r, h, 0, i, e => by
    have e2 : j = i ∧ b = true := by simpa using e
    rw [e2.2] at h
    simp [noPinB] at h
  | .slot j b :: r, h, l + 1, i, e => no_pin (as := r) (by simp [noPinB] at h; exact h.2) l i (by simpa using e)
theorem repL.put {α : Type} [Dat α] {K : PySem.W.Frag} {H : Hp} {v : V} {x : α} (r : Dat.rep K H v x) : ∀ {vs : List V} {xs : List α} (n : Nat), repL K H vs xs → repL K H (vs.set n v) (xs.set n x)
  | _, _, _, .nil => .nil
  | _, _, 0, .cons _ t => .cons r t
  | _, _, n + 1, .cons h t => .cons h (repL.put r n t)
section
variable {X : Cx} {env : Env'} {a b : Expr} {pos : Pos} {x y : Bool}
/-- is, is not of bools -/
theorem ex_isB (ha : EX X a env x) (hb : EX X b env y) (hm : behindInMarks .Is b = false := by rfl) : EX X (.Compare a [.Is] [b] pos) env (decide (x = y)) := ex_cmp op_isBl ha hb (fun U v1 v2 H _ r1 r2 Q q => ⟨x, y, r1, r2, q _ H (Ex.refl H) rfl⟩) hm
theorem et_isB (ha : EX X a env x) (hb : EX X b env y) (hm : behindInMarks .Is b = false := by rfl) : ET X (.Compare a [.Is] [b] pos) env (decide (x = y)) := et_cmp op_isBl ha hb (fun U v1 v2 H _ r1 r2 Q q => ⟨x, y, r1, r2, q _ H (Ex.refl H) rfl⟩) hm
theorem ex_isNotB (ha : EX X a env x) (hb : EX X b env y) (hm : behindInMarks .IsNot b = false := by rfl) : EX X (.Compare a [.IsNot] [b] pos) env (!decide (x = y)) := ex_cmp op_notBl ha hb (fun U v1 v2 H _ r1 r2 Q q => ⟨x, y, r1, r2, q _ H (Ex.refl H) rfl⟩) hm
theorem et_isNotB (ha : EX X a env x) (hb : EX X b env y) (hm : behindInMarks .IsNot b = false := by rfl) : ET X (.Compare a [.IsNot] [b] pos) env (!decide (x = y)) := et_cmp op_notBl ha hb (fun U v1 v2 H _ r1 r2 Q q => ⟨x, y, r1, r2, q _ H (Ex.refl H) rfl⟩) hm
end
/-- xs[i] = e, xs one's own -/
theorem sx_lput {X : Cx} {W : WX} {env : Env'} {ρ α : Type} [Res ρ] [Dat α] {po : Po ρ} {x : α} {e b : Expr} {rest : List Stmt} {xs : List α} {k : Int} {i : Nat} {st : Stmt} (ps : PS X st (tAsg (tE X e) (gSub (tVar i) (tE X b) rSetL))) (hi : env[i]? = some (.own (OL.mk xs))) (he : EX X e env x) (hk : EX X b env k) (g : 0 ≤ k ∧ k < (xs.length : Int)) (h : SX X W rest (env.set i (.own (OL.mk (List.set xs (Int.toNat k) x)))) po) : SX X W (st :: rest) env po :=
  sx_step ps (fun O fp σ H S D q => he O fp σ H S _ fun v H1 e1 r1 => by
    have S1 := S.ex e1
    obtain ⟨ad, ws, h1, h2, h3, h4⟩ := S1.ol hi
    refine ⟨.ref ad, h1, hk O fp σ H1 S1 _ fun u H2 e2 r2 => ?_⟩
    have S2 := S1.ex e2
    have r2 : u = .int k := r2
    subst r2
    have hl := Paired.length h4
    refine ⟨ad, ws, k, k.toNat, rfl, rfl, e2 ad _ h3, ?_, ?_⟩
    · unfold ixN
      rw [if_pos g.1, if_pos (by omega)]
    · refine q fp σ _ ((Keep.ex (e1.trans e2)).trans (Keep.mut ⟨i, by rw [h2]; exact List.mem_singleton.mpr rfl⟩)) (S2.mut hi h2 fun v' hv' => ?_)
      rw [h1] at hv'
      cases hv'
      exact ⟨ad, _, rfl, rfl, upd_same, repL.put (Dat.mono (wo_ex e2).le r1) _ (h4.mono (wo_ex e2).le)⟩) h
end R
set_option maxHeartbeats 2000000
set_option autoImplicit false
/-! a loop over a list of one's own, which stays one's own -/
namespace R
open PySem PySem.Spec PyProof.Rows L2
/-- at turn i the item xs[i], as long as the list at v tells ys -/
def YieldsO {α γ : Type} [Dat α] [Dat γ] (K : PySem.W.Frag) (J : It) (v : V) (ys : List α) (xs : List γ) : Prop :=
  ∀ (H' : Hp) (U' : Addr → Prop) (L : List Addr), (∀ a, U' a → ∃ o, H' a = some o) → Own.own K (wo H' U') H' v L (OL.mk ys) → ∀ i, (∀ x, xs[i]? = some x → J.go i H' ∧ ∀ w H'', J.yld i H' w H'' → Ex H' H'' ∧ Dat.rep K (wo H'' U') w x) ∧ (xs.length ≤ i → J.stop i H')
def IXP {α γ : Type} [Dat α] [Dat γ] (X : Cx) (tg iter : Expr) (env : Env') (k : Nat) (v : V) (ys : List α) (xs : List γ) : Prop :=
  ∀ O fp σ H, SOk X.K O fp env σ H → ∀ R : It → Hp → Prop, (∀ J H1, Ex H H1 → YieldsO X.K J v ys xs → R J H1) → tI X tg iter σ H R
section
variable {X : Cx} {W : WX} {env env' : Env'} {ρ α β γ : Type} [Res ρ] [Dat α] [Dat β] [Dat γ] {po : Po ρ} {x : α} {y : β} {z : γ} {e a b c tg iter : Expr} {es elts : List Expr} {pos p p2 tpos : Pos} {rest body sts : List Stmt} {ys : List α} {xs : List γ} {k kk : Nat} {v : V} {n : Str}
/-- from here on it is told where it lies -/
theorem sx_pin {β' : Type} [Own β'] {x : β'} {i : Nat} (hi : env[i]? = some (.own x)) (h : ∀ v, SX X W sts (env.set i (.own (At.mk v x))) po) : SX X W sts env po := fun O fp σ H S => by
  obtain ⟨v, _, S'⟩ := S.pin hi
  exact h v O fp σ H S'
theorem ixp_list {ys : List α} (hk : env[k]? = some (.own (At.mk v (OL.mk ys)))) (hN : X.N[k]? = some n := by rfl) (hv : Vis X.env.scope n := by first | exact Or.inl rfl | exact Or.inr (Or.inl rfl) | exact Or.inr (Or.inr rfl)) (hd : (n == ("__debug__" : Str)) = false := by decide) (hc : (n == ("__classdict__" : Str)) = false := by decide) : IXP X tg (.Name n p) env k v ys ys := fun O fp σ H S R r pins s I => by
  obtain ⟨u, h1, h2, ad, vs, h3, h4, h5, h6⟩ := S.sl k _ hk
  have h2 : u = v := h2
  subst h2
  refine (pi_list (pe_var hN hv hd hc)).run pins s σ H R I ⟨u, h1, ad, h3, ⟨vs, .inl (.inl h5)⟩, r _ H (Ex.refl H) fun H' U' L bn ow i => ?_⟩
  obtain ⟨ad', ws, e1, e2, e3, rl⟩ := ow
  rw [h3] at e1
  injection e1 with e1
  subst e1
  have l' : SqL X.K H' ad ws := .inl (.inl e3)
  refine ⟨fun x hx => ?_, fun hi => ⟨ws, l', by rw [Paired.length rl]; exact hi⟩⟩
  obtain ⟨w, hw, rw'⟩ := rl.get hx
  refine ⟨⟨ws, w, l', hw⟩, fun u2 H'' ⟨q1, q2⟩ => ?_⟩
  subst q1
  have := q2 ws l'
  rw [hw] at this
  cases this
  exact ⟨Ex.refl _, rw'⟩
theorem ixp_enum {ys : List α} (hk : env[k]? = some (.own (At.mk v (OL.mk ys)))) (hm : X.mg "enumerate" = none) (hg : Gl X "enumerate" := by rfl) (hs : starEach [.Name n p2] X.env = [(false, eval (.Name n p2) X.env)] := by rfl) (hN : X.N[k]? = some n := by rfl) (hv : Vis X.env.scope n := by first | exact Or.inl rfl | exact Or.inr (Or.inl rfl) | exact Or.inr (Or.inr rfl)) (hd : (n == ("__debug__" : Str)) = false := by decide) (hc : (n == ("__classdict__" : Str)) = false := by decide) :
    IXP X (.Tuple elts kk tpos) (.Call (.Name "enumerate" p) [.Name n p2] [] pos) env k v ys (enumI ys) := fun O fp σ H S R r pins s I => by
  obtain ⟨u, h1, h2, ad, vs, h3, h4, h5, h6⟩ := S.sl k _ hk
  have h2 : u = v := h2
  subst h2
  refine (pi_enum hg hm (pa_cons (pe_var hN hv hd hc) pa_nil hs) hs).run pins s σ H R I ⟨u, h1, ad, vs, by rw [h3], .inl (.inl h5), r _ H (Ex.refl H) fun H' U' L bn ow i => ?_⟩
  obtain ⟨ad', ws, e1, e2, e3, rl⟩ := ow
  rw [h3] at e1
  injection e1 with e1
  subst e1
  have l' : SqL X.K H' ad ws := .inl (.inl e3)
  refine ⟨fun x hx => ?_, fun hi => ⟨ws, l', by rw [Paired.length rl]; unfold enumI at hi; simpa using hi⟩⟩
  unfold enumI at hx
  rw [List.getElem?_mapIdx] at hx
  cases hy : ys[i]? with
  | none => rw [hy] at hx; cases hx
  | some y =>
    rw [hy] at hx
    have hx : ((i : Int), y) = x := Option.some.inj hx
    subst hx
    obtain ⟨w, hw, rw'⟩ := rl.get hy
    refine ⟨⟨ws, w, l', hw⟩, fun u2 H'' ⟨T, x', q1, q2, q3, q4⟩ => ?_⟩
    subst q1 q3
    have := q4 ws l'
    rw [hw] at this
    cases this
    exact ⟨Ex.new q2, new_rep bn q2 rfl rw'⟩
theorem for_coreP {S : Type} (u : S → Env') (I : List γ → S → Prop) (M : Env' → Prop) (s0 : S) (hu : ∀ s, (u s)[k]? = some (.own (At.mk v (OL.mk ys)))) {O : Addr → Prop} {fp : Nat → List Addr} {σ : L2.St} {H : Hp} {D : Ends} (S' : SOk X.K O fp env σ H) (hi : ∀ R : It → Hp → Prop, (∀ J H1, Ex H H1 → YieldsO X.K J v ys xs → R J H1) → tI X tg iter σ H R) (h0 : Sub env (u s0)) (hI : I xs s0)
    (hb : ∀ x r s, I (x :: r) s → ∃ e1, GX X tg x (u s) e1 ∧ SX X W body e1 { po with N := fun e => ∃ s', Sub e (u s') ∧ I r s', C := fun e => ∃ s', Sub e (u s') ∧ I r s', B := M })
    (G : Goes X.K X.mg W { po with N := fun e => M e ∨ ∃ s, Sub e (u s) ∧ I [] s } O fp H D) : tFor (tI X tg iter) (tG X tg) (tSs X body) D σ H := by
  refine hi _ fun J H1 e1 yl => ?_
  refine ⟨fun i m σ' H' => ∃ s fp', m = xs.length - i ∧ i ≤ xs.length ∧ I (xs.drop i) s ∧ Keep fp H1 fp' H' ∧ SOk X.K O fp' (u s) σ' H', ⟨xs.length, s0, fp, by simp, Nat.zero_le _, hI, Keep.refl, (S'.ex e1).sub h0⟩, ?_⟩
  rintro i m σ1 H2 ⟨s, fp1, rfl, hle, Is, k1, S1⟩
  obtain ⟨v', _, hv, ow⟩ := S1.sl k _ (hu s)
  have hv : v' = v := hv
  subst hv
  obtain ⟨y1, y2⟩ := yl H2 (UU O fp1) _ S1.bndU ow i
  cases hr : xs.drop i with
  | nil =>
    have : xs.length ≤ i := by
      have := congrArg List.length hr
      simp at this
      omega
    rw [hr] at Is
    exact .inl ⟨y2 this, G.nx (u s) fp1 σ1 H2 (.inr ⟨s, Sub.refl _, Is⟩) ((Keep.ex e1).trans k1) S1⟩
  | cons x r =>
    obtain ⟨gx, gr, gl⟩ := drop_cons hr
    obtain ⟨go, yy⟩ := y1 x gx
    rw [hr] at Is
    obtain ⟨en, hg, hbd⟩ := hb x r s Is
    refine .inr ⟨go, fun σ' H' => ∃ s' fp', I r s' ∧ Keep fp H1 fp' H' ∧ SOk X.K O fp' (u s') σ' H', fun σ' H' ⟨s', fp', a, b, c⟩ => ⟨xs.length - (i + 1), by omega, s', fp', rfl, gl, by rw [gr]; exact a, b, c⟩, fun w H3 yv => ?_⟩
    obtain ⟨e3, rv⟩ := yy w H3 yv
    refine hg O fp1 σ1 H3 w (S1.ex e3) rv _ fun σ4 S4 => ?_
    have kk : Keep fp H1 fp1 H3 := k1.trans (Keep.ex e3)
    have kh : Keep fp H fp1 H3 := (Keep.ex e1).trans kk
    exact hbd O fp1 σ4 H3 S4 _ ⟨fun e f s2 h ⟨s', sb, a⟩ q S' => ⟨s', f, a, kk.trans q, S'.sub sb⟩, fun r e f s2 v h p q => G.rt r e f s2 v h p (kh.trans q), fun x e f s2 c d h p q => G.ex x e f s2 c d h p (kh.trans q), fun e f s2 h p q S' => G.nx e f s2 h (.inl p) (kh.trans q) S', fun e f s2 h ⟨s', sb, a⟩ q S' => ⟨s', f, a, kk.trans q, S'.sub sb⟩⟩
theorem sx_forP {S : Type} (u : S → Env') (I : List γ → S → Prop) (M : Env' → Prop) (s0 : S) (hu : ∀ s, (u s)[k]? = some (.own (At.mk v (OL.mk ys)))) (hc : X.calm = true) (hp : PassesOwn (model X.prog X.w) X.A X.env X.xe) (hi : IXP X tg iter env k v ys xs) (h0 : Sub env (u s0)) (hI : I xs s0)
    (hb : ∀ x r s, I (x :: r) s → ∃ e1, GX X tg x (u s) e1 ∧ SX X W body e1 { po with N := fun e => ∃ s', Sub e (u s') ∧ I r s', C := fun e => ∃ s', Sub e (u s') ∧ I r s', B := M })
    (hd : ∀ s, I [] s → SX X W rest (u s) po) (hM : ∀ e, M e → SX X W rest e po) (hs : ∀ x, foldedSetIterable iter X.env x = pure x := by intro _; rfl) : SX X W (.For tg iter body [] pos :: rest) env po :=
  sx_cons (fun e => M e ∨ ∃ s, Sub e (u s) ∧ I [] s) (s1_of (ps_for hp hc (mI X tg iter) (mG X tg) (mSs X body) hs) fun O fp σ H S' D G => for_coreP u I M s0 hu S' (hi O fp σ H S') h0 hI hb G) fun e h => by
  rcases h with h | ⟨s, h, q⟩
  · exact hM e h
  · exact sx_sub h (hd s q)
theorem sx_forPF' {S : Type} (uu : S → Env' → Env') (step : S → γ → S) (okb : S → γ → Prop) (s0 : S) (hu : ∀ s, (uu s env)[k]? = some (.own (At.mk v (OL.mk ys)))) (hc : X.calm = true) (hp : PassesOwn (model X.prog X.w) X.A X.env X.xe) (hi : IXP X tg iter env k v ys xs) (h0 : Sub env (uu s0 env)) (hk : okFold okb step s0 xs)
    (hb : ∀ x s, okb s x → ∃ e1, GX X tg x (uu s env) e1 ∧ SX X W body e1 { po with N := fun e => Sub e (uu (step s x) env), C := fun e => Sub e (uu (step s x) env), B := fun _ => False })
    (hd : SX X W rest (uu (xs.foldl step s0) env) po) (hs : ∀ x, foldedSetIterable iter X.env x = pure x := by intro _; rfl) : SX X W (.For tg iter body [] pos :: rest) env po :=
  sx_forP (fun s => uu s env) (fun r s => okFold okb step s r ∧ r.foldl step s = xs.foldl step s0) (fun _ => False) s0 hu hc hp hi h0 ⟨hk, rfl⟩ (fun x r s ⟨⟨h1, h2⟩, h3⟩ => by
    obtain ⟨e1, g, b⟩ := hb x s h1
    exact ⟨e1, g, b.imp (fun e h => ⟨step s x, h, h2, h3⟩) (fun _ _ h => h) (fun _ _ h => h) (fun _ h => h) (fun e h => ⟨step s x, h, h2, h3⟩)⟩) (fun s ⟨_, h⟩ => by
    have h : s = xs.foldl step s0 := h
    subst h
    exact hd) (fun _ h => h.elim) hs
theorem sx_forPR' {S T : Type} (uu : S → Env' → Env') (step : S → γ → Stp S T) (okb : S → γ → Prop) (s0 : S) (hu : ∀ s, (uu s env)[k]? = some (.own (At.mk v (OL.mk ys)))) (hc : X.calm = true) (hp : PassesOwn (model X.prog X.w) X.A X.env X.xe) (hi : IXP X tg iter env k v ys xs) (h0 : Sub env (uu s0 env)) (hk : okRun okb step s0 xs)
    (hb : ∀ x r s, okb s x → (runL step s (x :: r) = runL step s0 xs) → ∃ e1, GX X tg x (uu s env) e1 ∧ SX X W body e1 { po with N := fun e => ∃ s', step s x = .go s' ∧ Sub e (uu s' env), C := fun e => ∃ s', step s x = .go s' ∧ Sub e (uu s' env), B := fun e => ∃ s', step s x = .brk s' ∧ Sub e (uu s' env) })
    (hd : ∀ s, (runL step s0 xs = .go s ∨ runL step s0 xs = .brk s) → SX X W rest (uu s env) po) (hs : ∀ x, foldedSetIterable iter X.env x = pure x := by intro _; rfl) : SX X W (.For tg iter body [] pos :: rest) env po :=
  sx_forP (fun s => uu s env) (fun r s => okRun okb step s r ∧ runL step s r = runL step s0 xs) (fun e => ∃ s, Sub e (uu s env) ∧ runL step s0 xs = .brk s) s0 hu hc hp hi h0 ⟨hk, rfl⟩ (fun x r s ⟨⟨h1, h2⟩, h3⟩ => by
    obtain ⟨e1, g, b⟩ := hb x r s h1 h3
    have go : ∀ e, (∃ s', step s x = .go s' ∧ Sub e (uu s' env)) → ∃ s', Sub e (uu s' env) ∧ okRun okb step s' r ∧ runL step s' r = runL step s0 xs := fun e ⟨s', q, sb⟩ => by
      rw [q] at h2
      have h4 : runL step s (x :: r) = runL step s' r := by
        show (match step s x with | .go s' => runL step s' r | .brk s' => .brk s' | .ret r => .ret r) = _
        rw [q]
      exact ⟨s', sb, h2, h4.symm.trans h3⟩
    refine ⟨e1, g, b.imp go (fun _ _ h => h) (fun _ _ h => h) (fun e ⟨s', q, sb⟩ => ⟨s', sb, ?_⟩) go⟩
    rw [← h3]
    show (match step s x with | .go s' => runL step s' r | .brk s' => .brk s' | .ret r => .ret r) = _
    rw [q]) (fun s ⟨_, h⟩ => hd s (.inl h.symm)) (fun e ⟨s, sb, q⟩ => sx_sub sb (hd s (.inr q))) hs
end
end R
set_option maxHeartbeats 1000000
set_option autoImplicit false
/-! isinstance(e, (A, B)) of the exception that a suite holds; int of a bool -/
namespace R
open PySem PySem.Spec PyProof.Rows L2
def rIsE2 (K : PySem.W.Frag) (D a : Addr) : List V → Hp → VK → Prop := fun xs H Q => ∃ (tp c1 c2 : Addr) (b : Bool), xs = [V.ref a, V.ref tp] ∧ H tp = some (.tup [.ref c1, .ref c2]) ∧ PySem.W.kitAny K (.ref D) [.ref c1, .ref c2] = some b ∧ Q (.bl b) H
theorem call_isE2 {X : Cx} {a D : Addr} {oe : Obj} {pn : List (Addr × Obj)} (C : ExcC X.K D) (hz : Zc (.ref D) none oe) (hf : ∃ vs, oe.data = .fields vs) : CallR (X.suite a ((a, oe) :: pn)) (.builtin "isinstance") (rIsE2 X.K D a) := by
  intro pins s σ H xs us Q I r h
  obtain ⟨tp, c1, c2, b, rfl, hT, e, q⟩ := h
  obtain ⟨u1, u2, rfl, r1, r2⟩ := vals2 r
  cases (show u1 = Value.ref a from r1)
  cases (show u2 = Value.ref tp from r2)
  obtain ⟨hget, _⟩ := I.pin (a, oe) (List.mem_append.mpr (.inl List.mem_cons_self))
  obtain ⟨ws, hv⟩ := hf
  have J : PySem.W.InstAt s.heap a oe D none := by
    obtain ⟨oc, od, oda, osl⟩ := oe
    obtain ⟨h1, h2⟩ := hz
    dsimp only at h1 h2 hv
    subst h1 h2 hv
    exact ⟨hget, rfl, rfl, trivial⟩
  obtain ⟨_, its, rv, o, h1, h2, n, h3⟩ := (show ObjOk X.prog X.w H s.heap tp (.tup [.ref c1, .ref c2]) from I.hok tp _ hT)
  cases rv with
  | cons ra rr =>
    cases rr with
    | cons rb rr =>
      cases rr
      cases (show _ = Value.ref c1 from ra)
      cases (show _ = Value.ref c2 from rb)
      obtain ⟨oc, od, dt, sl⟩ := o
      simp only at h2 h3
      subst h2 h3
      exact PySem.W.kia_tup (PySem.W.handS_kitx_exc C.hg C.hk C.hs C.hd C.ha C.hn C.ht C.hm) I.kIn J h1 e (fun z => nomatch z) fun tk => ⟨.bl b, H, I.kept (t' := tk) fun _ _ z => z, rfl, q⟩
section
variable {X : Cx} {W : WX} {env env' : Env'} {ρ α β γ : Type} [Res ρ] [Dat α] [Dat β] [Dat γ] {po : Po ρ} {x : α} {y : β} {z : γ} {e a b c : Expr} {es elts : List Expr} {pos p p2 pc pc2 pt p3 : Pos} {rest body : List Stmt}
theorem ex_isE2 {i j : Nat} {v c c2 : Str} {all s1 s2 : List Str} {e : Exn} {ad : Addr} {oe : Obj} {cls : Value} {d : Option Addr} {pn : List (Addr × Obj)} {Hf : Hp} (I : IsC X.K X.mg all s1 c) (I2 : IsC X.K X.mg all s2 c2) (hi : X.mg "isinstance" = none) (hall : exnIn all e = true) (h1 : ∃ n, e = .one n) (hz : Zc cls d oe) (hfd : ∃ vs, oe.data = .fields vs) (xa : ExAt X.mg X.K Hf e cls d) (hv : env[i]? = some (.dat (ExV.mk ad)))
    (hN : (X.suite ad ((ad, oe) :: pn)).N[i]? = some v := by rfl) (hvis : Vis (X.suite ad ((ad, oe) :: pn)).env.scope v := by first | exact Or.inl rfl | exact Or.inr (Or.inl rfl) | exact Or.inr (Or.inr rfl)) (hd : (v == ("__debug__" : Str)) = false := by decide) (hc : (v == ("__classdict__" : Str)) = false := by decide)
    (hg : Gl (X.suite ad ((ad, oe) :: pn)) "isinstance" := by rfl) (hgc : Gl (X.suite ad ((ad, oe) :: pn)) c := by rfl) (hgc2 : Gl (X.suite ad ((ad, oe) :: pn)) c2 := by rfl) (hdc : (c == ("__debug__" : Str)) = false := by decide) (hdc2 : (c2 == ("__debug__" : Str)) = false := by decide)
    (he : starEach [.Name v p, .Tuple [.Name c pc, .Name c2 pc2] j pt] (X.suite ad ((ad, oe) :: pn)).env = (false, eval (.Name v p) (X.suite ad ((ad, oe) :: pn)).env) :: starEach [.Tuple [.Name c pc, .Name c2 pc2] j pt] (X.suite ad ((ad, oe) :: pn)).env := by rfl) (he2 : starEach [.Tuple [.Name c pc, .Name c2 pc2] j pt] (X.suite ad ((ad, oe) :: pn)).env = (false, eval (.Tuple [.Name c pc, .Name c2 pc2] j pt) (X.suite ad ((ad, oe) :: pn)).env) :: starEach [] (X.suite ad ((ad, oe) :: pn)).env := by rfl)
    (he3 : starEach [.Name c pc, .Name c2 pc2] (X.suite ad ((ad, oe) :: pn)).env = (false, eval (.Name c pc) (X.suite ad ((ad, oe) :: pn)).env) :: starEach [.Name c2 pc2] (X.suite ad ((ad, oe) :: pn)).env := by rfl) (he4 : starEach [.Name c2 pc2] (X.suite ad ((ad, oe) :: pn)).env = (false, eval (.Name c2 pc2) (X.suite ad ((ad, oe) :: pn)).env) :: starEach [] (X.suite ad ((ad, oe) :: pn)).env := by rfl)
    (hpl : (backTo pos (starEach [.Tuple [.Name c pc, .Name c2 pc2] j pt] (X.suite ad ((ad, oe) :: pn)).env)).any (·.1) = false := by rfl) :
    EX (X.suite ad ((ad, oe) :: pn)) (.Call (.Name "isinstance" p2) [.Name v p, .Tuple [.Name c pc, .Name c2 pc2] j pt] [] pos) env (exnIn s1 e || exnIn s2 e) := by
  obtain ⟨n, rfl⟩ := h1
  obtain ⟨Cv, hm, tb⟩ := I.ex
  obtain ⟨Cv2, hm2, tb2⟩ := I2.ex
  have hn : n ∈ all := List.contains_iff_mem.mp hall
  obtain ⟨D, q1, q2, q3⟩ := tb n hn
  obtain ⟨D2, q4, q5, q6⟩ := tb2 n hn
  rw [q1] at q4
  cases q4
  obtain ⟨x1, x2⟩ := xa
  rw [q1] at x1
  cases x1
  subst x2
  have kt : PySem.W.kitAny X.K (.ref D) [.ref Cv, .ref Cv2] = some (s1.contains n || s2.contains n) := kitAny_cons q3 (fun hb => by
    rw [hb]
    exact kitAny_cons q6 (fun hb2 => by rw [hb2]; exact kitAny_nil) (fun hb2 => by rw [hb2]; rfl)) (fun hb => by rw [hb]; rfl)
  exact ex_of (pe_callB (call_isE2 q2 hz hfd) hg hi (by decide +kernel) (pa_cons (pe_var hN hvis hd hc) (pa_cons (pe_tup (pa_cons (pe_glob (v := .ref Cv) hgc hm rfl hdc) (pa_cons (pe_glob (v := .ref Cv2) hgc2 hm2 rfl hdc2) pa_nil he4) he3)) pa_nil he2) he) (by decide) (by decide) he hpl) fun O fp σ H S Q q => by
    obtain ⟨v1, w1, w2⟩ := S.sl i _ hv
    have w2 : v1 = .ref ad := w2
    subst w2
    exact ⟨.ref ad, w1, show 2 ≤ sizeLine from by decide, fun u hu => ⟨u, Cv, Cv2, s1.contains n || s2.contains n, rfl, upd_same, kt, q _ _ (Ex.new hu) rfl⟩⟩
/-- int of a bool -/
def intB (k : Bool) : Int := cond k 1 0
theorem ex_intB {k : Bool} (hm : X.mg "int" = none) (h : EX X a env k) (he : starEach [a] X.env = (false, eval a X.env) :: starEach [] X.env := by rfl) (hpl : (backTo pos (starEach [] X.env)).any (·.1) = false := by rfl) (hg : Gl X "int" := by rfl) : EX X (.Call (.Name "int" p) [a] [] pos) env (intB k) :=
  ex_of (pe_callTy call_int1 hg hm (by decide +kernel : bootBuiltins "int" = some (.type "int")) (pa_cons (mE X a) pa_nil he) (by decide) (by decide) he hpl) fun O fp σ H S Q q => h O fp σ H S _ fun v H1 e1 r1 => .inr ⟨k, by rw [show v = .bl k from r1], q _ H1 e1 (by cases k <;> rfl)⟩
end
end R
set_option maxHeartbeats 1000000
set_option autoImplicit false
/-! except C as e, without a way out -/
namespace R
open PySem PySem.Spec PyProof.Rows L2
section
variable {X : Cx} {W : WX} {env env' : Env'} {ρ : Type} [Res ρ] {po : Po ρ} {pos : Pos} {rest body : List Stmt}
theorem tryV_map {S T : Type} {m : Except Exn S} {h : Exn → S} : tryV (m.map (Stp.go (ρ := T))) (fun e => Stp.go (h e)) = Stp.go (tryV m h) := by cases m <;> rfl
theorem map_err {S S' : Type} {m : Except Exn S} {f : S → S'} {e : Exn} : m.map f = .error e ↔ m = .error e := by
  cases m with
  | error e' => exact ⟨(fun h => by cases h; rfl), (fun h => by cases h; rfl)⟩
  | ok s => exact ⟨(fun h => by cases h), (fun h => by cases h)⟩
theorem sx_tryA' {S : Type} {i : Nat} {x v : Str} {np ps' : Pos} {b0 : Stmt} {suite : List Stmt} {all some' : List Str} (uu : S → Env' → Env') (m : Except Exn S) (h : Exn → S) (hN : X.N.Nodup) (hs : X.stack = X.env :: X.outer) (hf : X.env.frame = some X.env.locals) (cc : CatC X.K X.mg all some' x) (tk : Takes X W)
    (hv : ∀ e, m = .error e → exnIn all e = true ∧ exnIn some' e = true)
    (hb : ∀ (W' : WX) (pn : List (Addr × Obj)) (xe : Value → Shared → Prop), Takes (X.tr pn xe) W' → PassesOwn (model X.prog X.w) X.A X.env xe → SX (X.tr pn xe) W' body env { po with N := fun e => ∃ s, m = .ok s ∧ Sub e (uu s env), X := fun e env' => m = .error e ∧ env' = env })
    (hsu : ∀ e, m = .error e → ∀ (ad : Addr) (oe : Obj) (cls : Value) (d : Option Addr) (pn : List (Addr × Obj)) (Hf : Hp), Zc cls d oe → (∃ vs, oe.data = .fields vs) → ExAt X.mg X.K Hf e cls d → SX (X.suite ad ((ad, oe) :: pn)) W (b0 :: suite) (env.set i (.dat (ExV.mk ad))) { po with N := fun e' => Sub (e'.set i .any) (uu (h e) env), R := fun r e' => po.R r (e'.set i .any), B := fun e' => po.B (e'.set i .any), C := fun e' => po.C (e'.set i .any), X := fun _ _ => False })
    (hR : ∀ r e e', po.R r e → po.R r e') (hr : SX X W rest (uu (tryV m h) env) po) (hi : X.N[i]? = some v := by rfl) (hl : X.env.kindOf v = some .local := by rfl) (hg : Gl X x := by rfl) (hdb : (x == ("__debug__" : Str)) = false := by decide) : SX X W (.Try body [.ExceptHandler (some (.Name x np)) (some v) (b0 :: suite) ps'] [] [] pos :: rest) env po := by
  refine sx_tryA (T := Unit) (i := i) (all := all) (some' := some') uu (m.map Stp.go) (fun e => Stp.go (h e)) hN hs hf cc tk (fun e he => hv e (map_err.mp he)) (fun W' pn xe t q => (hb W' pn xe t q).imp (fun e ⟨s, h1, h2⟩ => ⟨s, by rw [h1]; rfl, h2⟩) (fun _ _ h => h) (fun e env' ⟨h1, h2⟩ => ⟨map_err.mpr h1, h2⟩) (fun _ h => h) (fun _ h => h))
    (fun e he ad oe cls d pn Hf hz hfd xa => ?_) hR (fun s hgo => ?_) hi hl hg hdb
  · have he := map_err.mp he
    refine (hsu e he ad oe cls d pn Hf hz hfd xa).imp (fun e' h' => ⟨h e, ?_, h'⟩) (fun _ _ h => h) (fun _ _ h => h) (fun _ h => h) (fun _ h => h)
    rw [tryV_map, tryV_err he]
  · rw [tryV_map] at hgo
    cases hgo
    exact hr
end
end R
set_option pp.maxSteps 400
set_option maxHeartbeats 40000000
set_option autoImplicit false
namespace G
open PySem PySem.Spec PyProof.Rows L2 R
def m_divisor_of (one_ : Int) (other_ : Int) : Int :=
  gcdI one_ other_
def ok_divisor_of (one_ : Int) (other_ : Int) : Prop :=
  True
theorem okt_divisor_of (one_ : Int) (other_ : Int) : ok_divisor_of one_ other_ := by
  unfold ok_divisor_of
  simp
def m_part (top_ : Int) (bottom_ : Int) : Except Exn (Rat) :=
  if bottom_ = 0 then .error (.one "NoPart") else .ok (Rat.divInt top_ bottom_)
def ok_part (top_ : Int) (bottom_ : Int) : Prop :=
  bottom_.natAbs < 2 ^ 9000
def ok_partP (t b : Int) : Prop := b ≠ 0 ∧ b.natAbs < 2 ^ 9000
def m_plus (one_ : Rat) (other_ : Rat) : Rat :=
  (one_ + other_)
def ok_plus (one_ : Rat) (other_ : Rat) : Prop :=
  CMulW one_.num ((other_.den : Nat) : Int) ∧ CMulW other_.num ((one_.den : Nat) : Int) ∧ CMulW ((one_.den : Nat) : Int) ((other_.den : Nat) : Int) ∧ ok_partP ((one_.num * ((other_.den : Nat) : Int)) + (other_.num * ((one_.den : Nat) : Int))) (((one_.den : Nat) : Int) * ((other_.den : Nat) : Int)) ∧ True
def m_minus (one_ : Rat) (other_ : Rat) : Rat :=
  (one_ - other_)
def ok_minus (one_ : Rat) (other_ : Rat) : Prop :=
  CMulW one_.num ((other_.den : Nat) : Int) ∧ CMulW other_.num ((one_.den : Nat) : Int) ∧ CMulW ((one_.den : Nat) : Int) ((other_.den : Nat) : Int) ∧ ok_partP ((one_.num * ((other_.den : Nat) : Int)) - (other_.num * ((one_.den : Nat) : Int))) (((one_.den : Nat) : Int) * ((other_.den : Nat) : Int)) ∧ True
def m_times (one_ : Rat) (other_ : Rat) : Rat :=
  (one_ * other_)
def ok_times (one_ : Rat) (other_ : Rat) : Prop :=
  CMulW one_.num other_.num ∧ CMulW ((one_.den : Nat) : Int) ((other_.den : Nat) : Int) ∧ ok_partP (one_.num * other_.num) (((one_.den : Nat) : Int) * ((other_.den : Nat) : Int)) ∧ True
def m_under (one_ : Rat) (other_ : Rat) : Bool :=
  (decide (one_ < other_))
def ok_under (one_ : Rat) (other_ : Rat) : Prop :=
  CMulW one_.num ((other_.den : Nat) : Int) ∧ CMulW other_.num ((one_.den : Nat) : Int) ∧ True
def st_room_of_6 (one_ : (T5 (Dc (Rat)) (Str) (Rat) (Int) (Int))) (s7 : Rat) (x8 : ((Key × Rat) × Rat)) : Rat :=
  (let often_9 : Rat := s7; let other_10 : (Key × Rat) := x8.1; let share_11 : Rat := x8.2; (let j17 : Rat := cond (decide (other_10.1 = (Sum.inl one_.d : Key))) (let often_14 : Rat := (m_plus often_9 share_11); often_14) often_9; let often_18 : Rat := j17; often_18))
def okb_room_of_6 (one_ : (T5 (Dc (Rat)) (Str) (Rat) (Int) (Int))) (s7 : Rat) (x8 : ((Key × Rat) × Rat)) : Prop :=
  (let often_9 : Rat := s7; let other_10 : (Key × Rat) := x8.1; let share_11 : Rat := x8.2; ((decide (other_10.1 = (Sum.inl one_.d : Key))) = true → ok_plus often_9 share_11 ∧ (let often_14 : Rat := (m_plus often_9 share_11); True)) ∧ ((decide (other_10.1 = (Sum.inl one_.d : Key))) = false → True) ∧ (let j17 : Rat := cond (decide (other_10.1 = (Sum.inl one_.d : Key))) (let often_14 : Rat := (m_plus often_9 share_11); often_14) often_9; let often_18 : Rat := j17; True))
def m_room_of (one_ : (T5 (Dc (Rat)) (Str) (Rat) (Int) (Int))) (settled_ : List ((Key × Rat))) (goal_ : Key) (shares_ : List Rat) : Rat :=
  (let often_1 : Rat := (0 : Rat); (let j4 : Rat := cond (decide (goal_ = (Sum.inl one_.d : Key))) (let often_2 : Rat := (1 : Rat); often_2) often_1; let often_5 : Rat := j4; (let j19 : Rat := List.foldl (st_room_of_6 one_) often_5 (List.zip settled_ shares_); let often_20 : Rat := j19; (m_times (Rat.divInt (one_.e) ((1 : Int))) often_20))))
def ok_room_of (one_ : (T5 (Dc (Rat)) (Str) (Rat) (Int) (Int))) (settled_ : List ((Key × Rat))) (goal_ : Key) (shares_ : List Rat) : Prop :=
  (let often_1 : Rat := (0 : Rat); ((decide (goal_ = (Sum.inl one_.d : Key))) = true → (let often_2 : Rat := (1 : Rat); True)) ∧ ((decide (goal_ = (Sum.inl one_.d : Key))) = false → True) ∧ (let j4 : Rat := cond (decide (goal_ = (Sum.inl one_.d : Key))) (let often_2 : Rat := (1 : Rat); often_2) often_1; let often_5 : Rat := j4; okFold (okb_room_of_6 one_) (st_room_of_6 one_) often_5 (List.zip settled_ shares_) ∧ (let j19 : Rat := List.foldl (st_room_of_6 one_) often_5 (List.zip settled_ shares_); let often_20 : Rat := j19; IsQ (one_.e) ((1 : Int)) ∧ ok_times (Rat.divInt (one_.e) ((1 : Int))) often_20 ∧ True)))
def m_fits_kind (kind_ : Str) (price_ : Rat) : Bool :=
  ((decide (kind_ = (Str.ofString "just"))) || (((decide (kind_ = (Str.ofString "least"))) && (decide ((0 : Int) ≤ price_.num))) || ((decide (kind_ = (Str.ofString "most"))) && (decide (price_.num ≤ (0 : Int))))))
def ok_fits_kind (kind_ : Str) (price_ : Rat) : Prop :=
  True
theorem okt_fits_kind (kind_ : Str) (price_ : Rat) : ok_fits_kind kind_ price_ := by
  unfold ok_fits_kind
  simp
def m_in_room (price_ : Rat) (room_ : Rat) : Bool :=
  (!(m_under room_ (Rat.divInt ((absI price_.num)) (((price_.den : Nat) : Int)))))
def ok_in_room (price_ : Rat) (room_ : Rat) : Prop :=
  IsQ ((absI price_.num)) (((price_.den : Nat) : Int)) ∧ ok_under room_ (Rat.divInt ((absI price_.num)) (((price_.den : Nat) : Int))) ∧ True
def st_asked_of_2 (unknown_ : Str) (s3 : Rat) (x4 : ((T5 (Dc (Rat)) (Str) (Rat) (Int) (Int)) × Rat)) : Rat :=
  (let found_5 : Rat := s3; let one_6 : (T5 (Dc (Rat)) (Str) (Rat) (Int) (Int)) := x4.1; let price_7 : Rat := x4.2; (let j15 : Rat := cond (one_6.a.has unknown_) (let found_10 : Rat := (m_plus found_5 (m_times price_7 ((one_6.a.look unknown_).getD (0 : Rat)))); found_10) found_5; let found_16 : Rat := j15; found_16))
def okb_asked_of_2 (unknown_ : Str) (s3 : Rat) (x4 : ((T5 (Dc (Rat)) (Str) (Rat) (Int) (Int)) × Rat)) : Prop :=
  (let found_5 : Rat := s3; let one_6 : (T5 (Dc (Rat)) (Str) (Rat) (Int) (Int)) := x4.1; let price_7 : Rat := x4.2; ((one_6.a.has unknown_) = true → (one_6.a.look unknown_).isSome = true ∧ ok_times price_7 ((one_6.a.look unknown_).getD (0 : Rat)) ∧ ok_plus found_5 (m_times price_7 ((one_6.a.look unknown_).getD (0 : Rat))) ∧ (let found_10 : Rat := (m_plus found_5 (m_times price_7 ((one_6.a.look unknown_).getD (0 : Rat)))); True)) ∧ ((one_6.a.has unknown_) = false → True) ∧ (let j15 : Rat := cond (one_6.a.has unknown_) (let found_10 : Rat := (m_plus found_5 (m_times price_7 ((one_6.a.look unknown_).getD (0 : Rat)))); found_10) found_5; let found_16 : Rat := j15; True))
def m_asked_of (rows_ : List ((T5 (Dc (Rat)) (Str) (Rat) (Int) (Int)))) (prices_ : List Rat) (unknown_ : Str) : Rat :=
  (let found_1 : Rat := (0 : Rat); (let j17 : Rat := List.foldl (st_asked_of_2 unknown_) found_1 (List.zip rows_ prices_); let found_18 : Rat := j17; found_18))
def ok_asked_of (rows_ : List ((T5 (Dc (Rat)) (Str) (Rat) (Int) (Int)))) (prices_ : List Rat) (unknown_ : Str) : Prop :=
  (let found_1 : Rat := (0 : Rat); okFold (okb_asked_of_2 unknown_) (st_asked_of_2 unknown_) found_1 (List.zip rows_ prices_) ∧ (let j17 : Rat := List.foldl (st_asked_of_2 unknown_) found_1 (List.zip rows_ prices_); let found_18 : Rat := j17; True))
def st_asked_in_all_2  (s3 : Rat) (x4 : ((T5 (Dc (Rat)) (Str) (Rat) (Int) (Int)) × Rat)) : Rat :=
  (let found_5 : Rat := s3; let one_6 : (T5 (Dc (Rat)) (Str) (Rat) (Int) (Int)) := x4.1; let price_7 : Rat := x4.2; (let found_10 : Rat := (m_plus found_5 (m_times price_7 one_6.c)); found_10))
def okb_asked_in_all_2  (s3 : Rat) (x4 : ((T5 (Dc (Rat)) (Str) (Rat) (Int) (Int)) × Rat)) : Prop :=
  (let found_5 : Rat := s3; let one_6 : (T5 (Dc (Rat)) (Str) (Rat) (Int) (Int)) := x4.1; let price_7 : Rat := x4.2; ok_times price_7 one_6.c ∧ ok_plus found_5 (m_times price_7 one_6.c) ∧ (let found_10 : Rat := (m_plus found_5 (m_times price_7 one_6.c)); True))
def m_asked_in_all (rows_ : List ((T5 (Dc (Rat)) (Str) (Rat) (Int) (Int)))) (prices_ : List Rat) : Rat :=
  (let found_1 : Rat := (0 : Rat); (let j13 : Rat := List.foldl st_asked_in_all_2 found_1 (List.zip rows_ prices_); let found_14 : Rat := j13; found_14))
def ok_asked_in_all (rows_ : List ((T5 (Dc (Rat)) (Str) (Rat) (Int) (Int)))) (prices_ : List Rat) : Prop :=
  (let found_1 : Rat := (0 : Rat); okFold okb_asked_in_all_2 st_asked_in_all_2 found_1 (List.zip rows_ prices_) ∧ (let j13 : Rat := List.foldl st_asked_in_all_2 found_1 (List.zip rows_ prices_); let found_14 : Rat := j13; True))
def st_side_of_6 (unknown_ : Str) (s7 : Rat) (x8 : ((Key × Rat) × Rat)) : Rat :=
  (let found_9 : Rat := s7; let other_10 : (Key × Rat) := x8.1; let share_11 : Rat := x8.2; (let j17 : Rat := cond (decide (other_10.1 = (Sum.inr unknown_ : Key))) (let found_14 : Rat := (m_plus found_9 share_11); found_14) found_9; let found_18 : Rat := j17; found_18))
def okb_side_of_6 (unknown_ : Str) (s7 : Rat) (x8 : ((Key × Rat) × Rat)) : Prop :=
  (let found_9 : Rat := s7; let other_10 : (Key × Rat) := x8.1; let share_11 : Rat := x8.2; ((decide (other_10.1 = (Sum.inr unknown_ : Key))) = true → ok_plus found_9 share_11 ∧ (let found_14 : Rat := (m_plus found_9 share_11); True)) ∧ ((decide (other_10.1 = (Sum.inr unknown_ : Key))) = false → True) ∧ (let j17 : Rat := cond (decide (other_10.1 = (Sum.inr unknown_ : Key))) (let found_14 : Rat := (m_plus found_9 share_11); found_14) found_9; let found_18 : Rat := j17; True))
def m_side_of (unknown_ : Str) (settled_ : List ((Key × Rat))) (goal_ : Key) (shares_ : List Rat) : Rat :=
  (let found_1 : Rat := (0 : Rat); (let j4 : Rat := cond (decide (goal_ = (Sum.inr unknown_ : Key))) (let found_2 : Rat := (1 : Rat); found_2) found_1; let found_5 : Rat := j4; (let j19 : Rat := List.foldl (st_side_of_6 unknown_) found_5 (List.zip settled_ shares_); let found_20 : Rat := j19; found_20)))
def ok_side_of (unknown_ : Str) (settled_ : List ((Key × Rat))) (goal_ : Key) (shares_ : List Rat) : Prop :=
  (let found_1 : Rat := (0 : Rat); ((decide (goal_ = (Sum.inr unknown_ : Key))) = true → (let found_2 : Rat := (1 : Rat); True)) ∧ ((decide (goal_ = (Sum.inr unknown_ : Key))) = false → True) ∧ (let j4 : Rat := cond (decide (goal_ = (Sum.inr unknown_ : Key))) (let found_2 : Rat := (1 : Rat); found_2) found_1; let found_5 : Rat := j4; okFold (okb_side_of_6 unknown_) (st_side_of_6 unknown_) found_5 (List.zip settled_ shares_) ∧ (let j19 : Rat := List.foldl (st_side_of_6 unknown_) found_5 (List.zip settled_ shares_); let found_20 : Rat := j19; True)))
def st_bound_9 (settled_ : List ((Key × Rat))) (goal_ : Key) (shares_3 : List Rat) (s10 : Unit) (x11 : ((T5 (Dc (Rat)) (Str) (Rat) (Int) (Int)) × Rat)) : Stp (Unit) (Except Exn (Rat)) :=
  (let one_12 : (T5 (Dc (Rat)) (Str) (Rat) (Int) (Int)) := x11.1; let price_13 : Rat := x11.2; (cond (!(m_fits_kind one_12.b price_13)) (.ret (.error (.one "NoPaper"))) (cond ((decide ((0 : Int) < one_12.d)) && (!(m_in_room price_13 (m_room_of one_12 settled_ goal_ shares_3)))) (.ret (.error (.one "NoPaper"))) (.go ()))))
def okb_bound_9 (settled_ : List ((Key × Rat))) (goal_ : Key) (shares_3 : List Rat) (s10 : Unit) (x11 : ((T5 (Dc (Rat)) (Str) (Rat) (Int) (Int)) × Rat)) : Prop :=
  (let one_12 : (T5 (Dc (Rat)) (Str) (Rat) (Int) (Int)) := x11.1; let price_13 : Rat := x11.2; (((!(m_fits_kind one_12.b price_13)) = true → True) ∧ ((!(m_fits_kind one_12.b price_13)) = false → ((decide ((0 : Int) < one_12.d)) = true → ok_room_of one_12 settled_ goal_ shares_3) ∧ ((decide ((0 : Int) < one_12.d)) = true → ok_in_room price_13 (m_room_of one_12 settled_ goal_ shares_3)) ∧ ((((decide ((0 : Int) < one_12.d)) && (!(m_in_room price_13 (m_room_of one_12 settled_ goal_ shares_3)))) = true → True) ∧ (((decide ((0 : Int) < one_12.d)) && (!(m_in_room price_13 (m_room_of one_12 settled_ goal_ shares_3)))) = false → True)))))
def st_bound_23 (rows_ : List ((T5 (Dc (Rat)) (Str) (Rat) (Int) (Int)))) (settled_ : List ((Key × Rat))) (goal_ : Key) (prices_2 : List Rat) (shares_3 : List Rat) (s24 : Unit) (x25 : Str) : Stp (Unit) (Except Exn (Rat)) :=
  ((cond (m_under (m_side_of x25 settled_ goal_ shares_3) (m_asked_of rows_ prices_2 x25)) (.ret (.error (.one "NoPaper"))) (.go ())))
def okb_bound_23 (rows_ : List ((T5 (Dc (Rat)) (Str) (Rat) (Int) (Int)))) (settled_ : List ((Key × Rat))) (goal_ : Key) (prices_2 : List Rat) (shares_3 : List Rat) (s24 : Unit) (x25 : Str) : Prop :=
  (ok_side_of x25 settled_ goal_ shares_3 ∧ ok_asked_of rows_ prices_2 x25 ∧ ok_under (m_side_of x25 settled_ goal_ shares_3) (m_asked_of rows_ prices_2 x25) ∧ (((m_under (m_side_of x25 settled_ goal_ shares_3) (m_asked_of rows_ prices_2 x25)) = true → True) ∧ ((m_under (m_side_of x25 settled_ goal_ shares_3) (m_asked_of rows_ prices_2 x25)) = false → True)))
def st_bound_36  (s37 : Rat) (x38 : ((Key × Rat) × Rat)) : Rat :=
  (let found_39 : Rat := s37; let other_40 : (Key × Rat) := x38.1; let share_41 : Rat := x38.2; (let found_44 : Rat := (m_minus found_39 (m_times share_41 other_40.2)); found_44))
def okb_bound_36  (s37 : Rat) (x38 : ((Key × Rat) × Rat)) : Prop :=
  (let found_39 : Rat := s37; let other_40 : (Key × Rat) := x38.1; let share_41 : Rat := x38.2; ok_times share_41 other_40.2 ∧ ok_minus found_39 (m_times share_41 other_40.2) ∧ (let found_44 : Rat := (m_minus found_39 (m_times share_41 other_40.2)); True))
def m_bound (rows_ : List ((T5 (Dc (Rat)) (Str) (Rat) (Int) (Int)))) (unknowns_ : List Str) (settled_ : List ((Key × Rat))) (goal_ : Key) (paper_ : (List Rat × List Rat)) : Except Exn (Rat) :=
  (let p1 : (List Rat × List Rat) := paper_; let prices_2 : List Rat := p1.1; let shares_3 : List Rat := p1.2; (cond ((!decide ((prices_2.length : Int) = (rows_.length : Int))) || (!decide ((shares_3.length : Int) = (settled_.length : Int)))) (.error (.one "NoPaper")) (cond ((List.map (fun (x5 : Rat) => (decide (x5.num < (0 : Int)))) shares_3).any id) (.error (.one "NoPaper")) (Stp.fin (fun (s21 : Unit) => ((Stp.fin (fun (s32 : Unit) => ((let found_34 : Rat := (m_asked_in_all rows_ prices_2); (let j47 : Rat := List.foldl st_bound_36 found_34 (List.zip settled_ shares_3); let found_48 : Rat := j47; (.ok found_48))))) (fun r => r) (runL (st_bound_23 rows_ settled_ goal_ prices_2 shares_3) () unknowns_)))) (fun r => r) (runL (st_bound_9 settled_ goal_ shares_3) () (List.zip rows_ prices_2))))))
def ok_bound (rows_ : List ((T5 (Dc (Rat)) (Str) (Rat) (Int) (Int)))) (unknowns_ : List Str) (settled_ : List ((Key × Rat))) (goal_ : Key) (paper_ : (List Rat × List Rat)) : Prop :=
  (let p1 : (List Rat × List Rat) := paper_; let prices_2 : List Rat := p1.1; let shares_3 : List Rat := p1.2; ((((!decide ((prices_2.length : Int) = (rows_.length : Int))) || (!decide ((shares_3.length : Int) = (settled_.length : Int)))) = true → True) ∧ (((!decide ((prices_2.length : Int) = (rows_.length : Int))) || (!decide ((shares_3.length : Int) = (settled_.length : Int)))) = false → shares_3.length ≤ 100000 ∧ ((((List.map (fun (x5 : Rat) => (decide (x5.num < (0 : Int)))) shares_3).any id) = true → True) ∧ (((List.map (fun (x5 : Rat) => (decide (x5.num < (0 : Int)))) shares_3).any id) = false → okRun (okb_bound_9 settled_ goal_ shares_3) (st_bound_9 settled_ goal_ shares_3) () (List.zip rows_ prices_2) ∧ (∀ (s21 : Unit), ((runL (st_bound_9 settled_ goal_ shares_3) () (List.zip rows_ prices_2)) = .go s21 ∨ (runL (st_bound_9 settled_ goal_ shares_3) () (List.zip rows_ prices_2)) = .brk s21) → (okRun (okb_bound_23 rows_ settled_ goal_ prices_2 shares_3) (st_bound_23 rows_ settled_ goal_ prices_2 shares_3) () unknowns_ ∧ (∀ (s32 : Unit), ((runL (st_bound_23 rows_ settled_ goal_ prices_2 shares_3) () unknowns_) = .go s32 ∨ (runL (st_bound_23 rows_ settled_ goal_ prices_2 shares_3) () unknowns_) = .brk s32) → (ok_asked_in_all rows_ prices_2 ∧ (let found_34 : Rat := (m_asked_in_all rows_ prices_2); okFold okb_bound_36 st_bound_36 found_34 (List.zip settled_ shares_3) ∧ (let j47 : Rat := List.foldl st_bound_36 found_34 (List.zip settled_ shares_3); let found_48 : Rat := j47; True)))))))))))
def m_l_cell_at (script_ : List Int) (k_ : Int) : Int :=
  (cond (decide (k_ < (script_.length : Int))) (List.getD script_ (Int.toNat k_) (0 : Int)) (0 : Int))
def ok_l_cell_at (script_ : List Int) (k_ : Int) : Prop :=
  (((decide (k_ < (script_.length : Int))) = true → (0 ≤ k_ ∧ k_ < (script_.length : Int)) ∧ True) ∧ ((decide (k_ < (script_.length : Int))) = false → True))
def m_l_mix (cell_ : Int) (k_ : Int) : Int :=
  (let number_1 : Int := (((((cell_ + ((7919 : Int) * k_)) + (1 : Int)) % (2147483647 : Int)) * (48271 : Int)) % (2147483647 : Int)); (let number_2 : Int := ((number_1 * ((number_1 / (1009 : Int)) + (69621 : Int))) % (2147483647 : Int)); ((number_2 * ((number_2 / (127 : Int)) + (30011 : Int))) % (2147483647 : Int))))
def ok_l_mix (cell_ : Int) (k_ : Int) : Prop :=
  (let number_1 : Int := (((((cell_ + ((7919 : Int) * k_)) + (1 : Int)) % (2147483647 : Int)) * (48271 : Int)) % (2147483647 : Int)); CMulW number_1 ((number_1 / (1009 : Int)) + (69621 : Int)) ∧ (let number_2 : Int := ((number_1 * ((number_1 / (1009 : Int)) + (69621 : Int))) % (2147483647 : Int)); CMulW number_2 ((number_2 / (127 : Int)) + (30011 : Int)) ∧ True))
def m_l_divisor (one_ : Int) (other_ : Int) : Int :=
  gcdI one_ other_
def ok_l_divisor (one_ : Int) (other_ : Int) : Prop :=
  0 ≤ other_
def m_l_lowest (top_ : Int) (bottom_ : Int) : Rat :=
  (let both_1 : Int := (m_l_divisor top_ bottom_); (Rat.divInt ((top_ / both_1)) ((bottom_ / both_1))))
def ok_l_lowest (top_ : Int) (bottom_ : Int) : Prop :=
  ok_l_divisor top_ bottom_ ∧ (let both_1 : Int := (m_l_divisor top_ bottom_); CDivW top_ both_1 ∧ CDivW bottom_ both_1 ∧ IsQ ((top_ / both_1)) ((bottom_ / both_1)) ∧ True)
def m_l_row (cell_ : Int) : (T5 (Dc (Rat)) (Str) (Rat) (Int) (Int)) :=
  (let kind_1 : Str := (List.getD [(Str.ofString "least"), (Str.ofString "most"), (Str.ofString "just")] (Int.toNat ((m_l_mix cell_ (9 : Int)) % (3 : Int))) (Str.ofString "")); (let number_4 : Rat := (m_l_lowest (((m_l_mix cell_ (10 : Int)) % (19 : Int)) - (6 : Int)) ((1 : Int) + ((m_l_mix cell_ (13 : Int)) % (3 : Int)))); (⟨(⟨[]⟩ : Dc (Rat)), kind_1, number_4, ((m_l_mix cell_ (11 : Int)) % (5 : Int)), ((1 : Int) + ((m_l_mix cell_ (12 : Int)) % (List.getD [(9 : Int), (1000000 : Int)] (Int.toNat (cell_ % (2 : Int))) (0 : Int))))⟩ : (T5 (Dc (Rat)) (Str) (Rat) (Int) (Int)))))
def ok_l_row (cell_ : Int) : Prop :=
  ok_l_mix cell_ (9 : Int) ∧ (0 ≤ ((m_l_mix cell_ (9 : Int)) % (3 : Int)) ∧ ((m_l_mix cell_ (9 : Int)) % (3 : Int)) < ([(Str.ofString "least"), (Str.ofString "most"), (Str.ofString "just")].length : Int)) ∧ (let kind_1 : Str := (List.getD [(Str.ofString "least"), (Str.ofString "most"), (Str.ofString "just")] (Int.toNat ((m_l_mix cell_ (9 : Int)) % (3 : Int))) (Str.ofString "")); ok_l_mix cell_ (10 : Int) ∧ ok_l_mix cell_ (13 : Int) ∧ ok_l_lowest (((m_l_mix cell_ (10 : Int)) % (19 : Int)) - (6 : Int)) ((1 : Int) + ((m_l_mix cell_ (13 : Int)) % (3 : Int))) ∧ (let number_4 : Rat := (m_l_lowest (((m_l_mix cell_ (10 : Int)) % (19 : Int)) - (6 : Int)) ((1 : Int) + ((m_l_mix cell_ (13 : Int)) % (3 : Int)))); ok_l_mix cell_ (11 : Int) ∧ ok_l_mix cell_ (12 : Int) ∧ (0 ≤ (cell_ % (2 : Int)) ∧ (cell_ % (2 : Int)) < ([(9 : Int), (1000000 : Int)].length : Int)) ∧ 0 < (List.getD [(9 : Int), (1000000 : Int)] (Int.toNat (cell_ % (2 : Int))) (0 : Int)) ∧ True))
def m_l_room (one_ : (T5 (Dc (Rat)) (Str) (Rat) (Int) (Int))) (goal_ : Key) (settled_ : List ((Key × Rat))) : Int :=
  (let often_1 : Int := (((List.filter (fun (x2 : (Key × Rat)) => (decide (x2.1 = (Sum.inl one_.d : Key)))) settled_).map (fun (x2 : (Key × Rat)) => x2)).length : Int); (let j8 : Int := cond (decide (goal_ = (Sum.inl one_.d : Key))) (let often_6 : Int := (often_1 + (1 : Int)); often_6) often_1; let often_9 : Int := j8; (one_.e * often_9)))
def ok_l_room (one_ : (T5 (Dc (Rat)) (Str) (Rat) (Int) (Int))) (goal_ : Key) (settled_ : List ((Key × Rat))) : Prop :=
  settled_.length ≤ 100000 ∧ (let often_1 : Int := (((List.filter (fun (x2 : (Key × Rat)) => (decide (x2.1 = (Sum.inl one_.d : Key)))) settled_).map (fun (x2 : (Key × Rat)) => x2)).length : Int); ((decide (goal_ = (Sum.inl one_.d : Key))) = true → (let often_6 : Int := (often_1 + (1 : Int)); True)) ∧ ((decide (goal_ = (Sum.inl one_.d : Key))) = false → True) ∧ (let j8 : Int := cond (decide (goal_ = (Sum.inl one_.d : Key))) (let often_6 : Int := (often_1 + (1 : Int)); often_6) often_1; let often_9 : Int := j8; CMulW one_.e often_9 ∧ True))
def m_l_word (rows_ : List ((T5 (Dc (Rat)) (Str) (Rat) (Int) (Int)))) (some_ : List Str) (settled_ : List ((Key × Rat))) (goal_ : Key) (prices_ : List Rat) (shares_ : List Rat) : Str :=
  (let word_here_1 : Str := (Str.ofString ""); (let j8 : Str := tryV (((m_bound rows_ some_ settled_ goal_ (prices_, shares_)).bind (fun r3 => (.ok word_here_1))) : Except Exn (Str)) (fun (e5 : Exn) => (let word_here_7 : Str := (Str.ofString "none"); word_here_7)); let word_here_9 : Str := j8; (let j25 : Str := cond (decide (word_here_9 = (Str.ofString "none"))) (let j22 : Str := tryV (((m_bound rows_ some_ settled_ goal_ (prices_, shares_)).bind (fun r11 => (.ok word_here_9))) : Except Exn (Str)) (fun (e13 : Exn) => (let j20 : Str := cond ((exnIn [("Clash" : Str)] e13 || exnIn [("NoRank" : Str)] e13) || (!(exnIn [("NoPaper" : Str)] e13))) (let word_here_18 : Str := (Str.ofString "other"); word_here_18) word_here_9; let word_here_21 : Str := j20; word_here_21)); let word_here_23 : Str := j22; word_here_23) word_here_9; let word_here_26 : Str := j25; word_here_26)))
def ok_l_word (rows_ : List ((T5 (Dc (Rat)) (Str) (Rat) (Int) (Int)))) (some_ : List Str) (settled_ : List ((Key × Rat))) (goal_ : Key) (prices_ : List Rat) (shares_ : List Rat) : Prop :=
  (let word_here_1 : Str := (Str.ofString ""); (∀ e5, (((m_bound rows_ some_ settled_ goal_ (prices_, shares_)).bind (fun r3 => (.ok word_here_1))) : Except Exn (Str)) = .error e5 → exnIn [("FrameError" : Str), ("NoPart" : Str), ("NoRank" : Str), ("NoPaper" : Str), ("Clash" : Str)] e5 = true ∧ exnIn [("NoPaper" : Str)] e5 = true) ∧ (ok_bound rows_ some_ settled_ goal_ (prices_, shares_) ∧ (∀ r3, (m_bound rows_ some_ settled_ goal_ (prices_, shares_)) = .ok r3 → True)) ∧ (∀ e5, (((m_bound rows_ some_ settled_ goal_ (prices_, shares_)).bind (fun r3 => (.ok word_here_1))) : Except Exn (Str)) = .error e5 → (let word_here_7 : Str := (Str.ofString "none"); True)) ∧ (let j8 : Str := tryV (((m_bound rows_ some_ settled_ goal_ (prices_, shares_)).bind (fun r3 => (.ok word_here_1))) : Except Exn (Str)) (fun (e5 : Exn) => (let word_here_7 : Str := (Str.ofString "none"); word_here_7)); let word_here_9 : Str := j8; ((decide (word_here_9 = (Str.ofString "none"))) = true → (∀ e13, (((m_bound rows_ some_ settled_ goal_ (prices_, shares_)).bind (fun r11 => (.ok word_here_9))) : Except Exn (Str)) = .error e13 → exnIn [("FrameError" : Str), ("NoPart" : Str), ("NoRank" : Str), ("NoPaper" : Str), ("Clash" : Str)] e13 = true ∧ exnIn [("FrameError" : Str), ("NoPart" : Str), ("NoRank" : Str), ("NoPaper" : Str), ("Clash" : Str)] e13 = true) ∧ (ok_bound rows_ some_ settled_ goal_ (prices_, shares_) ∧ (∀ r11, (m_bound rows_ some_ settled_ goal_ (prices_, shares_)) = .ok r11 → True)) ∧ (∀ e13, (((m_bound rows_ some_ settled_ goal_ (prices_, shares_)).bind (fun r11 => (.ok word_here_9))) : Except Exn (Str)) = .error e13 → (∃ n, e13 = Exn.one n) ∧ ((exnIn [("Clash" : Str)] e13 || exnIn [("NoRank" : Str)] e13) = false → (∃ n, e13 = Exn.one n)) ∧ (((exnIn [("Clash" : Str)] e13 || exnIn [("NoRank" : Str)] e13) || (!(exnIn [("NoPaper" : Str)] e13))) = true → (let word_here_18 : Str := (Str.ofString "other"); True)) ∧ (((exnIn [("Clash" : Str)] e13 || exnIn [("NoRank" : Str)] e13) || (!(exnIn [("NoPaper" : Str)] e13))) = false → True) ∧ (let j20 : Str := cond ((exnIn [("Clash" : Str)] e13 || exnIn [("NoRank" : Str)] e13) || (!(exnIn [("NoPaper" : Str)] e13))) (let word_here_18 : Str := (Str.ofString "other"); word_here_18) word_here_9; let word_here_21 : Str := j20; True)) ∧ (let j22 : Str := tryV (((m_bound rows_ some_ settled_ goal_ (prices_, shares_)).bind (fun r11 => (.ok word_here_9))) : Except Exn (Str)) (fun (e13 : Exn) => (let j20 : Str := cond ((exnIn [("Clash" : Str)] e13 || exnIn [("NoRank" : Str)] e13) || (!(exnIn [("NoPaper" : Str)] e13))) (let word_here_18 : Str := (Str.ofString "other"); word_here_18) word_here_9; let word_here_21 : Str := j20; word_here_21)); let word_here_23 : Str := j22; True)) ∧ ((decide (word_here_9 = (Str.ofString "none"))) = false → True) ∧ (let j25 : Str := cond (decide (word_here_9 = (Str.ofString "none"))) (let j22 : Str := tryV (((m_bound rows_ some_ settled_ goal_ (prices_, shares_)).bind (fun r11 => (.ok word_here_9))) : Except Exn (Str)) (fun (e13 : Exn) => (let j20 : Str := cond ((exnIn [("Clash" : Str)] e13 || exnIn [("NoRank" : Str)] e13) || (!(exnIn [("NoPaper" : Str)] e13))) (let word_here_18 : Str := (Str.ofString "other"); word_here_18) word_here_9; let word_here_21 : Str := j20; word_here_21)); let word_here_23 : Str := j22; word_here_23) word_here_9; let word_here_26 : Str := j25; True)))
def m_l_counts (prices_ : List Rat) (shares_ : List Rat) (way_ : Int) : (List Rat × List Rat) :=
  (cond (decide (way_ = (0 : Int))) ((prices_ ++ [(0 : Rat)]), shares_) (cond (decide (way_ = (1 : Int))) ((cutL prices_ (some (1 : Int)) none), shares_) (cond (decide (way_ = (2 : Int))) (prices_, (shares_ ++ [(0 : Rat)])) (prices_, (cutL shares_ none (some (-1 : Int)))))))
def ok_l_counts (prices_ : List Rat) (shares_ : List Rat) (way_ : Int) : Prop :=
  (((decide (way_ = (0 : Int))) = true → prices_.length + [(0 : Rat)].length ≤ 100000 ∧ True) ∧ ((decide (way_ = (0 : Int))) = false → (((decide (way_ = (1 : Int))) = true → True) ∧ ((decide (way_ = (1 : Int))) = false → (((decide (way_ = (2 : Int))) = true → shares_.length + [(0 : Rat)].length ≤ 100000 ∧ True) ∧ ((decide (way_ = (2 : Int))) = false → True))))))
def m_l_priced (one_ : (T5 (Dc (Rat)) (Str) (Rat) (Int) (Int))) (room_here_ : Int) (mixed_ : Int) : (Rat × Bool) :=
  (let beyond_1 : Int := ((mixed_ / (8 : Int)) % (2 : Int)); (let price_2 : Rat := (m_l_lowest ((room_here_ * (7 : Int)) + beyond_1) (7 : Int)); (let j9 : Rat := cond ((decide (one_.b = (Str.ofString "most"))) || ((decide (one_.b = (Str.ofString "just"))) && (decide (((mixed_ / (16 : Int)) % (2 : Int)) = (1 : Int))))) (let price_6 : Rat := (Rat.divInt (((0 : Int) - price_2.num)) (((price_2.den : Nat) : Int))); price_6) price_2; let price_10 : Rat := j9; (let wrong_11 : Bool := ((decide ((0 : Int) < one_.d)) && (decide (beyond_1 = (1 : Int)))); (let j19 : (Rat × Bool) := cond ((!decide (one_.b = (Str.ofString "just"))) && (decide (((mixed_ / (32 : Int)) % (4 : Int)) = (0 : Int)))) (let price_14 : Rat := (m_l_lowest (List.getD [(1 : Int), (-1 : Int)] (Int.toNat (intB (decide (one_.b = (Str.ofString "least"))))) (0 : Int)) ((1 : Int) + ((mixed_ / (128 : Int)) % (9 : Int)))); (let wrong_17 : Bool := true; (price_14, wrong_17))) (price_10, wrong_11); let price_20 : Rat := j19.1; let wrong_21 : Bool := j19.2; (price_20, wrong_21))))))
def ok_l_priced (one_ : (T5 (Dc (Rat)) (Str) (Rat) (Int) (Int))) (room_here_ : Int) (mixed_ : Int) : Prop :=
  (let beyond_1 : Int := ((mixed_ / (8 : Int)) % (2 : Int)); ok_l_lowest ((room_here_ * (7 : Int)) + beyond_1) (7 : Int) ∧ (let price_2 : Rat := (m_l_lowest ((room_here_ * (7 : Int)) + beyond_1) (7 : Int)); (((decide (one_.b = (Str.ofString "most"))) || ((decide (one_.b = (Str.ofString "just"))) && (decide (((mixed_ / (16 : Int)) % (2 : Int)) = (1 : Int))))) = true → IsQ (((0 : Int) - price_2.num)) (((price_2.den : Nat) : Int)) ∧ (let price_6 : Rat := (Rat.divInt (((0 : Int) - price_2.num)) (((price_2.den : Nat) : Int))); True)) ∧ (((decide (one_.b = (Str.ofString "most"))) || ((decide (one_.b = (Str.ofString "just"))) && (decide (((mixed_ / (16 : Int)) % (2 : Int)) = (1 : Int))))) = false → True) ∧ (let j9 : Rat := cond ((decide (one_.b = (Str.ofString "most"))) || ((decide (one_.b = (Str.ofString "just"))) && (decide (((mixed_ / (16 : Int)) % (2 : Int)) = (1 : Int))))) (let price_6 : Rat := (Rat.divInt (((0 : Int) - price_2.num)) (((price_2.den : Nat) : Int))); price_6) price_2; let price_10 : Rat := j9; (let wrong_11 : Bool := ((decide ((0 : Int) < one_.d)) && (decide (beyond_1 = (1 : Int)))); (((!decide (one_.b = (Str.ofString "just"))) && (decide (((mixed_ / (32 : Int)) % (4 : Int)) = (0 : Int)))) = true → (0 ≤ (intB (decide (one_.b = (Str.ofString "least")))) ∧ (intB (decide (one_.b = (Str.ofString "least")))) < ([(1 : Int), (-1 : Int)].length : Int)) ∧ ok_l_lowest (List.getD [(1 : Int), (-1 : Int)] (Int.toNat (intB (decide (one_.b = (Str.ofString "least"))))) (0 : Int)) ((1 : Int) + ((mixed_ / (128 : Int)) % (9 : Int))) ∧ (let price_14 : Rat := (m_l_lowest (List.getD [(1 : Int), (-1 : Int)] (Int.toNat (intB (decide (one_.b = (Str.ofString "least"))))) (0 : Int)) ((1 : Int) + ((mixed_ / (128 : Int)) % (9 : Int)))); (let wrong_17 : Bool := true; True))) ∧ (((!decide (one_.b = (Str.ofString "just"))) && (decide (((mixed_ / (32 : Int)) % (4 : Int)) = (0 : Int)))) = false → True) ∧ (let j19 : (Rat × Bool) := cond ((!decide (one_.b = (Str.ofString "just"))) && (decide (((mixed_ / (32 : Int)) % (4 : Int)) = (0 : Int)))) (let price_14 : Rat := (m_l_lowest (List.getD [(1 : Int), (-1 : Int)] (Int.toNat (intB (decide (one_.b = (Str.ofString "least"))))) (0 : Int)) ((1 : Int) + ((mixed_ / (128 : Int)) % (9 : Int)))); (let wrong_17 : Bool := true; (price_14, wrong_17))) (price_10, wrong_11); let price_20 : Rat := j19.1; let wrong_21 : Bool := j19.2; True)))))
def st_law_13 (first_1 : Int) (some_3 : List Str) (s14 : List ((Key × Rat))) (x15 : Int) : List ((Key × Rat)) :=
  (let settled_16 : List ((Key × Rat)) := s14; (let settled_19 : List ((Key × Rat)) := settled_16 ++ [((List.getD ([(Sum.inl (1 : Int) : Key), (Sum.inl (2 : Int) : Key), (Sum.inl (3 : Int) : Key), (Sum.inl (4 : Int) : Key)] ++ (List.map (Sum.inr : Str → Key) some_3)) (Int.toNat ((m_l_mix first_1 (x15 + (2 : Int))) % (5 : Int))) (Sum.inl 0 : Key)), (Rat.divInt (((m_l_mix first_1 (x15 + (7 : Int))) % (9 : Int))) ((1 : Int))))]; settled_19))
def okb_law_13 (first_1 : Int) (some_3 : List Str) (s14 : List ((Key × Rat))) (x15 : Int) : Prop :=
  (let settled_16 : List ((Key × Rat)) := s14; [(Sum.inl (1 : Int) : Key), (Sum.inl (2 : Int) : Key), (Sum.inl (3 : Int) : Key), (Sum.inl (4 : Int) : Key)].length + (List.map (Sum.inr : Str → Key) some_3).length ≤ 100000 ∧ ok_l_mix first_1 (x15 + (2 : Int)) ∧ (0 ≤ ((m_l_mix first_1 (x15 + (2 : Int))) % (5 : Int)) ∧ ((m_l_mix first_1 (x15 + (2 : Int))) % (5 : Int)) < (([(Sum.inl (1 : Int) : Key), (Sum.inl (2 : Int) : Key), (Sum.inl (3 : Int) : Key), (Sum.inl (4 : Int) : Key)] ++ (List.map (Sum.inr : Str → Key) some_3)).length : Int)) ∧ ok_l_mix first_1 (x15 + (7 : Int)) ∧ IsQ (((m_l_mix first_1 (x15 + (7 : Int))) % (9 : Int))) ((1 : Int)) ∧ settled_16.length < 100000 ∧ (let settled_19 : List ((Key × Rat)) := settled_16 ++ [((List.getD ([(Sum.inl (1 : Int) : Key), (Sum.inl (2 : Int) : Key), (Sum.inl (3 : Int) : Key), (Sum.inl (4 : Int) : Key)] ++ (List.map (Sum.inr : Str → Key) some_3)) (Int.toNat ((m_l_mix first_1 (x15 + (2 : Int))) % (5 : Int))) (Sum.inl 0 : Key)), (Rat.divInt (((m_l_mix first_1 (x15 + (7 : Int))) % (9 : Int))) ((1 : Int))))]; True))
def m_law (script_ : List Int) : Bool :=
  (let first_1 : Int := (m_l_cell_at script_ (0 : Int)); (let some_3 : List Str := (cutL [(Str.ofString "x"), (Str.ofString "left b")] none (some ((1 : Int) + (first_1 % (2 : Int))))); (let rows_4 : List ((T5 (Dc (Rat)) (Str) (Rat) (Int) (Int))) := (List.map (fun (x5 : Int) => (m_l_row x5)) (cutL script_ (some (1 : Int)) (some (7 : Int)))); (let settled_10 : List ((Key × Rat)) := ([] : List ((Key × Rat))); (let j26 : List ((Key × Rat)) := List.foldl (st_law_13 first_1 some_3) settled_10 (rangeI ((m_l_mix first_1 (1 : Int)) % (4 : Int))); let settled_27 : List ((Key × Rat)) := j26; (let goal_28 : Key := (List.getD ([(Sum.inl (1 : Int) : Key), (Sum.inl (2 : Int) : Key), (Sum.inl (3 : Int) : Key), (Sum.inl (4 : Int) : Key)] ++ (List.map (Sum.inr : Str → Key) some_3)) (Int.toNat ((m_l_mix first_1 (11 : Int)) % (5 : Int))) (Sum.inl 0 : Key)); (let prices_32 : List Rat := (List.map (fun (x33 : (T5 (Dc (Rat)) (Str) (Rat) (Int) (Int))) => (0 : Rat)) rows_4); (let shares_37 : List Rat := (List.map (fun (x38 : (Key × Rat)) => (1 : Rat)) settled_27); (cond (!decide ((m_l_word rows_4 some_3 settled_27 goal_28 prices_32 shares_37) = (Str.ofString ""))) false (let way_43 : Int := ((first_1 / (2 : Int)) % (8 : Int)); (let wrong_44 : Bool := false; (let j170 : (List Rat × (List Rat × (Bool × List ((T5 (Dc (Rat)) (Str) (Rat) (Int) (Int)))))) := cond (decide (way_43 < (4 : Int))) (let p109 : (List Rat × List Rat) := (m_l_counts prices_32 shares_37 way_43); let prices_110 : List Rat := p109.1; let shares_111 : List Rat := p109.2; (let wrong_112 : Bool := ((!decide ((prices_110.length : Int) = (rows_4.length : Int))) || (!decide ((shares_111.length : Int) = (settled_27.length : Int)))); (prices_110, (shares_111, (wrong_112, rows_4))))) (let j164 : (List Rat × (Bool × (List Rat × List ((T5 (Dc (Rat)) (Str) (Rat) (Int) (Int)))))) := cond ((decide (way_43 = (4 : Int))) && (!deq shares_37 ([] : List Rat))) (let shares_120 : List Rat := List.set shares_37 (Int.toNat ((m_l_mix first_1 (12 : Int)) % (shares_37.length : Int))) (Rat.divInt ((-1 : Int)) (((1 : Int) + ((m_l_mix first_1 (13 : Int)) % (99 : Int))))); (let wrong_121 : Bool := true; (shares_120, (wrong_121, (prices_32, rows_4))))) (let j159 : (Bool × (List Rat × List ((T5 (Dc (Rat)) (Str) (Rat) (Int) (Int))))) := cond ((decide ((4 : Int) < way_43)) && ((decide (way_43 < (7 : Int))) && (!deq rows_4 ([] : List ((T5 (Dc (Rat)) (Str) (Rat) (Int) (Int))))))) (let at_124 : Int := ((m_l_mix first_1 (14 : Int)) % (rows_4.length : Int)); (let p132 : (Rat × Bool) := (m_l_priced (List.getD rows_4 (Int.toNat at_124) default) (m_l_room (List.getD rows_4 (Int.toNat at_124) default) goal_28 settled_27) (m_l_mix first_1 (15 : Int))); let price_133 : Rat := p132.1; let wrong_134 : Bool := p132.2; (let prices_136 : List Rat := List.set prices_32 (Int.toNat at_124) price_133; (wrong_134, (prices_136, rows_4))))) (let j154 : (List ((T5 (Dc (Rat)) (Str) (Rat) (Int) (Int))) × (List Rat × Bool)) := cond (decide (way_43 = (7 : Int))) (let side_137 : Int := ((((List.filter (fun (x138 : (Key × Rat)) => (decide (x138.1 = (Sum.inr (List.getD some_3 (Int.toNat (0 : Int)) (Str.ofString "")) : Key)))) settled_27).map (fun (x138 : (Key × Rat)) => x138)).length : Int) + (intB (decide (goal_28 = (Sum.inr (List.getD some_3 (Int.toNat (0 : Int)) (Str.ofString "")) : Key))))); (let beyond_144 : Int := ((m_l_mix first_1 (16 : Int)) % (2 : Int)); (let rows_146 : List ((T5 (Dc (Rat)) (Str) (Rat) (Int) (Int))) := rows_4 ++ [(⟨(⟨[((List.getD some_3 (Int.toNat (0 : Int)) (Str.ofString "")), (Rat.divInt (1 : Int) (3 : Int)))]⟩ : Dc (Rat)), (Str.ofString "just"), (5 : Rat), (0 : Int), (1 : Int)⟩ : (T5 (Dc (Rat)) (Str) (Rat) (Int) (Int)))]; (let prices_149 : List Rat := prices_32 ++ [(m_l_lowest (((side_137 * (3 : Int)) * (11 : Int)) + beyond_144) (11 : Int))]; (let wrong_152 : Bool := (decide (beyond_144 = (1 : Int))); (rows_146, (prices_149, wrong_152))))))) (rows_4, (prices_32, wrong_44)); let rows_155 : List ((T5 (Dc (Rat)) (Str) (Rat) (Int) (Int))) := j154.1; let prices_156 : List Rat := j154.2.1; let wrong_157 : Bool := j154.2.2; (wrong_157, (prices_156, rows_155))); let wrong_160 : Bool := j159.1; let prices_161 : List Rat := j159.2.1; let rows_162 : List ((T5 (Dc (Rat)) (Str) (Rat) (Int) (Int))) := j159.2.2; (shares_37, (wrong_160, (prices_161, rows_162)))); let shares_165 : List Rat := j164.1; let wrong_166 : Bool := j164.2.1; let prices_167 : List Rat := j164.2.2.1; let rows_168 : List ((T5 (Dc (Rat)) (Str) (Rat) (Int) (Int))) := j164.2.2.2; (prices_167, (shares_165, (wrong_166, rows_168)))); let prices_171 : List Rat := j170.1; let shares_172 : List Rat := j170.2.1; let wrong_173 : Bool := j170.2.2.1; let rows_174 : List ((T5 (Dc (Rat)) (Str) (Rat) (Int) (Int))) := j170.2.2.2; (decide ((m_l_word rows_174 some_3 settled_27 goal_28 prices_171 shares_172) = (List.getD [(Str.ofString ""), (Str.ofString "none")] (Int.toNat (intB wrong_173)) (Str.ofString ""))))))))))))))))
def ok_law (script_ : List Int) : Prop :=
  ok_l_cell_at script_ (0 : Int) ∧ (let first_1 : Int := (m_l_cell_at script_ (0 : Int)); (let some_3 : List Str := (cutL [(Str.ofString "x"), (Str.ofString "left b")] none (some ((1 : Int) + (first_1 % (2 : Int))))); (∀ (x5 : Int), x5 ∈ (cutL script_ (some (1 : Int)) (some (7 : Int))) → ((true) = true → ok_l_row x5)) ∧ (cutL script_ (some (1 : Int)) (some (7 : Int))).length ≤ 100000 ∧ (let rows_4 : List ((T5 (Dc (Rat)) (Str) (Rat) (Int) (Int))) := (List.map (fun (x5 : Int) => (m_l_row x5)) (cutL script_ (some (1 : Int)) (some (7 : Int)))); (let settled_10 : List ((Key × Rat)) := ([] : List ((Key × Rat))); ok_l_mix first_1 (1 : Int) ∧ Rng ((m_l_mix first_1 (1 : Int)) % (4 : Int)) ∧ okFold (okb_law_13 first_1 some_3) (st_law_13 first_1 some_3) settled_10 (rangeI ((m_l_mix first_1 (1 : Int)) % (4 : Int))) ∧ (let j26 : List ((Key × Rat)) := List.foldl (st_law_13 first_1 some_3) settled_10 (rangeI ((m_l_mix first_1 (1 : Int)) % (4 : Int))); let settled_27 : List ((Key × Rat)) := j26; [(Sum.inl (1 : Int) : Key), (Sum.inl (2 : Int) : Key), (Sum.inl (3 : Int) : Key), (Sum.inl (4 : Int) : Key)].length + (List.map (Sum.inr : Str → Key) some_3).length ≤ 100000 ∧ ok_l_mix first_1 (11 : Int) ∧ (0 ≤ ((m_l_mix first_1 (11 : Int)) % (5 : Int)) ∧ ((m_l_mix first_1 (11 : Int)) % (5 : Int)) < (([(Sum.inl (1 : Int) : Key), (Sum.inl (2 : Int) : Key), (Sum.inl (3 : Int) : Key), (Sum.inl (4 : Int) : Key)] ++ (List.map (Sum.inr : Str → Key) some_3)).length : Int)) ∧ (let goal_28 : Key := (List.getD ([(Sum.inl (1 : Int) : Key), (Sum.inl (2 : Int) : Key), (Sum.inl (3 : Int) : Key), (Sum.inl (4 : Int) : Key)] ++ (List.map (Sum.inr : Str → Key) some_3)) (Int.toNat ((m_l_mix first_1 (11 : Int)) % (5 : Int))) (Sum.inl 0 : Key)); rows_4.length ≤ 100000 ∧ (let prices_32 : List Rat := (List.map (fun (x33 : (T5 (Dc (Rat)) (Str) (Rat) (Int) (Int))) => (0 : Rat)) rows_4); settled_27.length ≤ 100000 ∧ (let shares_37 : List Rat := (List.map (fun (x38 : (Key × Rat)) => (1 : Rat)) settled_27); ok_l_word rows_4 some_3 settled_27 goal_28 prices_32 shares_37 ∧ (((!decide ((m_l_word rows_4 some_3 settled_27 goal_28 prices_32 shares_37) = (Str.ofString ""))) = true → True) ∧ ((!decide ((m_l_word rows_4 some_3 settled_27 goal_28 prices_32 shares_37) = (Str.ofString ""))) = false → (let way_43 : Int := ((first_1 / (2 : Int)) % (8 : Int)); (let wrong_44 : Bool := false; ((decide (way_43 < (4 : Int))) = true → ok_l_counts prices_32 shares_37 way_43 ∧ (let p109 : (List Rat × List Rat) := (m_l_counts prices_32 shares_37 way_43); let prices_110 : List Rat := p109.1; let shares_111 : List Rat := p109.2; (let wrong_112 : Bool := ((!decide ((prices_110.length : Int) = (rows_4.length : Int))) || (!decide ((shares_111.length : Int) = (settled_27.length : Int)))); True))) ∧ ((decide (way_43 < (4 : Int))) = false → (((decide (way_43 = (4 : Int))) && (!deq shares_37 ([] : List Rat))) = true → ok_l_mix first_1 (13 : Int) ∧ IsQ ((-1 : Int)) (((1 : Int) + ((m_l_mix first_1 (13 : Int)) % (99 : Int)))) ∧ ok_l_mix first_1 (12 : Int) ∧ 0 < (shares_37.length : Int) ∧ (0 ≤ ((m_l_mix first_1 (12 : Int)) % (shares_37.length : Int)) ∧ ((m_l_mix first_1 (12 : Int)) % (shares_37.length : Int)) < (shares_37.length : Int)) ∧ (let shares_120 : List Rat := List.set shares_37 (Int.toNat ((m_l_mix first_1 (12 : Int)) % (shares_37.length : Int))) (Rat.divInt ((-1 : Int)) (((1 : Int) + ((m_l_mix first_1 (13 : Int)) % (99 : Int))))); (let wrong_121 : Bool := true; True))) ∧ (((decide (way_43 = (4 : Int))) && (!deq shares_37 ([] : List Rat))) = false → (((decide ((4 : Int) < way_43)) && ((decide (way_43 < (7 : Int))) && (!deq rows_4 ([] : List ((T5 (Dc (Rat)) (Str) (Rat) (Int) (Int))))))) = true → ok_l_mix first_1 (14 : Int) ∧ 0 < (rows_4.length : Int) ∧ (let at_124 : Int := ((m_l_mix first_1 (14 : Int)) % (rows_4.length : Int)); (0 ≤ at_124 ∧ at_124 < (rows_4.length : Int)) ∧ (0 ≤ at_124 ∧ at_124 < (rows_4.length : Int)) ∧ ok_l_room (List.getD rows_4 (Int.toNat at_124) default) goal_28 settled_27 ∧ ok_l_mix first_1 (15 : Int) ∧ ok_l_priced (List.getD rows_4 (Int.toNat at_124) default) (m_l_room (List.getD rows_4 (Int.toNat at_124) default) goal_28 settled_27) (m_l_mix first_1 (15 : Int)) ∧ (let p132 : (Rat × Bool) := (m_l_priced (List.getD rows_4 (Int.toNat at_124) default) (m_l_room (List.getD rows_4 (Int.toNat at_124) default) goal_28 settled_27) (m_l_mix first_1 (15 : Int))); let price_133 : Rat := p132.1; let wrong_134 : Bool := p132.2; (0 ≤ at_124 ∧ at_124 < (prices_32.length : Int)) ∧ (let prices_136 : List Rat := List.set prices_32 (Int.toNat at_124) price_133; True)))) ∧ (((decide ((4 : Int) < way_43)) && ((decide (way_43 < (7 : Int))) && (!deq rows_4 ([] : List ((T5 (Dc (Rat)) (Str) (Rat) (Int) (Int))))))) = false → ((decide (way_43 = (7 : Int))) = true → (∀ (x138 : (Key × Rat)), x138 ∈ settled_27 → (0 ≤ (0 : Int) ∧ (0 : Int) < (some_3.length : Int))) ∧ settled_27.length ≤ 100000 ∧ (0 ≤ (0 : Int) ∧ (0 : Int) < (some_3.length : Int)) ∧ (let side_137 : Int := ((((List.filter (fun (x138 : (Key × Rat)) => (decide (x138.1 = (Sum.inr (List.getD some_3 (Int.toNat (0 : Int)) (Str.ofString "")) : Key)))) settled_27).map (fun (x138 : (Key × Rat)) => x138)).length : Int) + (intB (decide (goal_28 = (Sum.inr (List.getD some_3 (Int.toNat (0 : Int)) (Str.ofString "")) : Key))))); ok_l_mix first_1 (16 : Int) ∧ (let beyond_144 : Int := ((m_l_mix first_1 (16 : Int)) % (2 : Int)); (0 ≤ (0 : Int) ∧ (0 : Int) < (some_3.length : Int)) ∧ rows_4.length < 100000 ∧ (let rows_146 : List ((T5 (Dc (Rat)) (Str) (Rat) (Int) (Int))) := rows_4 ++ [(⟨(⟨[((List.getD some_3 (Int.toNat (0 : Int)) (Str.ofString "")), (Rat.divInt (1 : Int) (3 : Int)))]⟩ : Dc (Rat)), (Str.ofString "just"), (5 : Rat), (0 : Int), (1 : Int)⟩ : (T5 (Dc (Rat)) (Str) (Rat) (Int) (Int)))]; ok_l_lowest (((side_137 * (3 : Int)) * (11 : Int)) + beyond_144) (11 : Int) ∧ prices_32.length < 100000 ∧ (let prices_149 : List Rat := prices_32 ++ [(m_l_lowest (((side_137 * (3 : Int)) * (11 : Int)) + beyond_144) (11 : Int))]; (let wrong_152 : Bool := (decide (beyond_144 = (1 : Int))); True)))))) ∧ ((decide (way_43 = (7 : Int))) = false → True) ∧ (let j154 : (List ((T5 (Dc (Rat)) (Str) (Rat) (Int) (Int))) × (List Rat × Bool)) := cond (decide (way_43 = (7 : Int))) (let side_137 : Int := ((((List.filter (fun (x138 : (Key × Rat)) => (decide (x138.1 = (Sum.inr (List.getD some_3 (Int.toNat (0 : Int)) (Str.ofString "")) : Key)))) settled_27).map (fun (x138 : (Key × Rat)) => x138)).length : Int) + (intB (decide (goal_28 = (Sum.inr (List.getD some_3 (Int.toNat (0 : Int)) (Str.ofString "")) : Key))))); (let beyond_144 : Int := ((m_l_mix first_1 (16 : Int)) % (2 : Int)); (let rows_146 : List ((T5 (Dc (Rat)) (Str) (Rat) (Int) (Int))) := rows_4 ++ [(⟨(⟨[((List.getD some_3 (Int.toNat (0 : Int)) (Str.ofString "")), (Rat.divInt (1 : Int) (3 : Int)))]⟩ : Dc (Rat)), (Str.ofString "just"), (5 : Rat), (0 : Int), (1 : Int)⟩ : (T5 (Dc (Rat)) (Str) (Rat) (Int) (Int)))]; (let prices_149 : List Rat := prices_32 ++ [(m_l_lowest (((side_137 * (3 : Int)) * (11 : Int)) + beyond_144) (11 : Int))]; (let wrong_152 : Bool := (decide (beyond_144 = (1 : Int))); (rows_146, (prices_149, wrong_152))))))) (rows_4, (prices_32, wrong_44)); let rows_155 : List ((T5 (Dc (Rat)) (Str) (Rat) (Int) (Int))) := j154.1; let prices_156 : List Rat := j154.2.1; let wrong_157 : Bool := j154.2.2; True)) ∧ (let j159 : (Bool × (List Rat × List ((T5 (Dc (Rat)) (Str) (Rat) (Int) (Int))))) := cond ((decide ((4 : Int) < way_43)) && ((decide (way_43 < (7 : Int))) && (!deq rows_4 ([] : List ((T5 (Dc (Rat)) (Str) (Rat) (Int) (Int))))))) (let at_124 : Int := ((m_l_mix first_1 (14 : Int)) % (rows_4.length : Int)); (let p132 : (Rat × Bool) := (m_l_priced (List.getD rows_4 (Int.toNat at_124) default) (m_l_room (List.getD rows_4 (Int.toNat at_124) default) goal_28 settled_27) (m_l_mix first_1 (15 : Int))); let price_133 : Rat := p132.1; let wrong_134 : Bool := p132.2; (let prices_136 : List Rat := List.set prices_32 (Int.toNat at_124) price_133; (wrong_134, (prices_136, rows_4))))) (let j154 : (List ((T5 (Dc (Rat)) (Str) (Rat) (Int) (Int))) × (List Rat × Bool)) := cond (decide (way_43 = (7 : Int))) (let side_137 : Int := ((((List.filter (fun (x138 : (Key × Rat)) => (decide (x138.1 = (Sum.inr (List.getD some_3 (Int.toNat (0 : Int)) (Str.ofString "")) : Key)))) settled_27).map (fun (x138 : (Key × Rat)) => x138)).length : Int) + (intB (decide (goal_28 = (Sum.inr (List.getD some_3 (Int.toNat (0 : Int)) (Str.ofString "")) : Key))))); (let beyond_144 : Int := ((m_l_mix first_1 (16 : Int)) % (2 : Int)); (let rows_146 : List ((T5 (Dc (Rat)) (Str) (Rat) (Int) (Int))) := rows_4 ++ [(⟨(⟨[((List.getD some_3 (Int.toNat (0 : Int)) (Str.ofString "")), (Rat.divInt (1 : Int) (3 : Int)))]⟩ : Dc (Rat)), (Str.ofString "just"), (5 : Rat), (0 : Int), (1 : Int)⟩ : (T5 (Dc (Rat)) (Str) (Rat) (Int) (Int)))]; (let prices_149 : List Rat := prices_32 ++ [(m_l_lowest (((side_137 * (3 : Int)) * (11 : Int)) + beyond_144) (11 : Int))]; (let wrong_152 : Bool := (decide (beyond_144 = (1 : Int))); (rows_146, (prices_149, wrong_152))))))) (rows_4, (prices_32, wrong_44)); let rows_155 : List ((T5 (Dc (Rat)) (Str) (Rat) (Int) (Int))) := j154.1; let prices_156 : List Rat := j154.2.1; let wrong_157 : Bool := j154.2.2; (wrong_157, (prices_156, rows_155))); let wrong_160 : Bool := j159.1; let prices_161 : List Rat := j159.2.1; let rows_162 : List ((T5 (Dc (Rat)) (Str) (Rat) (Int) (Int))) := j159.2.2; True)) ∧ (let j164 : (List Rat × (Bool × (List Rat × List ((T5 (Dc (Rat)) (Str) (Rat) (Int) (Int)))))) := cond ((decide (way_43 = (4 : Int))) && (!deq shares_37 ([] : List Rat))) (let shares_120 : List Rat := List.set shares_37 (Int.toNat ((m_l_mix first_1 (12 : Int)) % (shares_37.length : Int))) (Rat.divInt ((-1 : Int)) (((1 : Int) + ((m_l_mix first_1 (13 : Int)) % (99 : Int))))); (let wrong_121 : Bool := true; (shares_120, (wrong_121, (prices_32, rows_4))))) (let j159 : (Bool × (List Rat × List ((T5 (Dc (Rat)) (Str) (Rat) (Int) (Int))))) := cond ((decide ((4 : Int) < way_43)) && ((decide (way_43 < (7 : Int))) && (!deq rows_4 ([] : List ((T5 (Dc (Rat)) (Str) (Rat) (Int) (Int))))))) (let at_124 : Int := ((m_l_mix first_1 (14 : Int)) % (rows_4.length : Int)); (let p132 : (Rat × Bool) := (m_l_priced (List.getD rows_4 (Int.toNat at_124) default) (m_l_room (List.getD rows_4 (Int.toNat at_124) default) goal_28 settled_27) (m_l_mix first_1 (15 : Int))); let price_133 : Rat := p132.1; let wrong_134 : Bool := p132.2; (let prices_136 : List Rat := List.set prices_32 (Int.toNat at_124) price_133; (wrong_134, (prices_136, rows_4))))) (let j154 : (List ((T5 (Dc (Rat)) (Str) (Rat) (Int) (Int))) × (List Rat × Bool)) := cond (decide (way_43 = (7 : Int))) (let side_137 : Int := ((((List.filter (fun (x138 : (Key × Rat)) => (decide (x138.1 = (Sum.inr (List.getD some_3 (Int.toNat (0 : Int)) (Str.ofString "")) : Key)))) settled_27).map (fun (x138 : (Key × Rat)) => x138)).length : Int) + (intB (decide (goal_28 = (Sum.inr (List.getD some_3 (Int.toNat (0 : Int)) (Str.ofString "")) : Key))))); (let beyond_144 : Int := ((m_l_mix first_1 (16 : Int)) % (2 : Int)); (let rows_146 : List ((T5 (Dc (Rat)) (Str) (Rat) (Int) (Int))) := rows_4 ++ [(⟨(⟨[((List.getD some_3 (Int.toNat (0 : Int)) (Str.ofString "")), (Rat.divInt (1 : Int) (3 : Int)))]⟩ : Dc (Rat)), (Str.ofString "just"), (5 : Rat), (0 : Int), (1 : Int)⟩ : (T5 (Dc (Rat)) (Str) (Rat) (Int) (Int)))]; (let prices_149 : List Rat := prices_32 ++ [(m_l_lowest (((side_137 * (3 : Int)) * (11 : Int)) + beyond_144) (11 : Int))]; (let wrong_152 : Bool := (decide (beyond_144 = (1 : Int))); (rows_146, (prices_149, wrong_152))))))) (rows_4, (prices_32, wrong_44)); let rows_155 : List ((T5 (Dc (Rat)) (Str) (Rat) (Int) (Int))) := j154.1; let prices_156 : List Rat := j154.2.1; let wrong_157 : Bool := j154.2.2; (wrong_157, (prices_156, rows_155))); let wrong_160 : Bool := j159.1; let prices_161 : List Rat := j159.2.1; let rows_162 : List ((T5 (Dc (Rat)) (Str) (Rat) (Int) (Int))) := j159.2.2; (shares_37, (wrong_160, (prices_161, rows_162)))); let shares_165 : List Rat := j164.1; let wrong_166 : Bool := j164.2.1; let prices_167 : List Rat := j164.2.2.1; let rows_168 : List ((T5 (Dc (Rat)) (Str) (Rat) (Int) (Int))) := j164.2.2.2; True)) ∧ (let j170 : (List Rat × (List Rat × (Bool × List ((T5 (Dc (Rat)) (Str) (Rat) (Int) (Int)))))) := cond (decide (way_43 < (4 : Int))) (let p109 : (List Rat × List Rat) := (m_l_counts prices_32 shares_37 way_43); let prices_110 : List Rat := p109.1; let shares_111 : List Rat := p109.2; (let wrong_112 : Bool := ((!decide ((prices_110.length : Int) = (rows_4.length : Int))) || (!decide ((shares_111.length : Int) = (settled_27.length : Int)))); (prices_110, (shares_111, (wrong_112, rows_4))))) (let j164 : (List Rat × (Bool × (List Rat × List ((T5 (Dc (Rat)) (Str) (Rat) (Int) (Int)))))) := cond ((decide (way_43 = (4 : Int))) && (!deq shares_37 ([] : List Rat))) (let shares_120 : List Rat := List.set shares_37 (Int.toNat ((m_l_mix first_1 (12 : Int)) % (shares_37.length : Int))) (Rat.divInt ((-1 : Int)) (((1 : Int) + ((m_l_mix first_1 (13 : Int)) % (99 : Int))))); (let wrong_121 : Bool := true; (shares_120, (wrong_121, (prices_32, rows_4))))) (let j159 : (Bool × (List Rat × List ((T5 (Dc (Rat)) (Str) (Rat) (Int) (Int))))) := cond ((decide ((4 : Int) < way_43)) && ((decide (way_43 < (7 : Int))) && (!deq rows_4 ([] : List ((T5 (Dc (Rat)) (Str) (Rat) (Int) (Int))))))) (let at_124 : Int := ((m_l_mix first_1 (14 : Int)) % (rows_4.length : Int)); (let p132 : (Rat × Bool) := (m_l_priced (List.getD rows_4 (Int.toNat at_124) default) (m_l_room (List.getD rows_4 (Int.toNat at_124) default) goal_28 settled_27) (m_l_mix first_1 (15 : Int))); let price_133 : Rat := p132.1; let wrong_134 : Bool := p132.2; (let prices_136 : List Rat := List.set prices_32 (Int.toNat at_124) price_133; (wrong_134, (prices_136, rows_4))))) (let j154 : (List ((T5 (Dc (Rat)) (Str) (Rat) (Int) (Int))) × (List Rat × Bool)) := cond (decide (way_43 = (7 : Int))) (let side_137 : Int := ((((List.filter (fun (x138 : (Key × Rat)) => (decide (x138.1 = (Sum.inr (List.getD some_3 (Int.toNat (0 : Int)) (Str.ofString "")) : Key)))) settled_27).map (fun (x138 : (Key × Rat)) => x138)).length : Int) + (intB (decide (goal_28 = (Sum.inr (List.getD some_3 (Int.toNat (0 : Int)) (Str.ofString "")) : Key))))); (let beyond_144 : Int := ((m_l_mix first_1 (16 : Int)) % (2 : Int)); (let rows_146 : List ((T5 (Dc (Rat)) (Str) (Rat) (Int) (Int))) := rows_4 ++ [(⟨(⟨[((List.getD some_3 (Int.toNat (0 : Int)) (Str.ofString "")), (Rat.divInt (1 : Int) (3 : Int)))]⟩ : Dc (Rat)), (Str.ofString "just"), (5 : Rat), (0 : Int), (1 : Int)⟩ : (T5 (Dc (Rat)) (Str) (Rat) (Int) (Int)))]; (let prices_149 : List Rat := prices_32 ++ [(m_l_lowest (((side_137 * (3 : Int)) * (11 : Int)) + beyond_144) (11 : Int))]; (let wrong_152 : Bool := (decide (beyond_144 = (1 : Int))); (rows_146, (prices_149, wrong_152))))))) (rows_4, (prices_32, wrong_44)); let rows_155 : List ((T5 (Dc (Rat)) (Str) (Rat) (Int) (Int))) := j154.1; let prices_156 : List Rat := j154.2.1; let wrong_157 : Bool := j154.2.2; (wrong_157, (prices_156, rows_155))); let wrong_160 : Bool := j159.1; let prices_161 : List Rat := j159.2.1; let rows_162 : List ((T5 (Dc (Rat)) (Str) (Rat) (Int) (Int))) := j159.2.2; (shares_37, (wrong_160, (prices_161, rows_162)))); let shares_165 : List Rat := j164.1; let wrong_166 : Bool := j164.2.1; let prices_167 : List Rat := j164.2.2.1; let rows_168 : List ((T5 (Dc (Rat)) (Str) (Rat) (Int) (Int))) := j164.2.2.2; (prices_167, (shares_165, (wrong_166, rows_168)))); let prices_171 : List Rat := j170.1; let shares_172 : List Rat := j170.2.1; let wrong_173 : Bool := j170.2.2.1; let rows_174 : List ((T5 (Dc (Rat)) (Str) (Rat) (Int) (Int))) := j170.2.2.2; ok_l_word rows_174 some_3 settled_27 goal_28 prices_171 shares_172 ∧ (0 ≤ (intB wrong_173) ∧ (intB wrong_173) < ([(Str.ofString ""), (Str.ofString "none")].length : Int)) ∧ True)))))))))))))
end G
set_option pp.maxSteps 400
set_option maxHeartbeats 40000000
set_option autoImplicit false
namespace G
open PySem PySem.Spec PyProof.Rows L2 R
def topS (i : Nat) : Stmt := PySem.Challenge.pw_springframe_k32_no_paper.main.body.getD i (.Pass ⟨0, 0, 0, 0⟩)
structure Top (K : PySem.W.Frag) (mg : Str → Option Value) : Prop where
  here : True
  b_abs : mg "abs" = none
  b_any : mg "any" = none
  b_int : mg "int" = none
  b_isinstance : mg "isinstance" = none
  b_len : mg "len" = none
  b_list : mg "list" = none
  b_range : mg "range" = none
  b_zip : mg "zip" = none
  x_NoPaper : ErrC K mg "NoPaper"
  x_NoPart : ErrC K mg "NoPart"
  g_NOUGHT : GC K mg "NOUGHT" (0 : Rat)
  c_FrameError : CatC K mg [("FrameError" : Str), ("NoPart" : Str), ("NoRank" : Str), ("NoPaper" : Str), ("Clash" : Str)] [("FrameError" : Str), ("NoPart" : Str), ("NoRank" : Str), ("NoPaper" : Str), ("Clash" : Str)] "FrameError"
  c_NoPaper : CatC K mg [("FrameError" : Str), ("NoPart" : Str), ("NoRank" : Str), ("NoPaper" : Str), ("Clash" : Str)] [("NoPaper" : Str)] "NoPaper"
  i_Clash : IsC K mg [("FrameError" : Str), ("NoPart" : Str), ("NoRank" : Str), ("NoPaper" : Str), ("Clash" : Str)] [("Clash" : Str)] "Clash"
  i_NoPaper : IsC K mg [("FrameError" : Str), ("NoPart" : Str), ("NoRank" : Str), ("NoPaper" : Str), ("Clash" : Str)] [("NoPaper" : Str)] "NoPaper"
  i_NoRank : IsC K mg [("FrameError" : Str), ("NoPart" : Str), ("NoRank" : Str), ("NoPaper" : Str), ("Clash" : Str)] [("NoRank" : Str)] "NoRank"
variable {P : Program} {w : World} {K : PySem.W.Frag} {mg : Str → Option Value} {base : Heap}
def ph_divisor_of : Phi (Int) := fun args Rp Xp => ∃ (one_ : Int) (other_ : Int), args = [.dat one_, .dat other_] ∧ ok_divisor_of one_ other_ ∧ Rp (m_divisor_of one_ other_)
abbrev s_divisor_of : Stmt := topS 7
theorem sc_divisor_of : FnScope ["one", "other"] ["one", "other"] (defScope s_divisor_of) := ⟨rfl, rfl, rfl, by decide +kernel, rfl, by decide +kernel, by decide +kernel⟩
theorem w_divisor_of {f : Addr} {fd : FuncData} (F : Fun K "divisor_of" "divisor_of" s_divisor_of f fd) (T : Top K mg) : FnOk P w K mg base (L2.CX P w) 1 f fd ["one", "other"] (spP K mg 2 ph_divisor_of) := by
  refine fn_ok F sc_divisor_of rfl ?_
  rintro args Rp Xp ⟨one_, other_, rfl, hok, hR⟩ hl cdv A outer s H E W hr tk
  refine sx_set (i := 0) sc_divisor_of.nd (ex_abs T.b_abs (ex_var (i := 0) rfl)) ?_
  refine sx_set (i := 1) sc_divisor_of.nd (ex_abs T.b_abs (ex_var (i := 1) rfl)) ?_
  refine sx_while (S := Int × Int) (fun s => [.dat s.1, .dat s.2]) (fun s => 0 ≤ s.1 ∧ 0 ≤ s.2 ∧ Int.gcd s.1 s.2 = Int.gcd one_ other_) (fun s => s.2.toNat) (fun _ => False) (absI one_, absI other_) (passes_of rfl) (Sub.refl _) ⟨absI_nn _, absI_nn _, by simp only [Int.gcd, absI_nat]⟩ ?_ (fun e h => h.elim)
  rintro ⟨x, y⟩ ⟨h1, h2, h3⟩
  refine ⟨_, et_gt (ex_var (i := 1) rfl) ex_int, fun hk => ?_, fun hk => ?_⟩
  · have hy : 0 < y := by first | exact of_decide_eq_true hk | (simp at hk; have : (0 : Int) ≤ y := h2; omega)
    refine sx_par (i := 0) (j := 1) rfl sc_divisor_of.nd (ea_cons (ex_var (i := 1) rfl) (ea_cons (ex_mod (ex_var (i := 0) rfl) (ex_var (i := 1) rfl) hy) ea_nil)) ?_
    refine sx_nil ⟨(y, x % y), Sub.refl _, ⟨h2, Int.emod_nonneg _ (by omega), ?_⟩, ?_⟩
    · rw [← h3]; exact gcd_turn x y
    · have := Int.emod_lt_of_pos x hy
      have := Int.emod_nonneg x (show y ≠ 0 by omega)
      show (x % y).toNat < y.toNat
      omega
  · have hy : y = 0 := by first | (have : ¬ 0 < y := of_decide_eq_false hk; have : (0 : Int) ≤ y := h2; omega) | simpa using hk
    subst hy
    have e : x = gcdI one_ other_ := by
      unfold gcdI
      rw [← h3]
      simp only [Int.gcd_zero_right]
      have : (0 : Int) ≤ x := h1
      omega
    refine sx_ret (x := gcdI one_ other_) (EX.eq (ex_var (i := 0) rfl) e) ?_
    exact hR
def ph_part : Phi (Rat) := fun args Rp Xp => ∃ (top_ : Int) (bottom_ : Int), args = [.dat top_, .dat bottom_] ∧ ok_part top_ bottom_ ∧ outP Rp Xp (m_part top_ bottom_)
abbrev s_part : Stmt := topS 8
theorem sc_part : FnScope ["top", "bottom", "both"] ["top", "bottom"] (defScope s_part) := ⟨rfl, rfl, rfl, by decide +kernel, rfl, by decide +kernel, by decide +kernel⟩
theorem w_part {f : Addr} {fd : FuncData} (F : Fun K "part" "part" s_part f fd) (T : Top K mg) (d_divisor_of : DefOk P w K mg base "divisor_of" 1 ["one", "other"] [] (spP K mg 2 ph_divisor_of)) : FnOk P w K mg base (L2.CX P w) 2 f fd ["top", "bottom"] (spP K mg 2 ph_part) := by
  refine fn_ok F sc_part rfl ?_
  rintro args Rp Xp ⟨top_, bottom_, rfl, hok, hR⟩ hl cdv A outer s H E W hr tk
  refine sx_ifr (et_eq (ex_var (i := 1) rfl) ex_int) (fun hk => ?_) (fun hk => ?_)
  · have h0 : bottom_ = 0 := of_decide_eq_true hk
    refine sx_raise rfl tk T.x_NoPart ?_
    have hR2 : outP Rp Xp (if bottom_ = 0 then .error (.one "NoPart") else .ok (Rat.divInt top_ bottom_)) := hR
    rw [if_pos h0] at hR2
    exact hR2
  · have h0 : bottom_ ≠ 0 := of_decide_eq_false hk
    have hR2 : outP Rp Xp (if bottom_ = 0 then .error (.one "NoPart") else .ok (Rat.divInt top_ bottom_)) := hR
    rw [if_neg h0] at hR2
    refine sx_ifj' (fun (s : Int × Int) e => (List.set (List.set e 0 (.dat s.1)) 1 (.dat s.2))) (0 - top_, 0 - bottom_) (top_, bottom_) (et_lt (ex_var (i := 1) rfl) ex_int) (fun hk => ?_) (fun hk => ?_) ?_
    · refine sx_set (i := 0) sc_part.nd (ex_sub ex_int (ex_var (i := 0) rfl)) ?_
      refine sx_set (i := 1) sc_part.nd (ex_sub ex_int (ex_var (i := 1) rfl)) ?_
      exact sx_nil (Sub.refl _)
    · exact sx_nil (Sub.refl _)
    · obtain ⟨t, b, e, hb, hs, hq⟩ : ∃ t b : Int, cond (decide (bottom_ < 0)) (0 - top_, 0 - bottom_) (top_, bottom_) = (t, b) ∧ 0 < b ∧ b.natAbs < 2 ^ 9000 ∧ Rat.divInt t b = Rat.divInt top_ bottom_ := by
        by_cases hlt : bottom_ < 0
        · exact ⟨_, _, by rw [decide_eq_true hlt]; rfl, by omega, by rw [show (0 - bottom_).natAbs = bottom_.natAbs by omega]; exact hok, divInt_neg2 top_ bottom_⟩
        · exact ⟨_, _, by rw [decide_eq_false hlt]; rfl, by omega, hok, rfl⟩
      rw [e]
      refine sx_set (i := 2) sc_part.nd (ex_call (n := "divisor_of") d_divisor_of (hr.mono (by decide)) (ea_cons (ex_var (i := 0) rfl) (ea_cons (ex_var (i := 1) rfl) ea_nil)) ⟨t, b, rfl, trivial, rfl⟩ (dvs := []) (dxs := []) (fun _ => trivial)) ?_
      have hg : CDivW t (gcdI t b) := cdiv_gcd (by omega) hs
      have hg2 : CDivW b (gcdI t b) := cdiv_gcd (by omega) hs
      refine sx_ret (x := Rat.divInt t b) (ex_rat (ex_tup (p := (t / gcdI t b, b / gcdI t b)) (ea_cons (ex_fdivW (ex_var (i := 0) rfl) (ex_var (i := 2) rfl) hg) (ea_cons (ex_fdivW (ex_var (i := 1) rfl) (ex_var (i := 2) rfl) hg2) ea_nil))) (divInt_num hb) (divInt_den hb)) ?_
      show Rp _
      rw [hq]
      exact hR2
def ph_partP : Phi Rat := fun args Rp Xp => ∃ t b : Int, args = [.dat t, .dat b] ∧ ok_partP t b ∧ Rp (Rat.divInt t b)
theorem partP_of : ∀ args Rp Xp, ph_partP args Rp Xp → ph_part args Rp Xp := fun args Rp Xp ⟨t, b, h1, ⟨h2, h3⟩, h4⟩ => ⟨t, b, h1, h3, by unfold m_part; rw [if_neg h2]; exact h4⟩
def ph_plus : Phi (Rat) := fun args Rp Xp => ∃ (one_ : Rat) (other_ : Rat), args = [.dat one_, .dat other_] ∧ ok_plus one_ other_ ∧ Rp (m_plus one_ other_)
abbrev s_plus : Stmt := topS 9
theorem sc_plus : FnScope ["one", "other"] ["one", "other"] (defScope s_plus) := ⟨rfl, rfl, rfl, by decide +kernel, rfl, by decide +kernel, by decide +kernel⟩
theorem w_plus {f : Addr} {fd : FuncData} (F : Fun K "plus" "plus" s_plus f fd) (T : Top K mg) (d_part : DefOk P w K mg base "part" 2 ["top", "bottom"] [] (spP K mg 2 ph_part)) : FnOk P w K mg base (L2.CX P w) 3 f fd ["one", "other"] (spP K mg 2 ph_plus) := by
  refine fn_ok F sc_plus rfl ?_
  rintro args Rp Xp ⟨one_, other_, rfl, hok, hR⟩ hl cdv A outer s H E W hr tk
  change SX _ _ _ [Sl.dat one_, Sl.dat other_] _
  obtain ⟨v1, v2, v3, v4, hok⟩ := hok
  refine sx_ret (x := (one_ + other_)) (EX.eq (ex_call (n := "part") (d_part.imp partP_of) (hr.mono (by decide)) (ea_cons (ex_add (ex_mulW (ex_ixT (k := 0) (x := one_.num) (ex_var (i := 0) (x := one_) rfl) ex_int rfl) (ex_ixT (k := 1) (x := ((other_.den : Nat) : Int)) (ex_var (i := 1) (x := other_) rfl) ex_int rfl) v1) (ex_mulW (ex_ixT (k := 0) (x := other_.num) (ex_var (i := 1) (x := other_) rfl) ex_int rfl) (ex_ixT (k := 1) (x := ((one_.den : Nat) : Int)) (ex_var (i := 0) (x := one_) rfl) ex_int rfl) v2)) (ea_cons (ex_mulW (ex_ixT (k := 1) (x := ((one_.den : Nat) : Int)) (ex_var (i := 0) (x := one_) rfl) ex_int rfl) (ex_ixT (k := 1) (x := ((other_.den : Nat) : Int)) (ex_var (i := 1) (x := other_) rfl) ex_int rfl) v3) ea_nil)) ⟨((one_.num * ((other_.den : Nat) : Int)) + (other_.num * ((one_.den : Nat) : Int))), (((one_.den : Nat) : Int) * ((other_.den : Nat) : Int)), rfl, v4, rfl⟩ (dvs := []) (dxs := []) (fun _ => trivial)) (plus_eq one_ other_)) ?_
  exact hR
def ph_minus : Phi (Rat) := fun args Rp Xp => ∃ (one_ : Rat) (other_ : Rat), args = [.dat one_, .dat other_] ∧ ok_minus one_ other_ ∧ Rp (m_minus one_ other_)
abbrev s_minus : Stmt := topS 10
theorem sc_minus : FnScope ["one", "other"] ["one", "other"] (defScope s_minus) := ⟨rfl, rfl, rfl, by decide +kernel, rfl, by decide +kernel, by decide +kernel⟩
theorem w_minus {f : Addr} {fd : FuncData} (F : Fun K "minus" "minus" s_minus f fd) (T : Top K mg) (d_part : DefOk P w K mg base "part" 2 ["top", "bottom"] [] (spP K mg 2 ph_part)) : FnOk P w K mg base (L2.CX P w) 3 f fd ["one", "other"] (spP K mg 2 ph_minus) := by
  refine fn_ok F sc_minus rfl ?_
  rintro args Rp Xp ⟨one_, other_, rfl, hok, hR⟩ hl cdv A outer s H E W hr tk
  change SX _ _ _ [Sl.dat one_, Sl.dat other_] _
  obtain ⟨v1, v2, v3, v4, hok⟩ := hok
  refine sx_ret (x := (one_ - other_)) (EX.eq (ex_call (n := "part") (d_part.imp partP_of) (hr.mono (by decide)) (ea_cons (ex_sub (ex_mulW (ex_ixT (k := 0) (x := one_.num) (ex_var (i := 0) (x := one_) rfl) ex_int rfl) (ex_ixT (k := 1) (x := ((other_.den : Nat) : Int)) (ex_var (i := 1) (x := other_) rfl) ex_int rfl) v1) (ex_mulW (ex_ixT (k := 0) (x := other_.num) (ex_var (i := 1) (x := other_) rfl) ex_int rfl) (ex_ixT (k := 1) (x := ((one_.den : Nat) : Int)) (ex_var (i := 0) (x := one_) rfl) ex_int rfl) v2)) (ea_cons (ex_mulW (ex_ixT (k := 1) (x := ((one_.den : Nat) : Int)) (ex_var (i := 0) (x := one_) rfl) ex_int rfl) (ex_ixT (k := 1) (x := ((other_.den : Nat) : Int)) (ex_var (i := 1) (x := other_) rfl) ex_int rfl) v3) ea_nil)) ⟨((one_.num * ((other_.den : Nat) : Int)) - (other_.num * ((one_.den : Nat) : Int))), (((one_.den : Nat) : Int) * ((other_.den : Nat) : Int)), rfl, v4, rfl⟩ (dvs := []) (dxs := []) (fun _ => trivial)) (minus_eq one_ other_)) ?_
  exact hR
def ph_times : Phi (Rat) := fun args Rp Xp => ∃ (one_ : Rat) (other_ : Rat), args = [.dat one_, .dat other_] ∧ ok_times one_ other_ ∧ Rp (m_times one_ other_)
abbrev s_times : Stmt := topS 11
theorem sc_times : FnScope ["one", "other"] ["one", "other"] (defScope s_times) := ⟨rfl, rfl, rfl, by decide +kernel, rfl, by decide +kernel, by decide +kernel⟩
theorem w_times {f : Addr} {fd : FuncData} (F : Fun K "times" "times" s_times f fd) (T : Top K mg) (d_part : DefOk P w K mg base "part" 2 ["top", "bottom"] [] (spP K mg 2 ph_part)) : FnOk P w K mg base (L2.CX P w) 3 f fd ["one", "other"] (spP K mg 2 ph_times) := by
  refine fn_ok F sc_times rfl ?_
  rintro args Rp Xp ⟨one_, other_, rfl, hok, hR⟩ hl cdv A outer s H E W hr tk
  change SX _ _ _ [Sl.dat one_, Sl.dat other_] _
  obtain ⟨v1, v2, v3, hok⟩ := hok
  refine sx_ret (x := (one_ * other_)) (EX.eq (ex_call (n := "part") (d_part.imp partP_of) (hr.mono (by decide)) (ea_cons (ex_mulW (ex_ixT (k := 0) (x := one_.num) (ex_var (i := 0) (x := one_) rfl) ex_int rfl) (ex_ixT (k := 0) (x := other_.num) (ex_var (i := 1) (x := other_) rfl) ex_int rfl) v1) (ea_cons (ex_mulW (ex_ixT (k := 1) (x := ((one_.den : Nat) : Int)) (ex_var (i := 0) (x := one_) rfl) ex_int rfl) (ex_ixT (k := 1) (x := ((other_.den : Nat) : Int)) (ex_var (i := 1) (x := other_) rfl) ex_int rfl) v2) ea_nil)) ⟨(one_.num * other_.num), (((one_.den : Nat) : Int) * ((other_.den : Nat) : Int)), rfl, v3, rfl⟩ (dvs := []) (dxs := []) (fun _ => trivial)) (times_eq one_ other_)) ?_
  exact hR
def ph_under : Phi (Bool) := fun args Rp Xp => ∃ (one_ : Rat) (other_ : Rat), args = [.dat one_, .dat other_] ∧ ok_under one_ other_ ∧ Rp (m_under one_ other_)
abbrev s_under : Stmt := topS 12
theorem sc_under : FnScope ["one", "other"] ["one", "other"] (defScope s_under) := ⟨rfl, rfl, rfl, by decide +kernel, rfl, by decide +kernel, by decide +kernel⟩
theorem w_under {f : Addr} {fd : FuncData} (F : Fun K "under" "under" s_under f fd) (T : Top K mg) : FnOk P w K mg base (L2.CX P w) 1 f fd ["one", "other"] (spP K mg 2 ph_under) := by
  refine fn_ok F sc_under rfl ?_
  rintro args Rp Xp ⟨one_, other_, rfl, hok, hR⟩ hl cdv A outer s H E W hr tk
  change SX _ _ _ [Sl.dat one_, Sl.dat other_] _
  obtain ⟨v1, v2, hok⟩ := hok
  refine sx_ret (x := (decide (one_ < other_))) (EX.eq (ex_lt (ex_mulW (ex_ixT (k := 0) (x := one_.num) (ex_var (i := 0) (x := one_) rfl) ex_int rfl) (ex_ixT (k := 1) (x := ((other_.den : Nat) : Int)) (ex_var (i := 1) (x := other_) rfl) ex_int rfl) v1) (ex_mulW (ex_ixT (k := 0) (x := other_.num) (ex_var (i := 1) (x := other_) rfl) ex_int rfl) (ex_ixT (k := 1) (x := ((one_.den : Nat) : Int)) (ex_var (i := 0) (x := one_) rfl) ex_int rfl) v2)) (under_eq one_ other_)) ?_
  exact hR
def ph_room_of : Phi (Rat) := fun args Rp Xp => ∃ (one_ : (T5 (Dc (Rat)) (Str) (Rat) (Int) (Int))) (settled_ : List ((Key × Rat))) (goal_ : Key) (shares_ : List Rat), args = [.dat one_, .dat settled_, .dat goal_, .dat shares_] ∧ ok_room_of one_ settled_ goal_ shares_ ∧ Rp (m_room_of one_ settled_ goal_ shares_)
abbrev s_room_of : Stmt := topS 15
theorem sc_room_of : FnScope ["one", "settled", "goal", "shares", "often", "other", "share"] ["one", "settled", "goal", "shares"] (defScope s_room_of) := ⟨rfl, rfl, rfl, by decide +kernel, rfl, by decide +kernel, by decide +kernel⟩
theorem w_room_of {f : Addr} {fd : FuncData} (F : Fun K "room_of" "room_of" s_room_of f fd) (T : Top K mg) (d_times : DefOk P w K mg base "times" 3 ["one", "other"] [] (spP K mg 2 ph_times)) (d_plus : DefOk P w K mg base "plus" 3 ["one", "other"] [] (spP K mg 2 ph_plus)) : FnOk P w K mg base (L2.CX P w) 4 f fd ["one", "settled", "goal", "shares"] (spP K mg 4 ph_room_of) := by
  refine fn_ok F sc_room_of rfl ?_
  rintro args Rp Xp ⟨one_, settled_, goal_, shares_, rfl, hok, hR⟩ hl cdv A outer s H E W hr tk
  change SX _ _ _ [Sl.dat one_, Sl.dat settled_, Sl.dat goal_, Sl.dat shares_, _, _, _] _
  let often_1 : Rat := (0 : Rat)
  refine sx_set (i := 4) sc_room_of.nd (x := often_1) (ex_gc T.g_NOUGHT) ?_
  change SX _ _ _ [Sl.dat one_, Sl.dat settled_, Sl.dat goal_, Sl.dat shares_, Sl.dat often_1, _, _] _
  obtain ⟨hok1, hok2, hok⟩ := hok
  refine sx_ifj' (k := (decide (goal_ = (Sum.inl one_.d : Key)))) (fun (s : Rat) (e : Env') => (List.set e 4 (.dat s))) ((let often_2 : Rat := (1 : Rat); often_2) : Rat) (often_1 : Rat) (et_eq (ex_var (i := 2) (x := goal_) rfl) (ex_keyI (ex_ixT (k := 3) (x := one_.d) (ex_var (i := 0) (x := one_) rfl) ex_int rfl))) (fun hk3 => ?_) (fun hk3 => ?_) ?_
  · replace hok := hok1 hk3
    change SX _ _ _ [Sl.dat one_, Sl.dat settled_, Sl.dat goal_, Sl.dat shares_, Sl.dat often_1, _, _] _
    let often_2 : Rat := (1 : Rat)
    refine sx_set (i := 4) sc_room_of.nd (x := often_2) (ex_rat (q := (1 : Rat)) (ex_tup (p := ((1 : Int), (1 : Int))) (ea_cons ex_int (ea_cons ex_int ea_nil))) (by decide) (by decide)) ?_
    change SX _ _ _ [Sl.dat one_, Sl.dat settled_, Sl.dat goal_, Sl.dat shares_, Sl.dat often_2, _, _] _
    exact sx_nil (by repeat' (first | exact trivial | refine ⟨.inr rfl, ?_⟩ | refine ⟨.inl rfl, ?_⟩))
  · replace hok := hok2 hk3
    change SX _ _ _ [Sl.dat one_, Sl.dat settled_, Sl.dat goal_, Sl.dat shares_, Sl.dat often_1, _, _] _
    exact sx_nil (by repeat' (first | exact trivial | refine ⟨.inr rfl, ?_⟩ | refine ⟨.inl rfl, ?_⟩))
  let j4 : Rat := cond (decide (goal_ = (Sum.inl one_.d : Key))) (let often_2 : Rat := (1 : Rat); often_2) often_1
  let often_5 : Rat := j4
  change SX _ _ _ [Sl.dat one_, Sl.dat settled_, Sl.dat goal_, Sl.dat shares_, Sl.dat often_5, _, _] _
  obtain ⟨hokL, hok'⟩ := hok
  refine sx_forF' (fun (s : Rat) (e : Env') => (List.set e 4 (.dat s))) (st_room_of_6 one_) (okb_room_of_6 one_) often_5 rfl (passes_of rfl) (ix_zip T.b_zip (ex_var (i := 1) (x := settled_) rfl) (ex_var (i := 3) (x := shares_) rfl)) (by repeat' (first | exact trivial | refine ⟨.inr rfl, ?_⟩ | refine ⟨.inl rfl, ?_⟩)) hokL (fun x8 s7 hok => ?_) ?_
  · let often_9 : Rat := s7
    let other_10 : (Key × Rat) := x8.1
    let share_11 : Rat := x8.2
    refine ⟨_, (gx_tup (p := x8) rfl (gxs_cons (gx_name (i := 5) (x := other_10) sc_room_of.nd) (gxs_cons (gx_name (i := 6) (x := share_11) sc_room_of.nd) gxs_nil))), ?_⟩
    change SX _ _ _ [Sl.dat one_, Sl.dat settled_, Sl.dat goal_, Sl.dat shares_, Sl.dat often_9, Sl.dat other_10, Sl.dat share_11] _
    obtain ⟨hok1, hok2, hok⟩ := hok
    refine sx_ifj' (k := (decide (other_10.1 = (Sum.inl one_.d : Key)))) (fun (s : Rat) (e : Env') => (List.set e 4 (.dat s))) ((let often_14 : Rat := (m_plus often_9 share_11); often_14) : Rat) (often_9 : Rat) (et_eq (ex_ixT (k := 0) (x := other_10.1) (ex_var (i := 5) (x := other_10) rfl) ex_int rfl) (ex_keyI (ex_ixT (k := 3) (x := one_.d) (ex_var (i := 0) (x := one_) rfl) ex_int rfl))) (fun hk16 => ?_) (fun hk16 => ?_) ?_
    · replace hok := hok1 hk16
      change SX _ _ _ [Sl.dat one_, Sl.dat settled_, Sl.dat goal_, Sl.dat shares_, Sl.dat often_9, Sl.dat other_10, Sl.dat share_11] _
      obtain ⟨v15, hok⟩ := hok
      let often_14 : Rat := (m_plus often_9 share_11)
      refine sx_set (i := 4) sc_room_of.nd (x := often_14) (ex_call (n := "plus") d_plus (hr.mono (by decide)) (ea_cons (ex_var (i := 4) (x := often_9) rfl) (ea_cons (ex_var (i := 6) (x := share_11) rfl) ea_nil)) ⟨often_9, share_11, rfl, v15, rfl⟩ (dvs := []) (dxs := []) (fun _ => trivial)) ?_
      change SX _ _ _ [Sl.dat one_, Sl.dat settled_, Sl.dat goal_, Sl.dat shares_, Sl.dat often_14, Sl.dat other_10, Sl.dat share_11] _
      exact sx_nil (by repeat' (first | exact trivial | refine ⟨.inr rfl, ?_⟩ | refine ⟨.inl rfl, ?_⟩))
    · replace hok := hok2 hk16
      change SX _ _ _ [Sl.dat one_, Sl.dat settled_, Sl.dat goal_, Sl.dat shares_, Sl.dat often_9, Sl.dat other_10, Sl.dat share_11] _
      exact sx_nil (by repeat' (first | exact trivial | refine ⟨.inr rfl, ?_⟩ | refine ⟨.inl rfl, ?_⟩))
    let j17 : Rat := cond (decide (other_10.1 = (Sum.inl one_.d : Key))) (let often_14 : Rat := (m_plus often_9 share_11); often_14) often_9
    let often_18 : Rat := j17
    change SX _ _ _ [Sl.dat one_, Sl.dat settled_, Sl.dat goal_, Sl.dat shares_, Sl.dat often_18, Sl.dat other_10, Sl.dat share_11] _
    exact sx_nil (by repeat' (first | exact trivial | refine ⟨.inr rfl, ?_⟩ | refine ⟨.inl rfl, ?_⟩))
  · have hok := hok'
    clear hok'
    let j19 : Rat := List.foldl (st_room_of_6 one_) often_5 (List.zip settled_ shares_)
    let often_20 : Rat := j19
    change SX _ _ _ [Sl.dat one_, Sl.dat settled_, Sl.dat goal_, Sl.dat shares_, Sl.dat often_20, _, _] _
    obtain ⟨v21, v22, hok⟩ := hok
    refine sx_ret (x := (m_times (Rat.divInt (one_.e) ((1 : Int))) often_20)) (ex_call (n := "times") d_times (hr.mono (by decide)) (ea_cons (ex_isQ (ex_tup (p := (one_.e, (1 : Int))) (ea_cons (ex_ixT (k := 4) (x := one_.e) (ex_var (i := 0) (x := one_) rfl) ex_int rfl) (ea_cons ex_int ea_nil))) v21) (ea_cons (ex_var (i := 4) (x := often_20) rfl) ea_nil)) ⟨(Rat.divInt (one_.e) ((1 : Int))), often_20, rfl, v22, rfl⟩ (dvs := []) (dxs := []) (fun _ => trivial)) ?_
    exact hR
def ph_fits_kind : Phi (Bool) := fun args Rp Xp => ∃ (kind_ : Str) (price_ : Rat), args = [.dat kind_, .dat price_] ∧ ok_fits_kind kind_ price_ ∧ Rp (m_fits_kind kind_ price_)
abbrev s_fits_kind : Stmt := topS 16
theorem sc_fits_kind : FnScope ["kind", "price"] ["kind", "price"] (defScope s_fits_kind) := ⟨rfl, rfl, rfl, by decide +kernel, rfl, by decide +kernel, by decide +kernel⟩
theorem w_fits_kind {f : Addr} {fd : FuncData} (F : Fun K "fits_kind" "fits_kind" s_fits_kind f fd) (T : Top K mg) : FnOk P w K mg base (L2.CX P w) 1 f fd ["kind", "price"] (spP K mg 2 ph_fits_kind) := by
  refine fn_ok F sc_fits_kind rfl ?_
  rintro args Rp Xp ⟨kind_, price_, rfl, hok, hR⟩ hl cdv A outer s H E W hr tk
  change SX _ _ _ [Sl.dat kind_, Sl.dat price_] _
  refine sx_ret (x := ((decide (kind_ = (Str.ofString "just"))) || (((decide (kind_ = (Str.ofString "least"))) && (decide ((0 : Int) ≤ price_.num))) || ((decide (kind_ = (Str.ofString "most"))) && (decide (price_.num ≤ (0 : Int))))))) (ex_or (ex_eq (ex_var (i := 0) (x := kind_) rfl) ex_str) (fun hk1 => (ex_or (ex_and (ex_eq (ex_var (i := 0) (x := kind_) rfl) ex_str) (fun hk2 => (ex_one (ex_ge (ex_ixT (k := 0) (x := price_.num) (ex_var (i := 1) (x := price_) rfl) ex_int rfl) ex_int)))) (fun hk3 => (ex_one (ex_and (ex_eq (ex_var (i := 0) (x := kind_) rfl) ex_str) (fun hk4 => (ex_one (ex_le (ex_ixT (k := 0) (x := price_.num) (ex_var (i := 1) (x := price_) rfl) ex_int rfl) ex_int))))))))) ?_
  exact hR
def ph_in_room : Phi (Bool) := fun args Rp Xp => ∃ (price_ : Rat) (room_ : Rat), args = [.dat price_, .dat room_] ∧ ok_in_room price_ room_ ∧ Rp (m_in_room price_ room_)
abbrev s_in_room : Stmt := topS 17
theorem sc_in_room : FnScope ["price", "room"] ["price", "room"] (defScope s_in_room) := ⟨rfl, rfl, rfl, by decide +kernel, rfl, by decide +kernel, by decide +kernel⟩
theorem w_in_room {f : Addr} {fd : FuncData} (F : Fun K "in_room" "in_room" s_in_room f fd) (T : Top K mg) (d_under : DefOk P w K mg base "under" 1 ["one", "other"] [] (spP K mg 2 ph_under)) : FnOk P w K mg base (L2.CX P w) 2 f fd ["price", "room"] (spP K mg 2 ph_in_room) := by
  refine fn_ok F sc_in_room rfl ?_
  rintro args Rp Xp ⟨price_, room_, rfl, hok, hR⟩ hl cdv A outer s H E W hr tk
  change SX _ _ _ [Sl.dat price_, Sl.dat room_] _
  obtain ⟨v1, v2, hok⟩ := hok
  refine sx_ret (x := (!(m_under room_ (Rat.divInt ((absI price_.num)) (((price_.den : Nat) : Int)))))) (ex_not (ex_call (n := "under") d_under (hr.mono (by decide)) (ea_cons (ex_var (i := 1) (x := room_) rfl) (ea_cons (ex_isQ (ex_tup (p := ((absI price_.num), ((price_.den : Nat) : Int))) (ea_cons (ex_abs T.b_abs (ex_ixT (k := 0) (x := price_.num) (ex_var (i := 0) (x := price_) rfl) ex_int rfl)) (ea_cons (ex_ixT (k := 1) (x := ((price_.den : Nat) : Int)) (ex_var (i := 0) (x := price_) rfl) ex_int rfl) ea_nil))) v1) ea_nil)) ⟨room_, (Rat.divInt ((absI price_.num)) (((price_.den : Nat) : Int))), rfl, v2, rfl⟩ (dvs := []) (dxs := []) (fun _ => trivial))) ?_
  exact hR
def ph_asked_of : Phi (Rat) := fun args Rp Xp => ∃ (rows_ : List ((T5 (Dc (Rat)) (Str) (Rat) (Int) (Int)))) (prices_ : List Rat) (unknown_ : Str), args = [.dat rows_, .dat prices_, .dat unknown_] ∧ ok_asked_of rows_ prices_ unknown_ ∧ Rp (m_asked_of rows_ prices_ unknown_)
abbrev s_asked_of : Stmt := topS 18
theorem sc_asked_of : FnScope ["rows", "prices", "unknown", "found", "one", "price"] ["rows", "prices", "unknown"] (defScope s_asked_of) := ⟨rfl, rfl, rfl, by decide +kernel, rfl, by decide +kernel, by decide +kernel⟩
theorem w_asked_of {f : Addr} {fd : FuncData} (F : Fun K "asked_of" "asked_of" s_asked_of f fd) (T : Top K mg) (d_plus : DefOk P w K mg base "plus" 3 ["one", "other"] [] (spP K mg 2 ph_plus)) (d_times : DefOk P w K mg base "times" 3 ["one", "other"] [] (spP K mg 2 ph_times)) : FnOk P w K mg base (L2.CX P w) 4 f fd ["rows", "prices", "unknown"] (spP K mg 3 ph_asked_of) := by
  refine fn_ok F sc_asked_of rfl ?_
  rintro args Rp Xp ⟨rows_, prices_, unknown_, rfl, hok, hR⟩ hl cdv A outer s H E W hr tk
  change SX _ _ _ [Sl.dat rows_, Sl.dat prices_, Sl.dat unknown_, _, _, _] _
  let found_1 : Rat := (0 : Rat)
  refine sx_set (i := 3) sc_asked_of.nd (x := found_1) (ex_gc T.g_NOUGHT) ?_
  change SX _ _ _ [Sl.dat rows_, Sl.dat prices_, Sl.dat unknown_, Sl.dat found_1, _, _] _
  obtain ⟨hokL, hok'⟩ := hok
  refine sx_forF' (fun (s : Rat) (e : Env') => (List.set e 3 (.dat s))) (st_asked_of_2 unknown_) (okb_asked_of_2 unknown_) found_1 rfl (passes_of rfl) (ix_zip T.b_zip (ex_var (i := 0) (x := rows_) rfl) (ex_var (i := 1) (x := prices_) rfl)) (by repeat' (first | exact trivial | refine ⟨.inr rfl, ?_⟩ | refine ⟨.inl rfl, ?_⟩)) hokL (fun x4 s3 hok => ?_) ?_
  · let found_5 : Rat := s3
    let one_6 : (T5 (Dc (Rat)) (Str) (Rat) (Int) (Int)) := x4.1
    let price_7 : Rat := x4.2
    refine ⟨_, (gx_tup (p := x4) rfl (gxs_cons (gx_name (i := 4) (x := one_6) sc_asked_of.nd) (gxs_cons (gx_name (i := 5) (x := price_7) sc_asked_of.nd) gxs_nil))), ?_⟩
    change SX _ _ _ [Sl.dat rows_, Sl.dat prices_, Sl.dat unknown_, Sl.dat found_5, Sl.dat one_6, Sl.dat price_7] _
    obtain ⟨hok1, hok2, hok⟩ := hok
    refine sx_ifj' (k := (one_6.a.has unknown_)) (fun (s : Rat) (e : Env') => (List.set e 3 (.dat s))) ((let found_10 : Rat := (m_plus found_5 (m_times price_7 ((one_6.a.look unknown_).getD (0 : Rat)))); found_10) : Rat) (found_5 : Rat) (et_din (hu_of hr) (ex_var (i := 2) (x := unknown_) rfl) (ex_ixT (k := 0) (x := one_6.a) (ex_var (i := 4) (x := one_6) rfl) ex_int rfl)) (fun hk14 => ?_) (fun hk14 => ?_) ?_
    · replace hok := hok1 hk14
      change SX _ _ _ [Sl.dat rows_, Sl.dat prices_, Sl.dat unknown_, Sl.dat found_5, Sl.dat one_6, Sl.dat price_7] _
      obtain ⟨v11, v12, v13, hok⟩ := hok
      let found_10 : Rat := (m_plus found_5 (m_times price_7 ((one_6.a.look unknown_).getD (0 : Rat))))
      refine sx_set (i := 3) sc_asked_of.nd (x := found_10) (ex_call (n := "plus") d_plus (hr.mono (by decide)) (ea_cons (ex_var (i := 3) (x := found_5) rfl) (ea_cons (ex_call (n := "times") d_times (hr.mono (by decide)) (ea_cons (ex_var (i := 5) (x := price_7) rfl) (ea_cons (ex_dgetD (x0 := (0 : Rat)) (hu_of hr) (ex_ixT (k := 0) (x := one_6.a) (ex_var (i := 4) (x := one_6) rfl) ex_int rfl) (ex_var (i := 2) (x := unknown_) rfl) v11) ea_nil)) ⟨price_7, ((one_6.a.look unknown_).getD (0 : Rat)), rfl, v12, rfl⟩ (dvs := []) (dxs := []) (fun _ => trivial)) ea_nil)) ⟨found_5, (m_times price_7 ((one_6.a.look unknown_).getD (0 : Rat))), rfl, v13, rfl⟩ (dvs := []) (dxs := []) (fun _ => trivial)) ?_
      change SX _ _ _ [Sl.dat rows_, Sl.dat prices_, Sl.dat unknown_, Sl.dat found_10, Sl.dat one_6, Sl.dat price_7] _
      exact sx_nil (by repeat' (first | exact trivial | refine ⟨.inr rfl, ?_⟩ | refine ⟨.inl rfl, ?_⟩))
    · replace hok := hok2 hk14
      change SX _ _ _ [Sl.dat rows_, Sl.dat prices_, Sl.dat unknown_, Sl.dat found_5, Sl.dat one_6, Sl.dat price_7] _
      exact sx_nil (by repeat' (first | exact trivial | refine ⟨.inr rfl, ?_⟩ | refine ⟨.inl rfl, ?_⟩))
    let j15 : Rat := cond (one_6.a.has unknown_) (let found_10 : Rat := (m_plus found_5 (m_times price_7 ((one_6.a.look unknown_).getD (0 : Rat)))); found_10) found_5
    let found_16 : Rat := j15
    change SX _ _ _ [Sl.dat rows_, Sl.dat prices_, Sl.dat unknown_, Sl.dat found_16, Sl.dat one_6, Sl.dat price_7] _
    exact sx_nil (by repeat' (first | exact trivial | refine ⟨.inr rfl, ?_⟩ | refine ⟨.inl rfl, ?_⟩))
  · have hok := hok'
    clear hok'
    let j17 : Rat := List.foldl (st_asked_of_2 unknown_) found_1 (List.zip rows_ prices_)
    let found_18 : Rat := j17
    change SX _ _ _ [Sl.dat rows_, Sl.dat prices_, Sl.dat unknown_, Sl.dat found_18, _, _] _
    refine sx_ret (x := found_18) (ex_var (i := 3) (x := found_18) rfl) ?_
    exact hR
def ph_asked_in_all : Phi (Rat) := fun args Rp Xp => ∃ (rows_ : List ((T5 (Dc (Rat)) (Str) (Rat) (Int) (Int)))) (prices_ : List Rat), args = [.dat rows_, .dat prices_] ∧ ok_asked_in_all rows_ prices_ ∧ Rp (m_asked_in_all rows_ prices_)
abbrev s_asked_in_all : Stmt := topS 19
theorem sc_asked_in_all : FnScope ["rows", "prices", "found", "one", "price"] ["rows", "prices"] (defScope s_asked_in_all) := ⟨rfl, rfl, rfl, by decide +kernel, rfl, by decide +kernel, by decide +kernel⟩
theorem w_asked_in_all {f : Addr} {fd : FuncData} (F : Fun K "asked_in_all" "asked_in_all" s_asked_in_all f fd) (T : Top K mg) (d_plus : DefOk P w K mg base "plus" 3 ["one", "other"] [] (spP K mg 2 ph_plus)) (d_times : DefOk P w K mg base "times" 3 ["one", "other"] [] (spP K mg 2 ph_times)) : FnOk P w K mg base (L2.CX P w) 4 f fd ["rows", "prices"] (spP K mg 2 ph_asked_in_all) := by
  refine fn_ok F sc_asked_in_all rfl ?_
  rintro args Rp Xp ⟨rows_, prices_, rfl, hok, hR⟩ hl cdv A outer s H E W hr tk
  change SX _ _ _ [Sl.dat rows_, Sl.dat prices_, _, _, _] _
  let found_1 : Rat := (0 : Rat)
  refine sx_set (i := 2) sc_asked_in_all.nd (x := found_1) (ex_gc T.g_NOUGHT) ?_
  change SX _ _ _ [Sl.dat rows_, Sl.dat prices_, Sl.dat found_1, _, _] _
  obtain ⟨hokL, hok'⟩ := hok
  refine sx_forF' (fun (s : Rat) (e : Env') => (List.set e 2 (.dat s))) st_asked_in_all_2 okb_asked_in_all_2 found_1 rfl (passes_of rfl) (ix_zip T.b_zip (ex_var (i := 0) (x := rows_) rfl) (ex_var (i := 1) (x := prices_) rfl)) (by repeat' (first | exact trivial | refine ⟨.inr rfl, ?_⟩ | refine ⟨.inl rfl, ?_⟩)) hokL (fun x4 s3 hok => ?_) ?_
  · let found_5 : Rat := s3
    let one_6 : (T5 (Dc (Rat)) (Str) (Rat) (Int) (Int)) := x4.1
    let price_7 : Rat := x4.2
    refine ⟨_, (gx_tup (p := x4) rfl (gxs_cons (gx_name (i := 3) (x := one_6) sc_asked_in_all.nd) (gxs_cons (gx_name (i := 4) (x := price_7) sc_asked_in_all.nd) gxs_nil))), ?_⟩
    change SX _ _ _ [Sl.dat rows_, Sl.dat prices_, Sl.dat found_5, Sl.dat one_6, Sl.dat price_7] _
    obtain ⟨v11, v12, hok⟩ := hok
    let found_10 : Rat := (m_plus found_5 (m_times price_7 one_6.c))
    refine sx_set (i := 2) sc_asked_in_all.nd (x := found_10) (ex_call (n := "plus") d_plus (hr.mono (by decide)) (ea_cons (ex_var (i := 2) (x := found_5) rfl) (ea_cons (ex_call (n := "times") d_times (hr.mono (by decide)) (ea_cons (ex_var (i := 4) (x := price_7) rfl) (ea_cons (ex_ixT (k := 2) (x := one_6.c) (ex_var (i := 3) (x := one_6) rfl) ex_int rfl) ea_nil)) ⟨price_7, one_6.c, rfl, v11, rfl⟩ (dvs := []) (dxs := []) (fun _ => trivial)) ea_nil)) ⟨found_5, (m_times price_7 one_6.c), rfl, v12, rfl⟩ (dvs := []) (dxs := []) (fun _ => trivial)) ?_
    change SX _ _ _ [Sl.dat rows_, Sl.dat prices_, Sl.dat found_10, Sl.dat one_6, Sl.dat price_7] _
    exact sx_nil (by repeat' (first | exact trivial | refine ⟨.inr rfl, ?_⟩ | refine ⟨.inl rfl, ?_⟩))
  · have hok := hok'
    clear hok'
    let j13 : Rat := List.foldl st_asked_in_all_2 found_1 (List.zip rows_ prices_)
    let found_14 : Rat := j13
    change SX _ _ _ [Sl.dat rows_, Sl.dat prices_, Sl.dat found_14, _, _] _
    refine sx_ret (x := found_14) (ex_var (i := 2) (x := found_14) rfl) ?_
    exact hR
def ph_side_of : Phi (Rat) := fun args Rp Xp => ∃ (unknown_ : Str) (settled_ : List ((Key × Rat))) (goal_ : Key) (shares_ : List Rat), args = [.dat unknown_, .dat settled_, .dat goal_, .dat shares_] ∧ ok_side_of unknown_ settled_ goal_ shares_ ∧ Rp (m_side_of unknown_ settled_ goal_ shares_)
abbrev s_side_of : Stmt := topS 20
theorem sc_side_of : FnScope ["unknown", "settled", "goal", "shares", "found", "other", "share"] ["unknown", "settled", "goal", "shares"] (defScope s_side_of) := ⟨rfl, rfl, rfl, by decide +kernel, rfl, by decide +kernel, by decide +kernel⟩
theorem w_side_of {f : Addr} {fd : FuncData} (F : Fun K "side_of" "side_of" s_side_of f fd) (T : Top K mg) (d_plus : DefOk P w K mg base "plus" 3 ["one", "other"] [] (spP K mg 2 ph_plus)) : FnOk P w K mg base (L2.CX P w) 4 f fd ["unknown", "settled", "goal", "shares"] (spP K mg 4 ph_side_of) := by
  refine fn_ok F sc_side_of rfl ?_
  rintro args Rp Xp ⟨unknown_, settled_, goal_, shares_, rfl, hok, hR⟩ hl cdv A outer s H E W hr tk
  change SX _ _ _ [Sl.dat unknown_, Sl.dat settled_, Sl.dat goal_, Sl.dat shares_, _, _, _] _
  let found_1 : Rat := (0 : Rat)
  refine sx_set (i := 4) sc_side_of.nd (x := found_1) (ex_gc T.g_NOUGHT) ?_
  change SX _ _ _ [Sl.dat unknown_, Sl.dat settled_, Sl.dat goal_, Sl.dat shares_, Sl.dat found_1, _, _] _
  obtain ⟨hok1, hok2, hok⟩ := hok
  refine sx_ifj' (k := (decide (goal_ = (Sum.inr unknown_ : Key)))) (fun (s : Rat) (e : Env') => (List.set e 4 (.dat s))) ((let found_2 : Rat := (1 : Rat); found_2) : Rat) (found_1 : Rat) (et_eq (ex_var (i := 2) (x := goal_) rfl) (ex_keyS (ex_var (i := 0) (x := unknown_) rfl))) (fun hk3 => ?_) (fun hk3 => ?_) ?_
  · replace hok := hok1 hk3
    change SX _ _ _ [Sl.dat unknown_, Sl.dat settled_, Sl.dat goal_, Sl.dat shares_, Sl.dat found_1, _, _] _
    let found_2 : Rat := (1 : Rat)
    refine sx_set (i := 4) sc_side_of.nd (x := found_2) (ex_rat (q := (1 : Rat)) (ex_tup (p := ((1 : Int), (1 : Int))) (ea_cons ex_int (ea_cons ex_int ea_nil))) (by decide) (by decide)) ?_
    change SX _ _ _ [Sl.dat unknown_, Sl.dat settled_, Sl.dat goal_, Sl.dat shares_, Sl.dat found_2, _, _] _
    exact sx_nil (by repeat' (first | exact trivial | refine ⟨.inr rfl, ?_⟩ | refine ⟨.inl rfl, ?_⟩))
  · replace hok := hok2 hk3
    change SX _ _ _ [Sl.dat unknown_, Sl.dat settled_, Sl.dat goal_, Sl.dat shares_, Sl.dat found_1, _, _] _
    exact sx_nil (by repeat' (first | exact trivial | refine ⟨.inr rfl, ?_⟩ | refine ⟨.inl rfl, ?_⟩))
  let j4 : Rat := cond (decide (goal_ = (Sum.inr unknown_ : Key))) (let found_2 : Rat := (1 : Rat); found_2) found_1
  let found_5 : Rat := j4
  change SX _ _ _ [Sl.dat unknown_, Sl.dat settled_, Sl.dat goal_, Sl.dat shares_, Sl.dat found_5, _, _] _
  obtain ⟨hokL, hok'⟩ := hok
  refine sx_forF' (fun (s : Rat) (e : Env') => (List.set e 4 (.dat s))) (st_side_of_6 unknown_) (okb_side_of_6 unknown_) found_5 rfl (passes_of rfl) (ix_zip T.b_zip (ex_var (i := 1) (x := settled_) rfl) (ex_var (i := 3) (x := shares_) rfl)) (by repeat' (first | exact trivial | refine ⟨.inr rfl, ?_⟩ | refine ⟨.inl rfl, ?_⟩)) hokL (fun x8 s7 hok => ?_) ?_
  · let found_9 : Rat := s7
    let other_10 : (Key × Rat) := x8.1
    let share_11 : Rat := x8.2
    refine ⟨_, (gx_tup (p := x8) rfl (gxs_cons (gx_name (i := 5) (x := other_10) sc_side_of.nd) (gxs_cons (gx_name (i := 6) (x := share_11) sc_side_of.nd) gxs_nil))), ?_⟩
    change SX _ _ _ [Sl.dat unknown_, Sl.dat settled_, Sl.dat goal_, Sl.dat shares_, Sl.dat found_9, Sl.dat other_10, Sl.dat share_11] _
    obtain ⟨hok1, hok2, hok⟩ := hok
    refine sx_ifj' (k := (decide (other_10.1 = (Sum.inr unknown_ : Key)))) (fun (s : Rat) (e : Env') => (List.set e 4 (.dat s))) ((let found_14 : Rat := (m_plus found_9 share_11); found_14) : Rat) (found_9 : Rat) (et_eq (ex_ixT (k := 0) (x := other_10.1) (ex_var (i := 5) (x := other_10) rfl) ex_int rfl) (ex_keyS (ex_var (i := 0) (x := unknown_) rfl))) (fun hk16 => ?_) (fun hk16 => ?_) ?_
    · replace hok := hok1 hk16
      change SX _ _ _ [Sl.dat unknown_, Sl.dat settled_, Sl.dat goal_, Sl.dat shares_, Sl.dat found_9, Sl.dat other_10, Sl.dat share_11] _
      obtain ⟨v15, hok⟩ := hok
      let found_14 : Rat := (m_plus found_9 share_11)
      refine sx_set (i := 4) sc_side_of.nd (x := found_14) (ex_call (n := "plus") d_plus (hr.mono (by decide)) (ea_cons (ex_var (i := 4) (x := found_9) rfl) (ea_cons (ex_var (i := 6) (x := share_11) rfl) ea_nil)) ⟨found_9, share_11, rfl, v15, rfl⟩ (dvs := []) (dxs := []) (fun _ => trivial)) ?_
      change SX _ _ _ [Sl.dat unknown_, Sl.dat settled_, Sl.dat goal_, Sl.dat shares_, Sl.dat found_14, Sl.dat other_10, Sl.dat share_11] _
      exact sx_nil (by repeat' (first | exact trivial | refine ⟨.inr rfl, ?_⟩ | refine ⟨.inl rfl, ?_⟩))
    · replace hok := hok2 hk16
      change SX _ _ _ [Sl.dat unknown_, Sl.dat settled_, Sl.dat goal_, Sl.dat shares_, Sl.dat found_9, Sl.dat other_10, Sl.dat share_11] _
      exact sx_nil (by repeat' (first | exact trivial | refine ⟨.inr rfl, ?_⟩ | refine ⟨.inl rfl, ?_⟩))
    let j17 : Rat := cond (decide (other_10.1 = (Sum.inr unknown_ : Key))) (let found_14 : Rat := (m_plus found_9 share_11); found_14) found_9
    let found_18 : Rat := j17
    change SX _ _ _ [Sl.dat unknown_, Sl.dat settled_, Sl.dat goal_, Sl.dat shares_, Sl.dat found_18, Sl.dat other_10, Sl.dat share_11] _
    exact sx_nil (by repeat' (first | exact trivial | refine ⟨.inr rfl, ?_⟩ | refine ⟨.inl rfl, ?_⟩))
  · have hok := hok'
    clear hok'
    let j19 : Rat := List.foldl (st_side_of_6 unknown_) found_5 (List.zip settled_ shares_)
    let found_20 : Rat := j19
    change SX _ _ _ [Sl.dat unknown_, Sl.dat settled_, Sl.dat goal_, Sl.dat shares_, Sl.dat found_20, _, _] _
    refine sx_ret (x := found_20) (ex_var (i := 4) (x := found_20) rfl) ?_
    exact hR
def ph_bound : Phi (Rat) := fun args Rp Xp => ∃ (rows_ : List ((T5 (Dc (Rat)) (Str) (Rat) (Int) (Int)))) (unknowns_ : List Str) (settled_ : List ((Key × Rat))) (goal_ : Key) (paper_ : (List Rat × List Rat)), args = [.dat rows_, .dat unknowns_, .dat settled_, .dat goal_, .dat paper_] ∧ ok_bound rows_ unknowns_ settled_ goal_ paper_ ∧ outP Rp Xp (m_bound rows_ unknowns_ settled_ goal_ paper_)
abbrev s_bound : Stmt := topS 21
theorem sc_bound : FnScope ["rows", "unknowns", "settled", "goal", "paper", "prices", "shares", "share", "one", "price", "unknown", "found", "other"] ["rows", "unknowns", "settled", "goal", "paper"] (defScope s_bound) := ⟨rfl, rfl, rfl, by decide +kernel, rfl, by decide +kernel, by decide +kernel⟩
theorem w_bound {f : Addr} {fd : FuncData} (F : Fun K "bound" "bound" s_bound f fd) (T : Top K mg) (d_asked_in_all : DefOk P w K mg base "asked_in_all" 4 ["rows", "prices"] [] (spP K mg 2 ph_asked_in_all)) (d_under : DefOk P w K mg base "under" 1 ["one", "other"] [] (spP K mg 2 ph_under)) (d_minus : DefOk P w K mg base "minus" 3 ["one", "other"] [] (spP K mg 2 ph_minus)) (d_fits_kind : DefOk P w K mg base "fits_kind" 1 ["kind", "price"] [] (spP K mg 2 ph_fits_kind)) (d_side_of : DefOk P w K mg base "side_of" 4 ["unknown", "settled", "goal", "shares"] [] (spP K mg 4 ph_side_of)) (d_asked_of : DefOk P w K mg base "asked_of" 4 ["rows", "prices", "unknown"] [] (spP K mg 3 ph_asked_of)) (d_times : DefOk P w K mg base "times" 3 ["one", "other"] [] (spP K mg 2 ph_times)) (d_in_room : DefOk P w K mg base "in_room" 2 ["price", "room"] [] (spP K mg 2 ph_in_room)) (d_room_of : DefOk P w K mg base "room_of" 4 ["one", "settled", "goal", "shares"] [] (spP K mg 4 ph_room_of)) : FnOk P w K mg base (L2.CX P w) 5 f fd ["rows", "unknowns", "settled", "goal", "paper"] (spP K mg 5 ph_bound) := by
  refine fn_ok F sc_bound rfl ?_
  rintro args Rp Xp ⟨rows_, unknowns_, settled_, goal_, paper_, rfl, hok, hR⟩ hl cdv A outer s H E W hr tk
  change SX _ _ _ [Sl.dat rows_, Sl.dat unknowns_, Sl.dat settled_, Sl.dat goal_, Sl.dat paper_, _, _, _, _, _, _, _, _] _
  let p1 : (List Rat × List Rat) := paper_
  let prices_2 : List Rat := p1.1
  let shares_3 : List Rat := p1.2
  refine sx_asg (x := p1) (ex_var (i := 4) (x := paper_) rfl) (gx_tup (p := p1) rfl (gxs_cons (gx_name (i := 5) (x := prices_2) sc_bound.nd) (gxs_cons (gx_name (i := 6) (x := shares_3) sc_bound.nd) gxs_nil))) ?_
  change SX _ _ _ [Sl.dat rows_, Sl.dat unknowns_, Sl.dat settled_, Sl.dat goal_, Sl.dat paper_, Sl.dat prices_2, Sl.dat shares_3, _, _, _, _, _, _] _
  refine sx_ifr (k := ((!decide ((prices_2.length : Int) = (rows_.length : Int))) || (!decide ((shares_3.length : Int) = (settled_.length : Int))))) (et_bool (ew_or (et_ne (ex_len T.b_len (ex_var (i := 5) (x := prices_2) rfl)) (ex_len T.b_len (ex_var (i := 0) (x := rows_) rfl))) (fun hk4 => (ew_or1 (et_ne (ex_len T.b_len (ex_var (i := 6) (x := shares_3) rfl)) (ex_len T.b_len (ex_var (i := 2) (x := settled_) rfl))))))) (fun hk50 => ?_) (fun hk50 => ?_)
  · replace hok := hok.1 hk50
    replace hR := cond_t (P := (outP Rp Xp)) hk50 hR
    change SX _ _ _ [Sl.dat rows_, Sl.dat unknowns_, Sl.dat settled_, Sl.dat goal_, Sl.dat paper_, Sl.dat prices_2, Sl.dat shares_3, _, _, _, _, _, _] _
    refine sx_raise rfl tk T.x_NoPaper ?_
    exact hR
  · replace hok := hok.2 hk50
    replace hR := cond_f (P := (outP Rp Xp)) hk50 hR
    change SX _ _ _ [Sl.dat rows_, Sl.dat unknowns_, Sl.dat settled_, Sl.dat goal_, Sl.dat paper_, Sl.dat prices_2, Sl.dat shares_3, _, _, _, _, _, _] _
    obtain ⟨v8, hok⟩ := hok
    refine sx_ifr (k := ((List.map (fun (x5 : Rat) => (decide (x5.num < (0 : Int)))) shares_3).any id)) (et_val (ex_any rfl T.b_any (ex_newL (en_all (en_lc (own := [("share", 7)]) (tt := tYes) (g := (gName 7)) _ (fun (x5 : Rat) => (decide (x5.num < (0 : Int)))) (fun (x5 : Rat) => true) rfl sc_bound.nd (blkOk_by (N := ["rows", "unknowns", "settled", "goal", "paper", "prices", "shares", "share", "one", "price", "unknown", "found", "other"]) (sc := defScope s_bound) (by decide +kernel)) (R.ix_list (ex_var (i := 6) (x := shares_3) rfl)) v8 (tg_name (wipe_1 7)) (hww_1 7) (fun _ _ _ _ _ => pg_name (i := 7) sc_bound.nd rfl (Or.inl rfl)) (fun _ _ _ _ _ => pts_nil) (fun _ _ => et_yes) (fun x5 hx6 ht7 => fun _ _ _ _ _ => (ex_lt (ex_ixT (k := 0) (x := x5.num) (ex_var (i := 7) (x := x5) rfl) ex_int rfl) ex_int))))))) (fun hk49 => ?_) (fun hk49 => ?_)
    · replace hok := hok.1 hk49
      replace hR := cond_t (P := (outP Rp Xp)) hk49 hR
      change SX _ _ _ [Sl.dat rows_, Sl.dat unknowns_, Sl.dat settled_, Sl.dat goal_, Sl.dat paper_, Sl.dat prices_2, Sl.dat shares_3, _, _, _, _, _, _] _
      refine sx_raise rfl tk T.x_NoPaper ?_
      exact hR
    · replace hok := hok.2 hk49
      replace hR := cond_f (P := (outP Rp Xp)) hk49 hR
      change SX _ _ _ [Sl.dat rows_, Sl.dat unknowns_, Sl.dat settled_, Sl.dat goal_, Sl.dat paper_, Sl.dat prices_2, Sl.dat shares_3, _, _, _, _, _, _] _
      obtain ⟨hokL, hok'⟩ := hok
      refine sx_forR' (fun (s : Unit) (e : Env') => e) (st_bound_9 settled_ goal_ shares_3) (okb_bound_9 settled_ goal_ shares_3) () rfl (passes_of rfl) (ix_zip T.b_zip (ex_var (i := 0) (x := rows_) rfl) (ex_var (i := 5) (x := prices_2) rfl)) (by repeat' (first | exact trivial | refine ⟨.inr rfl, ?_⟩ | refine ⟨.inl rfl, ?_⟩)) hokL (fun x11 x11' s10 hok hrun15 => ?_) (fun s21 hgo22 => ?_)
      · let one_12 : (T5 (Dc (Rat)) (Str) (Rat) (Int) (Int)) := x11.1
        let price_13 : Rat := x11.2
        refine ⟨_, (gx_tup (p := x11) rfl (gxs_cons (gx_name (i := 8) (x := one_12) sc_bound.nd) (gxs_cons (gx_name (i := 9) (x := price_13) sc_bound.nd) gxs_nil))), ?_⟩
        have hRo14 := hR
        have hR : (st_bound_9 settled_ goal_ shares_3) s10 x11 = (st_bound_9 settled_ goal_ shares_3) s10 x11 := rfl
        change SX _ _ _ [Sl.dat rows_, Sl.dat unknowns_, Sl.dat settled_, Sl.dat goal_, Sl.dat paper_, Sl.dat prices_2, Sl.dat shares_3, _, Sl.dat one_12, Sl.dat price_13, _, _, _] _
        refine sx_ifr (k := (!(m_fits_kind one_12.b price_13))) (et_not (et_val (ex_call (n := "fits_kind") d_fits_kind (hr.mono (by decide)) (ea_cons (ex_ixT (k := 1) (x := one_12.b) (ex_var (i := 8) (x := one_12) rfl) ex_int rfl) (ea_cons (ex_var (i := 9) (x := price_13) rfl) ea_nil)) ⟨one_12.b, price_13, rfl, (okt_fits_kind one_12.b price_13), rfl⟩ (dvs := []) (dxs := []) (fun _ => trivial)))) (fun hk20 => ?_) (fun hk20 => ?_)
        · replace hok := hok.1 hk20
          replace hR := cond_t (P := (fun o => (st_bound_9 settled_ goal_ shares_3) s10 x11 = o)) hk20 hR
          change SX _ _ _ [Sl.dat rows_, Sl.dat unknowns_, Sl.dat settled_, Sl.dat goal_, Sl.dat paper_, Sl.dat prices_2, Sl.dat shares_3, _, Sl.dat one_12, Sl.dat price_13, _, _, _] _
          refine sx_raise rfl tk T.x_NoPaper ?_
          have hR := fin_ret (P := (outP Rp Xp)) (run_ret hrun15 hR) hRo14
          exact hR
        · replace hok := hok.2 hk20
          replace hR := cond_f (P := (fun o => (st_bound_9 settled_ goal_ shares_3) s10 x11 = o)) hk20 hR
          change SX _ _ _ [Sl.dat rows_, Sl.dat unknowns_, Sl.dat settled_, Sl.dat goal_, Sl.dat paper_, Sl.dat prices_2, Sl.dat shares_3, _, Sl.dat one_12, Sl.dat price_13, _, _, _] _
          obtain ⟨v17, v18, hok⟩ := hok
          refine sx_ifr (k := ((decide ((0 : Int) < one_12.d)) && (!(m_in_room price_13 (m_room_of one_12 settled_ goal_ shares_3))))) (et_bool (ew_and (et_gt (ex_ixT (k := 3) (x := one_12.d) (ex_var (i := 8) (x := one_12) rfl) ex_int rfl) ex_int) (fun hk16 => (ew_and1 (et_not (et_val (ex_call (n := "in_room") d_in_room (hr.mono (by decide)) (ea_cons (ex_var (i := 9) (x := price_13) rfl) (ea_cons (ex_call (n := "room_of") d_room_of (hr.mono (by decide)) (ea_cons (ex_var (i := 8) (x := one_12) rfl) (ea_cons (ex_var (i := 2) (x := settled_) rfl) (ea_cons (ex_var (i := 3) (x := goal_) rfl) (ea_cons (ex_var (i := 6) (x := shares_3) rfl) ea_nil)))) ⟨one_12, settled_, goal_, shares_3, rfl, (v17 hk16), rfl⟩ (dvs := []) (dxs := []) (fun _ => trivial)) ea_nil)) ⟨price_13, (m_room_of one_12 settled_ goal_ shares_3), rfl, (v18 hk16), rfl⟩ (dvs := []) (dxs := []) (fun _ => trivial)))))))) (fun hk19 => ?_) (fun hk19 => ?_)
          · replace hok := hok.1 hk19
            replace hR := cond_t (P := (fun o => (st_bound_9 settled_ goal_ shares_3) s10 x11 = o)) hk19 hR
            change SX _ _ _ [Sl.dat rows_, Sl.dat unknowns_, Sl.dat settled_, Sl.dat goal_, Sl.dat paper_, Sl.dat prices_2, Sl.dat shares_3, _, Sl.dat one_12, Sl.dat price_13, _, _, _] _
            refine sx_raise rfl tk T.x_NoPaper ?_
            have hR := fin_ret (P := (outP Rp Xp)) (run_ret hrun15 hR) hRo14
            exact hR
          · replace hok := hok.2 hk19
            replace hR := cond_f (P := (fun o => (st_bound_9 settled_ goal_ shares_3) s10 x11 = o)) hk19 hR
            change SX _ _ _ [Sl.dat rows_, Sl.dat unknowns_, Sl.dat settled_, Sl.dat goal_, Sl.dat paper_, Sl.dat prices_2, Sl.dat shares_3, _, Sl.dat one_12, Sl.dat price_13, _, _, _] _
            exact sx_nil ⟨_, hR, (by repeat' (first | exact trivial | refine ⟨.inr rfl, ?_⟩ | refine ⟨.inl rfl, ?_⟩))⟩
      · replace hok := hok' s21 hgo22
        clear hok'
        replace hR := fin_go (P := (outP Rp Xp)) hgo22 hR
        change SX _ _ _ [Sl.dat rows_, Sl.dat unknowns_, Sl.dat settled_, Sl.dat goal_, Sl.dat paper_, Sl.dat prices_2, Sl.dat shares_3, _, _, _, _, _, _] _
        obtain ⟨hokL, hok'⟩ := hok
        refine sx_forR' (fun (s : Unit) (e : Env') => e) (st_bound_23 rows_ settled_ goal_ prices_2 shares_3) (okb_bound_23 rows_ settled_ goal_ prices_2 shares_3) () rfl (passes_of rfl) (R.ix_list (ex_var (i := 1) (x := unknowns_) rfl)) (by repeat' (first | exact trivial | refine ⟨.inr rfl, ?_⟩ | refine ⟨.inl rfl, ?_⟩)) hokL (fun x25 x25' s24 hok hrun27 => ?_) (fun s32 hgo33 => ?_)
        · skip
          refine ⟨_, (gx_name (i := 10) (x := x25) sc_bound.nd), ?_⟩
          have hRo26 := hR
          have hR : (st_bound_23 rows_ settled_ goal_ prices_2 shares_3) s24 x25 = (st_bound_23 rows_ settled_ goal_ prices_2 shares_3) s24 x25 := rfl
          change SX _ _ _ [Sl.dat rows_, Sl.dat unknowns_, Sl.dat settled_, Sl.dat goal_, Sl.dat paper_, Sl.dat prices_2, Sl.dat shares_3, _, _, _, Sl.dat x25, _, _] _
          obtain ⟨v28, v29, v30, hok⟩ := hok
          refine sx_ifr (k := (m_under (m_side_of x25 settled_ goal_ shares_3) (m_asked_of rows_ prices_2 x25))) (et_val (ex_call (n := "under") d_under (hr.mono (by decide)) (ea_cons (ex_call (n := "side_of") d_side_of (hr.mono (by decide)) (ea_cons (ex_var (i := 10) (x := x25) rfl) (ea_cons (ex_var (i := 2) (x := settled_) rfl) (ea_cons (ex_var (i := 3) (x := goal_) rfl) (ea_cons (ex_var (i := 6) (x := shares_3) rfl) ea_nil)))) ⟨x25, settled_, goal_, shares_3, rfl, v28, rfl⟩ (dvs := []) (dxs := []) (fun _ => trivial)) (ea_cons (ex_call (n := "asked_of") d_asked_of (hr.mono (by decide)) (ea_cons (ex_var (i := 0) (x := rows_) rfl) (ea_cons (ex_var (i := 5) (x := prices_2) rfl) (ea_cons (ex_var (i := 10) (x := x25) rfl) ea_nil))) ⟨rows_, prices_2, x25, rfl, v29, rfl⟩ (dvs := []) (dxs := []) (fun _ => trivial)) ea_nil)) ⟨(m_side_of x25 settled_ goal_ shares_3), (m_asked_of rows_ prices_2 x25), rfl, v30, rfl⟩ (dvs := []) (dxs := []) (fun _ => trivial))) (fun hk31 => ?_) (fun hk31 => ?_)
          · replace hok := hok.1 hk31
            replace hR := cond_t (P := (fun o => (st_bound_23 rows_ settled_ goal_ prices_2 shares_3) s24 x25 = o)) hk31 hR
            change SX _ _ _ [Sl.dat rows_, Sl.dat unknowns_, Sl.dat settled_, Sl.dat goal_, Sl.dat paper_, Sl.dat prices_2, Sl.dat shares_3, _, _, _, Sl.dat x25, _, _] _
            refine sx_raise rfl tk T.x_NoPaper ?_
            have hR := fin_ret (P := (outP Rp Xp)) (run_ret hrun27 hR) hRo26
            exact hR
          · replace hok := hok.2 hk31
            replace hR := cond_f (P := (fun o => (st_bound_23 rows_ settled_ goal_ prices_2 shares_3) s24 x25 = o)) hk31 hR
            change SX _ _ _ [Sl.dat rows_, Sl.dat unknowns_, Sl.dat settled_, Sl.dat goal_, Sl.dat paper_, Sl.dat prices_2, Sl.dat shares_3, _, _, _, Sl.dat x25, _, _] _
            exact sx_nil ⟨_, hR, (by repeat' (first | exact trivial | refine ⟨.inr rfl, ?_⟩ | refine ⟨.inl rfl, ?_⟩))⟩
        · replace hok := hok' s32 hgo33
          clear hok'
          replace hR := fin_go (P := (outP Rp Xp)) hgo33 hR
          change SX _ _ _ [Sl.dat rows_, Sl.dat unknowns_, Sl.dat settled_, Sl.dat goal_, Sl.dat paper_, Sl.dat prices_2, Sl.dat shares_3, _, _, _, _, _, _] _
          obtain ⟨v35, hok⟩ := hok
          let found_34 : Rat := (m_asked_in_all rows_ prices_2)
          refine sx_set (i := 11) sc_bound.nd (x := found_34) (ex_call (n := "asked_in_all") d_asked_in_all (hr.mono (by decide)) (ea_cons (ex_var (i := 0) (x := rows_) rfl) (ea_cons (ex_var (i := 5) (x := prices_2) rfl) ea_nil)) ⟨rows_, prices_2, rfl, v35, rfl⟩ (dvs := []) (dxs := []) (fun _ => trivial)) ?_
          change SX _ _ _ [Sl.dat rows_, Sl.dat unknowns_, Sl.dat settled_, Sl.dat goal_, Sl.dat paper_, Sl.dat prices_2, Sl.dat shares_3, _, _, _, _, Sl.dat found_34, _] _
          obtain ⟨hokL, hok'⟩ := hok
          refine sx_forF' (fun (s : Rat) (e : Env') => (List.set e 11 (.dat s))) st_bound_36 okb_bound_36 found_34 rfl (passes_of rfl) (ix_zip T.b_zip (ex_var (i := 2) (x := settled_) rfl) (ex_var (i := 6) (x := shares_3) rfl)) (by repeat' (first | exact trivial | refine ⟨.inr rfl, ?_⟩ | refine ⟨.inl rfl, ?_⟩)) hokL (fun x38 s37 hok => ?_) ?_
          · let found_39 : Rat := s37
            let other_40 : (Key × Rat) := x38.1
            let share_41 : Rat := x38.2
            refine ⟨_, (gx_tup (p := x38) rfl (gxs_cons (gx_name (i := 12) (x := other_40) sc_bound.nd) (gxs_cons (gx_name (i := 7) (x := share_41) sc_bound.nd) gxs_nil))), ?_⟩
            change SX _ _ _ [Sl.dat rows_, Sl.dat unknowns_, Sl.dat settled_, Sl.dat goal_, Sl.dat paper_, Sl.dat prices_2, Sl.dat shares_3, Sl.dat share_41, _, _, _, Sl.dat found_39, Sl.dat other_40] _
            obtain ⟨v45, v46, hok⟩ := hok
            let found_44 : Rat := (m_minus found_39 (m_times share_41 other_40.2))
            refine sx_set (i := 11) sc_bound.nd (x := found_44) (ex_call (n := "minus") d_minus (hr.mono (by decide)) (ea_cons (ex_var (i := 11) (x := found_39) rfl) (ea_cons (ex_call (n := "times") d_times (hr.mono (by decide)) (ea_cons (ex_var (i := 7) (x := share_41) rfl) (ea_cons (ex_ixT (k := 1) (x := other_40.2) (ex_var (i := 12) (x := other_40) rfl) ex_int rfl) ea_nil)) ⟨share_41, other_40.2, rfl, v45, rfl⟩ (dvs := []) (dxs := []) (fun _ => trivial)) ea_nil)) ⟨found_39, (m_times share_41 other_40.2), rfl, v46, rfl⟩ (dvs := []) (dxs := []) (fun _ => trivial)) ?_
            change SX _ _ _ [Sl.dat rows_, Sl.dat unknowns_, Sl.dat settled_, Sl.dat goal_, Sl.dat paper_, Sl.dat prices_2, Sl.dat shares_3, Sl.dat share_41, _, _, _, Sl.dat found_44, Sl.dat other_40] _
            exact sx_nil (by repeat' (first | exact trivial | refine ⟨.inr rfl, ?_⟩ | refine ⟨.inl rfl, ?_⟩))
          · have hok := hok'
            clear hok'
            let j47 : Rat := List.foldl st_bound_36 found_34 (List.zip settled_ shares_3)
            let found_48 : Rat := j47
            change SX _ _ _ [Sl.dat rows_, Sl.dat unknowns_, Sl.dat settled_, Sl.dat goal_, Sl.dat paper_, Sl.dat prices_2, Sl.dat shares_3, _, _, _, _, Sl.dat found_48, _] _
            refine sx_ret (x := found_48) (ex_var (i := 11) (x := found_48) rfl) ?_
            exact hR
def ph_l_cell_at : Phi (Int) := fun args Rp Xp => ∃ (script_ : List Int) (k_ : Int), args = [.dat script_, .dat k_] ∧ ok_l_cell_at script_ k_ ∧ Rp (m_l_cell_at script_ k_)
abbrev s_l_cell_at : Stmt := topS 23
theorem sc_l_cell_at : FnScope ["_law_script", "_law_k"] ["_law_script", "_law_k"] (defScope s_l_cell_at) := ⟨rfl, rfl, rfl, by decide +kernel, rfl, by decide +kernel, by decide +kernel⟩
theorem w_l_cell_at {f : Addr} {fd : FuncData} (F : Fun K "_law_cell_at" "_law_cell_at" s_l_cell_at f fd) (T : Top K mg) : FnOk P w K mg base (L2.CX P w) 1 f fd ["_law_script", "_law_k"] (spP K mg 2 ph_l_cell_at) := by
  refine fn_ok F sc_l_cell_at rfl ?_
  rintro args Rp Xp ⟨script_, k_, rfl, hok, hR⟩ hl cdv A outer s H E W hr tk
  change SX _ _ _ [Sl.dat script_, Sl.dat k_] _
  refine sx_ifr (k := (decide (k_ < (script_.length : Int)))) (et_lt (ex_var (i := 1) (x := k_) rfl) (ex_len T.b_len (ex_var (i := 0) (x := script_) rfl))) (fun hk2 => ?_) (fun hk2 => ?_)
  · replace hok := hok.1 hk2
    replace hR := cond_t (P := Rp) hk2 hR
    change SX _ _ _ [Sl.dat script_, Sl.dat k_] _
    obtain ⟨v1, hok⟩ := hok
    refine sx_ret (x := (List.getD script_ (Int.toNat k_) (0 : Int))) (ex_ixD (ex_var (i := 0) (x := script_) rfl) (ex_var (i := 1) (x := k_) rfl) v1) ?_
    exact hR
  · replace hok := hok.2 hk2
    replace hR := cond_f (P := Rp) hk2 hR
    change SX _ _ _ [Sl.dat script_, Sl.dat k_] _
    refine sx_ret (x := (0 : Int)) ex_int ?_
    exact hR
def ph_l_mix : Phi (Int) := fun args Rp Xp => ∃ (cell_ : Int) (k_ : Int), args = [.dat cell_, .dat k_] ∧ ok_l_mix cell_ k_ ∧ Rp (m_l_mix cell_ k_)
abbrev s_l_mix : Stmt := topS 24
theorem sc_l_mix : FnScope ["_law_cell", "_law_k", "_law_number"] ["_law_cell", "_law_k"] (defScope s_l_mix) := ⟨rfl, rfl, rfl, by decide +kernel, rfl, by decide +kernel, by decide +kernel⟩
theorem w_l_mix {f : Addr} {fd : FuncData} (F : Fun K "_law_mix" "_law_mix" s_l_mix f fd) (T : Top K mg) : FnOk P w K mg base (L2.CX P w) 1 f fd ["_law_cell", "_law_k"] (spP K mg 2 ph_l_mix) := by
  refine fn_ok F sc_l_mix rfl ?_
  rintro args Rp Xp ⟨cell_, k_, rfl, hok, hR⟩ hl cdv A outer s H E W hr tk
  change SX _ _ _ [Sl.dat cell_, Sl.dat k_, _] _
  let number_1 : Int := (((((cell_ + ((7919 : Int) * k_)) + (1 : Int)) % (2147483647 : Int)) * (48271 : Int)) % (2147483647 : Int))
  refine sx_set (i := 2) sc_l_mix.nd (x := number_1) (ex_mod (ex_mul (ex_mod (ex_add (ex_add (ex_var (i := 0) (x := cell_) rfl) (ex_mul ex_int (ex_var (i := 1) (x := k_) rfl) (.inl ⟨by decide, by decide⟩))) ex_int) ex_int (by decide)) ex_int (.inr ⟨by decide, by decide⟩)) ex_int (by decide)) ?_
  change SX _ _ _ [Sl.dat cell_, Sl.dat k_, Sl.dat number_1] _
  obtain ⟨v3, hok⟩ := hok
  let number_2 : Int := ((number_1 * ((number_1 / (1009 : Int)) + (69621 : Int))) % (2147483647 : Int))
  refine sx_set (i := 2) sc_l_mix.nd (x := number_2) (ex_mod (ex_mulW (ex_var (i := 2) (x := number_1) rfl) (ex_add (ex_fdiv (ex_var (i := 2) (x := number_1) rfl) ex_int ⟨by decide, by decide⟩) ex_int) v3) ex_int (by decide)) ?_
  change SX _ _ _ [Sl.dat cell_, Sl.dat k_, Sl.dat number_2] _
  obtain ⟨v4, hok⟩ := hok
  refine sx_ret (x := ((number_2 * ((number_2 / (127 : Int)) + (30011 : Int))) % (2147483647 : Int))) (ex_mod (ex_mulW (ex_var (i := 2) (x := number_2) rfl) (ex_add (ex_fdiv (ex_var (i := 2) (x := number_2) rfl) ex_int ⟨by decide, by decide⟩) ex_int) v4) ex_int (by decide)) ?_
  exact hR
def ph_l_divisor : Phi (Int) := fun args Rp Xp => ∃ (one_ : Int) (other_ : Int), args = [.dat one_, .dat other_] ∧ ok_l_divisor one_ other_ ∧ Rp (m_l_divisor one_ other_)
abbrev s_l_divisor : Stmt := topS 25
theorem sc_l_divisor : FnScope ["_law_one", "_law_other"] ["_law_one", "_law_other"] (defScope s_l_divisor) := ⟨rfl, rfl, rfl, by decide +kernel, rfl, by decide +kernel, by decide +kernel⟩
theorem w_l_divisor {f : Addr} {fd : FuncData} (F : Fun K "_law_divisor" "_law_divisor" s_l_divisor f fd) (T : Top K mg) : FnOk P w K mg base (L2.CX P w) 1 f fd ["_law_one", "_law_other"] (spP K mg 2 ph_l_divisor) := by
  refine fn_ok F sc_l_divisor rfl ?_
  rintro args Rp Xp ⟨one_, other_, rfl, hok, hR⟩ hl cdv A outer s H E W hr tk
  refine sx_while (S := Int × Int) (fun s => [.dat s.1, .dat s.2]) (fun s => 0 ≤ s.2 ∧ Int.gcd s.1 s.2 = Int.gcd one_ other_) (fun s => s.2.toNat) (fun _ => False) (one_, other_) (passes_of rfl) (Sub.refl _) ⟨hok, rfl⟩ ?_ (fun e h => h.elim)
  rintro ⟨x, y⟩ ⟨h2, h3⟩
  refine ⟨_, et_ne (ex_var (i := 1) rfl) ex_int, fun hk => ?_, fun hk => ?_⟩
  · have hy : 0 < y := by simp at hk; have : (0 : Int) ≤ y := h2; omega
    refine sx_par (i := 0) (j := 1) rfl sc_l_divisor.nd (ea_cons (ex_var (i := 1) rfl) (ea_cons (ex_mod (ex_var (i := 0) rfl) (ex_var (i := 1) rfl) hy) ea_nil)) ?_
    refine sx_nil ⟨(y, x % y), Sub.refl _, ⟨Int.emod_nonneg _ (by omega), ?_⟩, ?_⟩
    · rw [← h3]; exact gcd_turn x y
    · have := Int.emod_lt_of_pos x hy
      have := Int.emod_nonneg x (show y ≠ 0 by omega)
      show (x % y).toNat < y.toNat
      omega
  · have hy : y = 0 := by simpa using hk
    subst hy
    have e : absI x = gcdI one_ other_ := by
      unfold gcdI
      rw [← h3]
      simp only [Int.gcd_zero_right]
      unfold absI
      split <;> omega
    refine sx_ret (x := gcdI one_ other_) (EX.eq (ex_abs T.b_abs (ex_var (i := 0) rfl)) e) ?_
    exact hR
def ph_l_lowest : Phi (Rat) := fun args Rp Xp => ∃ (top_ : Int) (bottom_ : Int), args = [.dat top_, .dat bottom_] ∧ ok_l_lowest top_ bottom_ ∧ Rp (m_l_lowest top_ bottom_)
abbrev s_l_lowest : Stmt := topS 26
theorem sc_l_lowest : FnScope ["_law_top", "_law_bottom", "_law_both"] ["_law_top", "_law_bottom"] (defScope s_l_lowest) := ⟨rfl, rfl, rfl, by decide +kernel, rfl, by decide +kernel, by decide +kernel⟩
theorem w_l_lowest {f : Addr} {fd : FuncData} (F : Fun K "_law_lowest" "_law_lowest" s_l_lowest f fd) (T : Top K mg) (d_l_divisor : DefOk P w K mg base "_law_divisor" 1 ["_law_one", "_law_other"] [] (spP K mg 2 ph_l_divisor)) : FnOk P w K mg base (L2.CX P w) 2 f fd ["_law_top", "_law_bottom"] (spP K mg 2 ph_l_lowest) := by
  refine fn_ok F sc_l_lowest rfl ?_
  rintro args Rp Xp ⟨top_, bottom_, rfl, hok, hR⟩ hl cdv A outer s H E W hr tk
  change SX _ _ _ [Sl.dat top_, Sl.dat bottom_, _] _
  obtain ⟨v2, hok⟩ := hok
  let both_1 : Int := (m_l_divisor top_ bottom_)
  refine sx_set (i := 2) sc_l_lowest.nd (x := both_1) (ex_call (n := "_law_divisor") d_l_divisor (hr.mono (by decide)) (ea_cons (ex_var (i := 0) (x := top_) rfl) (ea_cons (ex_var (i := 1) (x := bottom_) rfl) ea_nil)) ⟨top_, bottom_, rfl, v2, rfl⟩ (dvs := []) (dxs := []) (fun _ => trivial)) ?_
  change SX _ _ _ [Sl.dat top_, Sl.dat bottom_, Sl.dat both_1] _
  obtain ⟨v3, v4, v5, hok⟩ := hok
  refine sx_ret (x := (Rat.divInt ((top_ / both_1)) ((bottom_ / both_1)))) (ex_isQ (ex_tup (p := ((top_ / both_1), (bottom_ / both_1))) (ea_cons (ex_fdivW (ex_var (i := 0) (x := top_) rfl) (ex_var (i := 2) (x := both_1) rfl) v3) (ea_cons (ex_fdivW (ex_var (i := 1) (x := bottom_) rfl) (ex_var (i := 2) (x := both_1) rfl) v4) ea_nil))) v5) ?_
  exact hR
def ph_l_row : Phi ((T5 (Dc (Rat)) (Str) (Rat) (Int) (Int))) := fun args Rp Xp => ∃ (cell_ : Int), args = [.dat cell_] ∧ ok_l_row cell_ ∧ Rp (m_l_row cell_)
abbrev s_l_row : Stmt := topS 27
theorem sc_l_row : FnScope ["_law_cell", "_law_kind", "_law_number"] ["_law_cell"] (defScope s_l_row) := ⟨rfl, rfl, rfl, by decide +kernel, rfl, by decide +kernel, by decide +kernel⟩
theorem w_l_row {f : Addr} {fd : FuncData} (F : Fun K "_law_row" "_law_row" s_l_row f fd) (T : Top K mg) (d_l_lowest : DefOk P w K mg base "_law_lowest" 2 ["_law_top", "_law_bottom"] [] (spP K mg 2 ph_l_lowest)) (d_l_mix : DefOk P w K mg base "_law_mix" 1 ["_law_cell", "_law_k"] [] (spP K mg 2 ph_l_mix)) : FnOk P w K mg base (L2.CX P w) 3 f fd ["_law_cell"] (spP K mg 1 ph_l_row) := by
  refine fn_ok F sc_l_row rfl ?_
  rintro args Rp Xp ⟨cell_, rfl, hok, hR⟩ hl cdv A outer s H E W hr tk
  change SX _ _ _ [Sl.dat cell_, _, _] _
  obtain ⟨v2, v3, hok⟩ := hok
  let kind_1 : Str := (List.getD [(Str.ofString "least"), (Str.ofString "most"), (Str.ofString "just")] (Int.toNat ((m_l_mix cell_ (9 : Int)) % (3 : Int))) (Str.ofString ""))
  refine sx_set (i := 1) sc_l_row.nd (x := kind_1) (ex_ixD (ex_newL (en_lst (xs := [(Str.ofString "least"), (Str.ofString "most"), (Str.ofString "just")]) (ea_cons ex_str (ea_cons ex_str (ea_cons ex_str ea_nil))))) (ex_mod (ex_call (n := "_law_mix") d_l_mix (hr.mono (by decide)) (ea_cons (ex_var (i := 0) (x := cell_) rfl) (ea_cons ex_int ea_nil)) ⟨cell_, (9 : Int), rfl, v2, rfl⟩ (dvs := []) (dxs := []) (fun _ => trivial)) ex_int (by decide)) v3) ?_
  change SX _ _ _ [Sl.dat cell_, Sl.dat kind_1, _] _
  obtain ⟨v5, v6, v7, hok⟩ := hok
  let number_4 : Rat := (m_l_lowest (((m_l_mix cell_ (10 : Int)) % (19 : Int)) - (6 : Int)) ((1 : Int) + ((m_l_mix cell_ (13 : Int)) % (3 : Int))))
  refine sx_set (i := 2) sc_l_row.nd (x := number_4) (ex_call (n := "_law_lowest") d_l_lowest (hr.mono (by decide)) (ea_cons (ex_sub (ex_mod (ex_call (n := "_law_mix") d_l_mix (hr.mono (by decide)) (ea_cons (ex_var (i := 0) (x := cell_) rfl) (ea_cons ex_int ea_nil)) ⟨cell_, (10 : Int), rfl, v5, rfl⟩ (dvs := []) (dxs := []) (fun _ => trivial)) ex_int (by decide)) ex_int) (ea_cons (ex_add ex_int (ex_mod (ex_call (n := "_law_mix") d_l_mix (hr.mono (by decide)) (ea_cons (ex_var (i := 0) (x := cell_) rfl) (ea_cons ex_int ea_nil)) ⟨cell_, (13 : Int), rfl, v6, rfl⟩ (dvs := []) (dxs := []) (fun _ => trivial)) ex_int (by decide))) ea_nil)) ⟨(((m_l_mix cell_ (10 : Int)) % (19 : Int)) - (6 : Int)), ((1 : Int) + ((m_l_mix cell_ (13 : Int)) % (3 : Int))), rfl, v7, rfl⟩ (dvs := []) (dxs := []) (fun _ => trivial)) ?_
  change SX _ _ _ [Sl.dat cell_, Sl.dat kind_1, Sl.dat number_4] _
  obtain ⟨v8, v9, v10, v11, hok⟩ := hok
  refine sx_ret (x := (⟨(⟨[]⟩ : Dc (Rat)), kind_1, number_4, ((m_l_mix cell_ (11 : Int)) % (5 : Int)), ((1 : Int) + ((m_l_mix cell_ (12 : Int)) % (List.getD [(9 : Int), (1000000 : Int)] (Int.toNat (cell_ % (2 : Int))) (0 : Int))))⟩ : (T5 (Dc (Rat)) (Str) (Rat) (Int) (Int)))) (ex_tup (p := (⟨(⟨[]⟩ : Dc (Rat)), kind_1, number_4, ((m_l_mix cell_ (11 : Int)) % (5 : Int)), ((1 : Int) + ((m_l_mix cell_ (12 : Int)) % (List.getD [(9 : Int), (1000000 : Int)] (Int.toNat (cell_ % (2 : Int))) (0 : Int))))⟩ : (T5 (Dc (Rat)) (Str) (Rat) (Int) (Int)))) (ea_cons (ex_newD (en_dnew (α := Rat))) (ea_cons (ex_var (i := 1) (x := kind_1) rfl) (ea_cons (ex_var (i := 2) (x := number_4) rfl) (ea_cons (ex_mod (ex_call (n := "_law_mix") d_l_mix (hr.mono (by decide)) (ea_cons (ex_var (i := 0) (x := cell_) rfl) (ea_cons ex_int ea_nil)) ⟨cell_, (11 : Int), rfl, v8, rfl⟩ (dvs := []) (dxs := []) (fun _ => trivial)) ex_int (by decide)) (ea_cons (ex_add ex_int (ex_mod (ex_call (n := "_law_mix") d_l_mix (hr.mono (by decide)) (ea_cons (ex_var (i := 0) (x := cell_) rfl) (ea_cons ex_int ea_nil)) ⟨cell_, (12 : Int), rfl, v9, rfl⟩ (dvs := []) (dxs := []) (fun _ => trivial)) (ex_ixD (ex_newL (en_lst (xs := [(9 : Int), (1000000 : Int)]) (ea_cons ex_int (ea_cons (EX.eq (x' := (1000000 : Int)) (ex_pow ex_int ex_int ⟨by decide, by decide, by decide⟩) (by decide)) ea_nil)))) (ex_mod (ex_var (i := 0) (x := cell_) rfl) ex_int (by decide)) v10) v11)) ea_nil)))))) ?_
  exact hR
def ph_l_room : Phi (Int) := fun args Rp Xp => ∃ (one_ : (T5 (Dc (Rat)) (Str) (Rat) (Int) (Int))) (goal_ : Key) (settled_ : List ((Key × Rat))), args = [.dat one_, .dat goal_, .dat settled_] ∧ ok_l_room one_ goal_ settled_ ∧ Rp (m_l_room one_ goal_ settled_)
abbrev s_l_room : Stmt := topS 28
theorem sc_l_room : FnScope ["_law_one", "_law_goal", "_law_settled", "_law_often", "_law_pair"] ["_law_one", "_law_goal", "_law_settled"] (defScope s_l_room) := ⟨rfl, rfl, rfl, by decide +kernel, rfl, by decide +kernel, by decide +kernel⟩
theorem w_l_room {f : Addr} {fd : FuncData} (F : Fun K "_law_room" "_law_room" s_l_room f fd) (T : Top K mg) : FnOk P w K mg base (L2.CX P w) 1 f fd ["_law_one", "_law_goal", "_law_settled"] (spP K mg 3 ph_l_room) := by
  refine fn_ok F sc_l_room rfl ?_
  rintro args Rp Xp ⟨one_, goal_, settled_, rfl, hok, hR⟩ hl cdv A outer s H E W hr tk
  change SX _ _ _ [Sl.dat one_, Sl.dat goal_, Sl.dat settled_, _, _] _
  obtain ⟨v5, hok⟩ := hok
  let often_1 : Int := (((List.filter (fun (x2 : (Key × Rat)) => (decide (x2.1 = (Sum.inl one_.d : Key)))) settled_).map (fun (x2 : (Key × Rat)) => x2)).length : Int)
  refine sx_set (i := 3) sc_l_room.nd (x := often_1) (ex_len T.b_len (ex_newL (en_lc (own := [("_law_pair", 4)]) (tt := (tTb _ _ _)) (g := (gName 4)) _ (fun (x2 : (Key × Rat)) => x2) (fun (x2 : (Key × Rat)) => (decide (x2.1 = (Sum.inl one_.d : Key)))) rfl sc_l_room.nd (blkOk_by (N := ["_law_one", "_law_goal", "_law_settled", "_law_often", "_law_pair"]) (sc := defScope s_l_room) (by decide +kernel)) (R.ix_list (ex_var (i := 2) (x := settled_) rfl)) v5 (tg_name (wipe_1 4)) (hww_1 4) (fun _ _ _ _ _ => pg_name (i := 4) sc_l_room.nd rfl (Or.inl rfl)) (fun s' H' C' cl' fp' => mTb s' H' C' cl' fp') (fun x2 hx3 => et_b (fun _ _ _ _ _ => (et_eq (ex_ixT (k := 0) (x := x2.1) (ex_var (i := 4) (x := x2) rfl) ex_int rfl) (ex_keyI (ex_ixT (k := 3) (x := one_.d) (ex_var (i := 0) (x := one_) rfl) ex_int rfl))))) (fun x2 hx3 ht4 => fun _ _ _ _ _ => (ex_var (i := 4) (x := x2) rfl))))) ?_
  change SX _ _ _ [Sl.dat one_, Sl.dat goal_, Sl.dat settled_, Sl.dat often_1, _] _
  obtain ⟨hok1, hok2, hok⟩ := hok
  refine sx_ifj' (k := (decide (goal_ = (Sum.inl one_.d : Key)))) (fun (s : Int) (e : Env') => (List.set e 3 (.dat s))) ((let often_6 : Int := (often_1 + (1 : Int)); often_6) : Int) (often_1 : Int) (et_eq (ex_var (i := 1) (x := goal_) rfl) (ex_keyI (ex_ixT (k := 3) (x := one_.d) (ex_var (i := 0) (x := one_) rfl) ex_int rfl))) (fun hk7 => ?_) (fun hk7 => ?_) ?_
  · replace hok := hok1 hk7
    change SX _ _ _ [Sl.dat one_, Sl.dat goal_, Sl.dat settled_, Sl.dat often_1, _] _
    let often_6 : Int := (often_1 + (1 : Int))
    refine sx_set (i := 3) sc_l_room.nd (x := often_6) (ex_add (ex_var (i := 3) (x := often_1) rfl) ex_int) ?_
    change SX _ _ _ [Sl.dat one_, Sl.dat goal_, Sl.dat settled_, Sl.dat often_6, _] _
    exact sx_nil (by repeat' (first | exact trivial | refine ⟨.inr rfl, ?_⟩ | refine ⟨.inl rfl, ?_⟩))
  · replace hok := hok2 hk7
    change SX _ _ _ [Sl.dat one_, Sl.dat goal_, Sl.dat settled_, Sl.dat often_1, _] _
    exact sx_nil (by repeat' (first | exact trivial | refine ⟨.inr rfl, ?_⟩ | refine ⟨.inl rfl, ?_⟩))
  let j8 : Int := cond (decide (goal_ = (Sum.inl one_.d : Key))) (let often_6 : Int := (often_1 + (1 : Int)); often_6) often_1
  let often_9 : Int := j8
  change SX _ _ _ [Sl.dat one_, Sl.dat goal_, Sl.dat settled_, Sl.dat often_9, _] _
  obtain ⟨v10, hok⟩ := hok
  refine sx_ret (x := (one_.e * often_9)) (ex_mulW (ex_ixT (k := 4) (x := one_.e) (ex_var (i := 0) (x := one_) rfl) ex_int rfl) (ex_var (i := 3) (x := often_9) rfl) v10) ?_
  exact hR
def ph_l_word : Phi (Str) := fun args Rp Xp => ∃ (rows_ : List ((T5 (Dc (Rat)) (Str) (Rat) (Int) (Int)))) (some_ : List Str) (settled_ : List ((Key × Rat))) (goal_ : Key) (prices_ : List Rat) (shares_ : List Rat), args = [.dat rows_, .dat some_, .dat settled_, .dat goal_, .dat prices_, .dat shares_] ∧ ok_l_word rows_ some_ settled_ goal_ prices_ shares_ ∧ Rp (m_l_word rows_ some_ settled_ goal_ prices_ shares_)
abbrev s_l_word : Stmt := topS 29
theorem sc_l_word : FnScope ["_law_rows", "_law_some", "_law_settled", "_law_goal", "_law_prices", "_law_shares", "_law_word_here", "e"] ["_law_rows", "_law_some", "_law_settled", "_law_goal", "_law_prices", "_law_shares"] (defScope s_l_word) := ⟨rfl, rfl, rfl, by decide +kernel, rfl, by decide +kernel, by decide +kernel⟩
theorem w_l_word {f : Addr} {fd : FuncData} (F : Fun K "_law_word" "_law_word" s_l_word f fd) (T : Top K mg) (d_bound : DefOk P w K mg base "bound" 5 ["rows", "unknowns", "settled", "goal", "paper"] [] (spP K mg 5 ph_bound)) : FnOk P w K mg base (L2.CX P w) 6 f fd ["_law_rows", "_law_some", "_law_settled", "_law_goal", "_law_prices", "_law_shares"] (spP K mg 6 ph_l_word) := by
  refine fn_ok F sc_l_word rfl ?_
  rintro args Rp Xp ⟨rows_, some_, settled_, goal_, prices_, shares_, rfl, hok, hR⟩ hl cdv A outer s H E W hr tk
  change SX _ _ _ [Sl.dat rows_, Sl.dat some_, Sl.dat settled_, Sl.dat goal_, Sl.dat prices_, Sl.dat shares_, _, _] _
  let word_here_1 : Str := (Str.ofString "")
  refine sx_set (i := 6) sc_l_word.nd (x := word_here_1) ex_str ?_
  change SX _ _ _ [Sl.dat rows_, Sl.dat some_, Sl.dat settled_, Sl.dat goal_, Sl.dat prices_, Sl.dat shares_, Sl.dat word_here_1, _] _
  obtain ⟨hv, hok1, hok2, hok⟩ := hok
  refine sx_tryO' (all := [("FrameError" : Str), ("NoPart" : Str), ("NoRank" : Str), ("NoPaper" : Str), ("Clash" : Str)]) (some' := [("NoPaper" : Str)]) (fun (s : Str) (e : Env') => (List.set e 6 (.dat s))) (((m_bound rows_ some_ settled_ goal_ (prices_, shares_)).bind (fun r3 => (.ok word_here_1))) : Except Exn (Str)) (fun (e5 : Exn) => (let word_here_7 : Str := (Str.ofString "none"); word_here_7)) rfl rfl T.c_NoPaper tk hv (fun W' pn xe tk' hp' => ?_) (fun e5 hm6 ad oe cls d pn hz hfd => ?_) ?_
  · have hok := hok1
    have hR : (outP (fun s => (((m_bound rows_ some_ settled_ goal_ (prices_, shares_)).bind (fun r3 => (.ok word_here_1))) : Except Exn (Str)) = .ok s) (fun e => (((m_bound rows_ some_ settled_ goal_ (prices_, shares_)).bind (fun r3 => (.ok word_here_1))) : Except Exn (Str)) = .error e)) (((m_bound rows_ some_ settled_ goal_ (prices_, shares_)).bind (fun r3 => (.ok word_here_1))) : Except Exn (Str)) := outP_self
    change SX _ _ _ [Sl.dat rows_, Sl.dat some_, Sl.dat settled_, Sl.dat goal_, Sl.dat prices_, Sl.dat shares_, Sl.dat word_here_1, _] _
    obtain ⟨v2, hok⟩ := hok
    refine sx_exprX (exx_call (n := "bound") tk' d_bound (hr.mono (by decide)) (ea_cons (ex_newL (en_list T.b_list (ex_var (i := 0) (x := rows_) rfl))) (ea_cons (ex_newL (en_list T.b_list (ex_var (i := 1) (x := some_) rfl))) (ea_cons (ex_newL (en_list T.b_list (ex_var (i := 2) (x := settled_) rfl))) (ea_cons (ex_var (i := 3) (x := goal_) rfl) (ea_cons (ex_tup (p := (prices_, shares_)) (ea_cons (ex_newL (en_list T.b_list (ex_var (i := 4) (x := prices_) rfl))) (ea_cons (ex_newL (en_list T.b_list (ex_var (i := 5) (x := shares_) rfl))) ea_nil))) ea_nil))))) ⟨rows_, some_, settled_, goal_, (prices_, shares_), rfl, v2, outP_self⟩) (fun r3 hx4 => ?_) (fun x hx => ?_)
    · replace hok := hok r3 hx4
      replace hR := bind_ok hx4 hR
      change SX _ _ _ [Sl.dat rows_, Sl.dat some_, Sl.dat settled_, Sl.dat goal_, Sl.dat prices_, Sl.dat shares_, Sl.dat word_here_1, _] _
      exact sx_nil ⟨_, hR, (by repeat' (first | exact trivial | refine ⟨.inr rfl, ?_⟩ | refine ⟨.inl rfl, ?_⟩))⟩
    · exact ⟨bind_err hx hR, rfl⟩
  · replace hok := hok2 e5 hm6
    change SX _ _ _ [Sl.dat rows_, Sl.dat some_, Sl.dat settled_, Sl.dat goal_, Sl.dat prices_, Sl.dat shares_, Sl.dat word_here_1, _] _
    let word_here_7 : Str := (Str.ofString "none")
    refine sx_set (i := 6) sc_l_word.nd (x := word_here_7) ex_str ?_
    change SX _ _ _ [Sl.dat rows_, Sl.dat some_, Sl.dat settled_, Sl.dat goal_, Sl.dat prices_, Sl.dat shares_, Sl.dat word_here_7, _] _
    exact sx_nil (by repeat' (first | exact trivial | refine ⟨.inr rfl, ?_⟩ | refine ⟨.inl rfl, ?_⟩))
  · skip
    let j8 : Str := tryV (((m_bound rows_ some_ settled_ goal_ (prices_, shares_)).bind (fun r3 => (.ok word_here_1))) : Except Exn (Str)) (fun (e5 : Exn) => (let word_here_7 : Str := (Str.ofString "none"); word_here_7))
    let word_here_9 : Str := j8
    change SX _ _ _ [Sl.dat rows_, Sl.dat some_, Sl.dat settled_, Sl.dat goal_, Sl.dat prices_, Sl.dat shares_, Sl.dat word_here_9, _] _
    obtain ⟨hok1, hok2, hok⟩ := hok
    refine sx_ifj' (k := (decide (word_here_9 = (Str.ofString "none")))) (fun (s : Str) (e : Env') => (List.set e 6 (.dat s))) ((let j22 : Str := tryV (((m_bound rows_ some_ settled_ goal_ (prices_, shares_)).bind (fun r11 => (.ok word_here_9))) : Except Exn (Str)) (fun (e13 : Exn) => (let j20 : Str := cond ((exnIn [("Clash" : Str)] e13 || exnIn [("NoRank" : Str)] e13) || (!(exnIn [("NoPaper" : Str)] e13))) (let word_here_18 : Str := (Str.ofString "other"); word_here_18) word_here_9; let word_here_21 : Str := j20; word_here_21)); let word_here_23 : Str := j22; word_here_23) : Str) (word_here_9 : Str) (et_eq (ex_var (i := 6) (x := word_here_9) rfl) ex_str) (fun hk24 => ?_) (fun hk24 => ?_) ?_
    · replace hok := hok1 hk24
      change SX _ _ _ [Sl.dat rows_, Sl.dat some_, Sl.dat settled_, Sl.dat goal_, Sl.dat prices_, Sl.dat shares_, Sl.dat word_here_9, _] _
      obtain ⟨hv, hok1, hok2, hok⟩ := hok
      refine sx_tryA' (i := 7) (all := [("FrameError" : Str), ("NoPart" : Str), ("NoRank" : Str), ("NoPaper" : Str), ("Clash" : Str)]) (some' := [("FrameError" : Str), ("NoPart" : Str), ("NoRank" : Str), ("NoPaper" : Str), ("Clash" : Str)]) (fun (s : Str) (e : Env') => (List.set e 6 (.dat s))) (((m_bound rows_ some_ settled_ goal_ (prices_, shares_)).bind (fun r11 => (.ok word_here_9))) : Except Exn (Str)) (fun (e13 : Exn) => (let j20 : Str := cond ((exnIn [("Clash" : Str)] e13 || exnIn [("NoRank" : Str)] e13) || (!(exnIn [("NoPaper" : Str)] e13))) (let word_here_18 : Str := (Str.ofString "other"); word_here_18) word_here_9; let word_here_21 : Str := j20; word_here_21)) sc_l_word.nd rfl rfl T.c_FrameError tk hv (fun W' pn xe tk' hp' => ?_) (fun e13 hm14 ad oe cls d pn Hf hz hfd xa => ?_) (fun _ _ _ h => h) ?_
      · have hok := hok1
        have hR : (outP (fun s => (((m_bound rows_ some_ settled_ goal_ (prices_, shares_)).bind (fun r11 => (.ok word_here_9))) : Except Exn (Str)) = .ok s) (fun e => (((m_bound rows_ some_ settled_ goal_ (prices_, shares_)).bind (fun r11 => (.ok word_here_9))) : Except Exn (Str)) = .error e)) (((m_bound rows_ some_ settled_ goal_ (prices_, shares_)).bind (fun r11 => (.ok word_here_9))) : Except Exn (Str)) := outP_self
        change SX _ _ _ [Sl.dat rows_, Sl.dat some_, Sl.dat settled_, Sl.dat goal_, Sl.dat prices_, Sl.dat shares_, Sl.dat word_here_9, _] _
        obtain ⟨v10, hok⟩ := hok
        refine sx_exprX (exx_call (n := "bound") tk' d_bound (hr.mono (by decide)) (ea_cons (ex_var (i := 0) (x := rows_) rfl) (ea_cons (ex_var (i := 1) (x := some_) rfl) (ea_cons (ex_var (i := 2) (x := settled_) rfl) (ea_cons (ex_var (i := 3) (x := goal_) rfl) (ea_cons (ex_tup (p := (prices_, shares_)) (ea_cons (ex_var (i := 4) (x := prices_) rfl) (ea_cons (ex_var (i := 5) (x := shares_) rfl) ea_nil))) ea_nil))))) ⟨rows_, some_, settled_, goal_, (prices_, shares_), rfl, v10, outP_self⟩) (fun r11 hx12 => ?_) (fun x hx => ?_)
        · replace hok := hok r11 hx12
          replace hR := bind_ok hx12 hR
          change SX _ _ _ [Sl.dat rows_, Sl.dat some_, Sl.dat settled_, Sl.dat goal_, Sl.dat prices_, Sl.dat shares_, Sl.dat word_here_9, _] _
          exact sx_nil ⟨_, hR, (by repeat' (first | exact trivial | refine ⟨.inr rfl, ?_⟩ | refine ⟨.inl rfl, ?_⟩))⟩
        · exact ⟨bind_err hx hR, rfl⟩
      · replace hok := hok2 e13 hm14
        change SX _ _ _ [Sl.dat rows_, Sl.dat some_, Sl.dat settled_, Sl.dat goal_, Sl.dat prices_, Sl.dat shares_, Sl.dat word_here_9, Sl.dat (ExV.mk ad)] _
        obtain ⟨v15, v17, hok⟩ := hok
        obtain ⟨hok1, hok2, hok⟩ := hok
        refine sx_ifj' (k := ((exnIn [("Clash" : Str)] e13 || exnIn [("NoRank" : Str)] e13) || (!(exnIn [("NoPaper" : Str)] e13)))) (fun (s : Str) (e : Env') => (List.set e 6 (.dat s))) ((let word_here_18 : Str := (Str.ofString "other"); word_here_18) : Str) (word_here_9 : Str) (et_bool (ew_or (et_val (ex_isE2 (i := 7) T.i_Clash T.i_NoRank T.b_isinstance (hv e13 hm14).1 v15 hz hfd xa rfl)) (fun hk16 => (ew_or1 (et_not (et_val (ex_isE (i := 7) T.i_NoPaper T.b_isinstance (hv e13 hm14).1 (v17 hk16) hz hfd xa rfl))))))) (fun hk19 => ?_) (fun hk19 => ?_) ?_
        · replace hok := hok1 hk19
          change SX _ _ _ [Sl.dat rows_, Sl.dat some_, Sl.dat settled_, Sl.dat goal_, Sl.dat prices_, Sl.dat shares_, Sl.dat word_here_9, Sl.dat (ExV.mk ad)] _
          let word_here_18 : Str := (Str.ofString "other")
          refine sx_set (i := 6) sc_l_word.nd (x := word_here_18) ex_str ?_
          change SX _ _ _ [Sl.dat rows_, Sl.dat some_, Sl.dat settled_, Sl.dat goal_, Sl.dat prices_, Sl.dat shares_, Sl.dat word_here_18, Sl.dat (ExV.mk ad)] _
          exact sx_nil (by repeat' (first | exact trivial | refine ⟨.inr rfl, ?_⟩ | refine ⟨.inl rfl, ?_⟩))
        · replace hok := hok2 hk19
          change SX _ _ _ [Sl.dat rows_, Sl.dat some_, Sl.dat settled_, Sl.dat goal_, Sl.dat prices_, Sl.dat shares_, Sl.dat word_here_9, Sl.dat (ExV.mk ad)] _
          exact sx_nil (by repeat' (first | exact trivial | refine ⟨.inr rfl, ?_⟩ | refine ⟨.inl rfl, ?_⟩))
        let j20 : Str := cond ((exnIn [("Clash" : Str)] e13 || exnIn [("NoRank" : Str)] e13) || (!(exnIn [("NoPaper" : Str)] e13))) (let word_here_18 : Str := (Str.ofString "other"); word_here_18) word_here_9
        let word_here_21 : Str := j20
        change SX _ _ _ [Sl.dat rows_, Sl.dat some_, Sl.dat settled_, Sl.dat goal_, Sl.dat prices_, Sl.dat shares_, Sl.dat word_here_21, Sl.dat (ExV.mk ad)] _
        exact sx_nil (by repeat' (first | exact trivial | refine ⟨.inr rfl, ?_⟩ | refine ⟨.inl rfl, ?_⟩))
      · skip
        let j22 : Str := tryV (((m_bound rows_ some_ settled_ goal_ (prices_, shares_)).bind (fun r11 => (.ok word_here_9))) : Except Exn (Str)) (fun (e13 : Exn) => (let j20 : Str := cond ((exnIn [("Clash" : Str)] e13 || exnIn [("NoRank" : Str)] e13) || (!(exnIn [("NoPaper" : Str)] e13))) (let word_here_18 : Str := (Str.ofString "other"); word_here_18) word_here_9; let word_here_21 : Str := j20; word_here_21))
        let word_here_23 : Str := j22
        change SX _ _ _ [Sl.dat rows_, Sl.dat some_, Sl.dat settled_, Sl.dat goal_, Sl.dat prices_, Sl.dat shares_, Sl.dat word_here_23, _] _
        exact sx_nil (by repeat' (first | exact trivial | refine ⟨.inr rfl, ?_⟩ | refine ⟨.inl rfl, ?_⟩))
    · replace hok := hok2 hk24
      change SX _ _ _ [Sl.dat rows_, Sl.dat some_, Sl.dat settled_, Sl.dat goal_, Sl.dat prices_, Sl.dat shares_, Sl.dat word_here_9, _] _
      exact sx_nil (by repeat' (first | exact trivial | refine ⟨.inr rfl, ?_⟩ | refine ⟨.inl rfl, ?_⟩))
    let j25 : Str := cond (decide (word_here_9 = (Str.ofString "none"))) (let j22 : Str := tryV (((m_bound rows_ some_ settled_ goal_ (prices_, shares_)).bind (fun r11 => (.ok word_here_9))) : Except Exn (Str)) (fun (e13 : Exn) => (let j20 : Str := cond ((exnIn [("Clash" : Str)] e13 || exnIn [("NoRank" : Str)] e13) || (!(exnIn [("NoPaper" : Str)] e13))) (let word_here_18 : Str := (Str.ofString "other"); word_here_18) word_here_9; let word_here_21 : Str := j20; word_here_21)); let word_here_23 : Str := j22; word_here_23) word_here_9
    let word_here_26 : Str := j25
    change SX _ _ _ [Sl.dat rows_, Sl.dat some_, Sl.dat settled_, Sl.dat goal_, Sl.dat prices_, Sl.dat shares_, Sl.dat word_here_26, _] _
    refine sx_ret (x := word_here_26) (ex_var (i := 6) (x := word_here_26) rfl) ?_
    exact hR
def ph_l_counts : Phi ((List Rat × List Rat)) := fun args Rp Xp => ∃ (prices_ : List Rat) (shares_ : List Rat) (way_ : Int), args = [.dat prices_, .dat shares_, .dat way_] ∧ ok_l_counts prices_ shares_ way_ ∧ Rp (m_l_counts prices_ shares_ way_)
abbrev s_l_counts : Stmt := topS 30
theorem sc_l_counts : FnScope ["_law_prices", "_law_shares", "_law_way"] ["_law_prices", "_law_shares", "_law_way"] (defScope s_l_counts) := ⟨rfl, rfl, rfl, by decide +kernel, rfl, by decide +kernel, by decide +kernel⟩
theorem w_l_counts {f : Addr} {fd : FuncData} (F : Fun K "_law_counts" "_law_counts" s_l_counts f fd) (T : Top K mg) : FnOk P w K mg base (L2.CX P w) 1 f fd ["_law_prices", "_law_shares", "_law_way"] (spP K mg 3 ph_l_counts) := by
  refine fn_ok F sc_l_counts rfl ?_
  rintro args Rp Xp ⟨prices_, shares_, way_, rfl, hok, hR⟩ hl cdv A outer s H E W hr tk
  change SX _ _ _ [Sl.dat prices_, Sl.dat shares_, Sl.dat way_] _
  refine sx_ifr (k := (decide (way_ = (0 : Int)))) (et_eq (ex_var (i := 2) (x := way_) rfl) ex_int) (fun hk5 => ?_) (fun hk5 => ?_)
  · replace hok := hok.1 hk5
    replace hR := cond_t (P := Rp) hk5 hR
    change SX _ _ _ [Sl.dat prices_, Sl.dat shares_, Sl.dat way_] _
    obtain ⟨v1, hok⟩ := hok
    refine sx_ret (x := ((prices_ ++ [(0 : Rat)]), shares_)) (ex_tup (p := ((prices_ ++ [(0 : Rat)]), shares_)) (ea_cons (ex_newL (en_cat (ex_var (i := 0) (x := prices_) rfl) (ex_newL (en_lst (xs := [(0 : Rat)]) (ea_cons (ex_rat (q := (0 : Rat)) (ex_tup (p := ((0 : Int), (1 : Int))) (ea_cons ex_int (ea_cons ex_int ea_nil))) (by decide) (by decide)) ea_nil))) v1)) (ea_cons (ex_var (i := 1) (x := shares_) rfl) ea_nil))) ?_
    exact hR
  · replace hok := hok.2 hk5
    replace hR := cond_f (P := Rp) hk5 hR
    change SX _ _ _ [Sl.dat prices_, Sl.dat shares_, Sl.dat way_] _
    refine sx_ifr (k := (decide (way_ = (1 : Int)))) (et_eq (ex_var (i := 2) (x := way_) rfl) ex_int) (fun hk4 => ?_) (fun hk4 => ?_)
    · replace hok := hok.1 hk4
      replace hR := cond_t (P := Rp) hk4 hR
      change SX _ _ _ [Sl.dat prices_, Sl.dat shares_, Sl.dat way_] _
      refine sx_ret (x := ((cutL prices_ (some (1 : Int)) none), shares_)) (ex_tup (p := ((cutL prices_ (some (1 : Int)) none), shares_)) (ea_cons (ex_newL (en_slice (ex_var (i := 0) (x := prices_) rfl) (exo_some ex_int) exo_none)) (ea_cons (ex_var (i := 1) (x := shares_) rfl) ea_nil))) ?_
      exact hR
    · replace hok := hok.2 hk4
      replace hR := cond_f (P := Rp) hk4 hR
      change SX _ _ _ [Sl.dat prices_, Sl.dat shares_, Sl.dat way_] _
      refine sx_ifr (k := (decide (way_ = (2 : Int)))) (et_eq (ex_var (i := 2) (x := way_) rfl) ex_int) (fun hk3 => ?_) (fun hk3 => ?_)
      · replace hok := hok.1 hk3
        replace hR := cond_t (P := Rp) hk3 hR
        change SX _ _ _ [Sl.dat prices_, Sl.dat shares_, Sl.dat way_] _
        obtain ⟨v2, hok⟩ := hok
        refine sx_ret (x := (prices_, (shares_ ++ [(0 : Rat)]))) (ex_tup (p := (prices_, (shares_ ++ [(0 : Rat)]))) (ea_cons (ex_var (i := 0) (x := prices_) rfl) (ea_cons (ex_newL (en_cat (ex_var (i := 1) (x := shares_) rfl) (ex_newL (en_lst (xs := [(0 : Rat)]) (ea_cons (ex_rat (q := (0 : Rat)) (ex_tup (p := ((0 : Int), (1 : Int))) (ea_cons ex_int (ea_cons ex_int ea_nil))) (by decide) (by decide)) ea_nil))) v2)) ea_nil))) ?_
        exact hR
      · replace hok := hok.2 hk3
        replace hR := cond_f (P := Rp) hk3 hR
        change SX _ _ _ [Sl.dat prices_, Sl.dat shares_, Sl.dat way_] _
        refine sx_ret (x := (prices_, (cutL shares_ none (some (-1 : Int))))) (ex_tup (p := (prices_, (cutL shares_ none (some (-1 : Int))))) (ea_cons (ex_var (i := 0) (x := prices_) rfl) (ea_cons (ex_newL (en_slice (ex_var (i := 1) (x := shares_) rfl) exo_none (exo_some (EX.eq (x' := (-1 : Int)) (ex_neg ex_int) (by decide))))) ea_nil))) ?_
        exact hR
def ph_l_priced : Phi ((Rat × Bool)) := fun args Rp Xp => ∃ (one_ : (T5 (Dc (Rat)) (Str) (Rat) (Int) (Int))) (room_here_ : Int) (mixed_ : Int), args = [.dat one_, .dat room_here_, .dat mixed_] ∧ ok_l_priced one_ room_here_ mixed_ ∧ Rp (m_l_priced one_ room_here_ mixed_)
abbrev s_l_priced : Stmt := topS 31
theorem sc_l_priced : FnScope ["_law_one", "_law_room_here", "_law_mixed", "_law_beyond", "_law_price", "_law_wrong"] ["_law_one", "_law_room_here", "_law_mixed"] (defScope s_l_priced) := ⟨rfl, rfl, rfl, by decide +kernel, rfl, by decide +kernel, by decide +kernel⟩
theorem w_l_priced {f : Addr} {fd : FuncData} (F : Fun K "_law_priced" "_law_priced" s_l_priced f fd) (T : Top K mg) (d_l_lowest : DefOk P w K mg base "_law_lowest" 2 ["_law_top", "_law_bottom"] [] (spP K mg 2 ph_l_lowest)) : FnOk P w K mg base (L2.CX P w) 3 f fd ["_law_one", "_law_room_here", "_law_mixed"] (spP K mg 3 ph_l_priced) := by
  refine fn_ok F sc_l_priced rfl ?_
  rintro args Rp Xp ⟨one_, room_here_, mixed_, rfl, hok, hR⟩ hl cdv A outer s H E W hr tk
  change SX _ _ _ [Sl.dat one_, Sl.dat room_here_, Sl.dat mixed_, _, _, _] _
  let beyond_1 : Int := ((mixed_ / (8 : Int)) % (2 : Int))
  refine sx_set (i := 3) sc_l_priced.nd (x := beyond_1) (ex_mod (ex_fdiv (ex_var (i := 2) (x := mixed_) rfl) ex_int ⟨by decide, by decide⟩) ex_int (by decide)) ?_
  change SX _ _ _ [Sl.dat one_, Sl.dat room_here_, Sl.dat mixed_, Sl.dat beyond_1, _, _] _
  obtain ⟨v3, hok⟩ := hok
  let price_2 : Rat := (m_l_lowest ((room_here_ * (7 : Int)) + beyond_1) (7 : Int))
  refine sx_set (i := 4) sc_l_priced.nd (x := price_2) (ex_call (n := "_law_lowest") d_l_lowest (hr.mono (by decide)) (ea_cons (ex_add (ex_mul (ex_var (i := 1) (x := room_here_) rfl) ex_int (.inr ⟨by decide, by decide⟩)) (ex_var (i := 3) (x := beyond_1) rfl)) (ea_cons ex_int ea_nil)) ⟨((room_here_ * (7 : Int)) + beyond_1), (7 : Int), rfl, v3, rfl⟩ (dvs := []) (dxs := []) (fun _ => trivial)) ?_
  change SX _ _ _ [Sl.dat one_, Sl.dat room_here_, Sl.dat mixed_, Sl.dat beyond_1, Sl.dat price_2, _] _
  obtain ⟨hok1, hok2, hok⟩ := hok
  refine sx_ifj' (k := ((decide (one_.b = (Str.ofString "most"))) || ((decide (one_.b = (Str.ofString "just"))) && (decide (((mixed_ / (16 : Int)) % (2 : Int)) = (1 : Int)))))) (fun (s : Rat) (e : Env') => (List.set e 4 (.dat s))) ((let price_6 : Rat := (Rat.divInt (((0 : Int) - price_2.num)) (((price_2.den : Nat) : Int))); price_6) : Rat) (price_2 : Rat) (et_bool (ew_or (et_eq (ex_ixT (k := 1) (x := one_.b) (ex_var (i := 0) (x := one_) rfl) ex_int rfl) ex_str) (fun hk4 => (ew_or1 (et_bool (ew_and (et_eq (ex_ixT (k := 1) (x := one_.b) (ex_var (i := 0) (x := one_) rfl) ex_int rfl) ex_str) (fun hk5 => (ew_and1 (et_eq (ex_mod (ex_fdiv (ex_var (i := 2) (x := mixed_) rfl) ex_int ⟨by decide, by decide⟩) ex_int (by decide)) ex_int))))))))) (fun hk8 => ?_) (fun hk8 => ?_) ?_
  · replace hok := hok1 hk8
    change SX _ _ _ [Sl.dat one_, Sl.dat room_here_, Sl.dat mixed_, Sl.dat beyond_1, Sl.dat price_2, _] _
    obtain ⟨v7, hok⟩ := hok
    let price_6 : Rat := (Rat.divInt (((0 : Int) - price_2.num)) (((price_2.den : Nat) : Int)))
    refine sx_set (i := 4) sc_l_priced.nd (x := price_6) (ex_isQ (ex_tup (p := (((0 : Int) - price_2.num), ((price_2.den : Nat) : Int))) (ea_cons (ex_sub ex_int (ex_ixT (k := 0) (x := price_2.num) (ex_var (i := 4) (x := price_2) rfl) ex_int rfl)) (ea_cons (ex_ixT (k := 1) (x := ((price_2.den : Nat) : Int)) (ex_var (i := 4) (x := price_2) rfl) ex_int rfl) ea_nil))) v7) ?_
    change SX _ _ _ [Sl.dat one_, Sl.dat room_here_, Sl.dat mixed_, Sl.dat beyond_1, Sl.dat price_6, _] _
    exact sx_nil (by repeat' (first | exact trivial | refine ⟨.inr rfl, ?_⟩ | refine ⟨.inl rfl, ?_⟩))
  · replace hok := hok2 hk8
    change SX _ _ _ [Sl.dat one_, Sl.dat room_here_, Sl.dat mixed_, Sl.dat beyond_1, Sl.dat price_2, _] _
    exact sx_nil (by repeat' (first | exact trivial | refine ⟨.inr rfl, ?_⟩ | refine ⟨.inl rfl, ?_⟩))
  let j9 : Rat := cond ((decide (one_.b = (Str.ofString "most"))) || ((decide (one_.b = (Str.ofString "just"))) && (decide (((mixed_ / (16 : Int)) % (2 : Int)) = (1 : Int))))) (let price_6 : Rat := (Rat.divInt (((0 : Int) - price_2.num)) (((price_2.den : Nat) : Int))); price_6) price_2
  let price_10 : Rat := j9
  change SX _ _ _ [Sl.dat one_, Sl.dat room_here_, Sl.dat mixed_, Sl.dat beyond_1, Sl.dat price_10, _] _
  let wrong_11 : Bool := ((decide ((0 : Int) < one_.d)) && (decide (beyond_1 = (1 : Int))))
  refine sx_set (i := 5) sc_l_priced.nd (x := wrong_11) (ex_and (ex_gt (ex_ixT (k := 3) (x := one_.d) (ex_var (i := 0) (x := one_) rfl) ex_int rfl) ex_int) (fun hk12 => (ex_one (ex_eq (ex_var (i := 3) (x := beyond_1) rfl) ex_int)))) ?_
  change SX _ _ _ [Sl.dat one_, Sl.dat room_here_, Sl.dat mixed_, Sl.dat beyond_1, Sl.dat price_10, Sl.dat wrong_11] _
  obtain ⟨hok1, hok2, hok⟩ := hok
  refine sx_ifj' (k := ((!decide (one_.b = (Str.ofString "just"))) && (decide (((mixed_ / (32 : Int)) % (4 : Int)) = (0 : Int))))) (fun (s : (Rat × Bool)) (e : Env') => (List.set (List.set e 4 (.dat s.1)) 5 (.dat s.2))) ((let price_14 : Rat := (m_l_lowest (List.getD [(1 : Int), (-1 : Int)] (Int.toNat (intB (decide (one_.b = (Str.ofString "least"))))) (0 : Int)) ((1 : Int) + ((mixed_ / (128 : Int)) % (9 : Int)))); (let wrong_17 : Bool := true; (price_14, wrong_17))) : (Rat × Bool)) ((price_10, wrong_11) : (Rat × Bool)) (et_bool (ew_and (et_ne (ex_ixT (k := 1) (x := one_.b) (ex_var (i := 0) (x := one_) rfl) ex_int rfl) ex_str) (fun hk13 => (ew_and1 (et_eq (ex_mod (ex_fdiv (ex_var (i := 2) (x := mixed_) rfl) ex_int ⟨by decide, by decide⟩) ex_int (by decide)) ex_int))))) (fun hk18 => ?_) (fun hk18 => ?_) ?_
  · replace hok := hok1 hk18
    change SX _ _ _ [Sl.dat one_, Sl.dat room_here_, Sl.dat mixed_, Sl.dat beyond_1, Sl.dat price_10, Sl.dat wrong_11] _
    obtain ⟨v15, v16, hok⟩ := hok
    let price_14 : Rat := (m_l_lowest (List.getD [(1 : Int), (-1 : Int)] (Int.toNat (intB (decide (one_.b = (Str.ofString "least"))))) (0 : Int)) ((1 : Int) + ((mixed_ / (128 : Int)) % (9 : Int))))
    refine sx_set (i := 4) sc_l_priced.nd (x := price_14) (ex_call (n := "_law_lowest") d_l_lowest (hr.mono (by decide)) (ea_cons (ex_ixD (ex_newL (en_lst (xs := [(1 : Int), (-1 : Int)]) (ea_cons ex_int (ea_cons (EX.eq (x' := (-1 : Int)) (ex_neg ex_int) (by decide)) ea_nil)))) (ex_intB T.b_int (ex_eq (ex_ixT (k := 1) (x := one_.b) (ex_var (i := 0) (x := one_) rfl) ex_int rfl) ex_str)) v15) (ea_cons (ex_add ex_int (ex_mod (ex_fdiv (ex_var (i := 2) (x := mixed_) rfl) ex_int ⟨by decide, by decide⟩) ex_int (by decide))) ea_nil)) ⟨(List.getD [(1 : Int), (-1 : Int)] (Int.toNat (intB (decide (one_.b = (Str.ofString "least"))))) (0 : Int)), ((1 : Int) + ((mixed_ / (128 : Int)) % (9 : Int))), rfl, v16, rfl⟩ (dvs := []) (dxs := []) (fun _ => trivial)) ?_
    change SX _ _ _ [Sl.dat one_, Sl.dat room_here_, Sl.dat mixed_, Sl.dat beyond_1, Sl.dat price_14, Sl.dat wrong_11] _
    let wrong_17 : Bool := true
    refine sx_set (i := 5) sc_l_priced.nd (x := wrong_17) ex_bl ?_
    change SX _ _ _ [Sl.dat one_, Sl.dat room_here_, Sl.dat mixed_, Sl.dat beyond_1, Sl.dat price_14, Sl.dat wrong_17] _
    exact sx_nil (by repeat' (first | exact trivial | refine ⟨.inr rfl, ?_⟩ | refine ⟨.inl rfl, ?_⟩))
  · replace hok := hok2 hk18
    change SX _ _ _ [Sl.dat one_, Sl.dat room_here_, Sl.dat mixed_, Sl.dat beyond_1, Sl.dat price_10, Sl.dat wrong_11] _
    exact sx_nil (by repeat' (first | exact trivial | refine ⟨.inr rfl, ?_⟩ | refine ⟨.inl rfl, ?_⟩))
  let j19 : (Rat × Bool) := cond ((!decide (one_.b = (Str.ofString "just"))) && (decide (((mixed_ / (32 : Int)) % (4 : Int)) = (0 : Int)))) (let price_14 : Rat := (m_l_lowest (List.getD [(1 : Int), (-1 : Int)] (Int.toNat (intB (decide (one_.b = (Str.ofString "least"))))) (0 : Int)) ((1 : Int) + ((mixed_ / (128 : Int)) % (9 : Int)))); (let wrong_17 : Bool := true; (price_14, wrong_17))) (price_10, wrong_11)
  let price_20 : Rat := j19.1
  let wrong_21 : Bool := j19.2
  change SX _ _ _ [Sl.dat one_, Sl.dat room_here_, Sl.dat mixed_, Sl.dat beyond_1, Sl.dat price_20, Sl.dat wrong_21] _
  refine sx_ret (x := (price_20, wrong_21)) (ex_tup (p := (price_20, wrong_21)) (ea_cons (ex_var (i := 4) (x := price_20) rfl) (ea_cons (ex_var (i := 5) (x := wrong_21) rfl) ea_nil))) ?_
  exact hR
def ph_law : Phi (Bool) := fun args Rp Xp => ∃ (script_ : List Int), args = [.dat script_] ∧ ok_law script_ ∧ Rp (m_law script_)
abbrev s_law : Stmt := topS 32
theorem sc_law : FnScope ["_law_script", "_law_first", "_law_some", "_law_rows", "_law_settled", "_law_k", "_law_goal", "_law_prices", "_law_shares", "_law_way", "_law_wrong", "_law_at", "_law_price", "_law_side", "_law_beyond", "_law_cell", "_law_one", "_law_pair"] ["_law_script"] (defScope s_law) := ⟨rfl, rfl, rfl, by decide +kernel, rfl, by decide +kernel, by decide +kernel⟩
theorem w_law {f : Addr} {fd : FuncData} (F : Fun K "law" "law" s_law f fd) (T : Top K mg) (d_l_cell_at : DefOk P w K mg base "_law_cell_at" 1 ["_law_script", "_law_k"] [] (spP K mg 2 ph_l_cell_at)) (d_l_row : DefOk P w K mg base "_law_row" 3 ["_law_cell"] [] (spP K mg 1 ph_l_row)) (d_l_word : DefOk P w K mg base "_law_word" 6 ["_law_rows", "_law_some", "_law_settled", "_law_goal", "_law_prices", "_law_shares"] [] (spP K mg 6 ph_l_word)) (d_l_counts : DefOk P w K mg base "_law_counts" 1 ["_law_prices", "_law_shares", "_law_way"] [] (spP K mg 3 ph_l_counts)) (d_l_mix : DefOk P w K mg base "_law_mix" 1 ["_law_cell", "_law_k"] [] (spP K mg 2 ph_l_mix)) (d_l_priced : DefOk P w K mg base "_law_priced" 3 ["_law_one", "_law_room_here", "_law_mixed"] [] (spP K mg 3 ph_l_priced)) (d_l_room : DefOk P w K mg base "_law_room" 1 ["_law_one", "_law_goal", "_law_settled"] [] (spP K mg 3 ph_l_room)) (d_l_lowest : DefOk P w K mg base "_law_lowest" 2 ["_law_top", "_law_bottom"] [] (spP K mg 2 ph_l_lowest)) : FnOk P w K mg base (L2.CX P w) 7 f fd ["_law_script"] (spP K mg 1 ph_law) := by
  refine fn_ok F sc_law rfl ?_
  rintro args Rp Xp ⟨script_, rfl, hok, hR⟩ hl cdv A outer s H E W hr tk
  change SX _ _ _ [Sl.dat script_, _, _, _, _, _, _, _, _, _, _, _, _, _, _, _, _, _] _
  obtain ⟨v2, hok⟩ := hok
  let first_1 : Int := (m_l_cell_at script_ (0 : Int))
  refine sx_set (i := 1) sc_law.nd (x := first_1) (ex_call (n := "_law_cell_at") d_l_cell_at (hr.mono (by decide)) (ea_cons (ex_var (i := 0) (x := script_) rfl) (ea_cons ex_int ea_nil)) ⟨script_, (0 : Int), rfl, v2, rfl⟩ (dvs := []) (dxs := []) (fun _ => trivial)) ?_
  change SX _ _ _ [Sl.dat script_, Sl.dat first_1, _, _, _, _, _, _, _, _, _, _, _, _, _, _, _, _] _
  let some_3 : List Str := (cutL [(Str.ofString "x"), (Str.ofString "left b")] none (some ((1 : Int) + (first_1 % (2 : Int)))))
  refine sx_set (i := 2) sc_law.nd (x := some_3) (ex_newL (en_slice (ex_newL (en_lst (xs := [(Str.ofString "x"), (Str.ofString "left b")]) (ea_cons ex_str (ea_cons ex_str ea_nil)))) exo_none (exo_some (ex_add ex_int (ex_mod (ex_var (i := 1) (x := first_1) rfl) ex_int (by decide)))))) ?_
  change SX _ _ _ [Sl.dat script_, Sl.dat first_1, Sl.dat some_3, _, _, _, _, _, _, _, _, _, _, _, _, _, _, _] _
  obtain ⟨v8, v9, hok⟩ := hok
  let rows_4 : List ((T5 (Dc (Rat)) (Str) (Rat) (Int) (Int))) := (List.map (fun (x5 : Int) => (m_l_row x5)) (cutL script_ (some (1 : Int)) (some (7 : Int))))
  refine sx_newLc (i := 3) (own := [("_law_cell", 15)]) (tt := tYes) (g := (gName 15)) _ (fun (x5 : Int) => (m_l_row x5)) (fun (x5 : Int) => true) rfl sc_law.nd (blkOk_by (N := ["_law_script", "_law_first", "_law_some", "_law_rows", "_law_settled", "_law_k", "_law_goal", "_law_prices", "_law_shares", "_law_way", "_law_wrong", "_law_at", "_law_price", "_law_side", "_law_beyond", "_law_cell", "_law_one", "_law_pair"]) (sc := defScope s_law) (by decide +kernel)) (R.ix_list (ex_newL (en_slice (ex_var (i := 0) (x := script_) rfl) (exo_some ex_int) (exo_some ex_int)))) v9 (tg_name (wipe_1 15)) (hww_1 15) (fun _ _ _ _ _ => pg_name (i := 15) sc_law.nd rfl (Or.inl rfl)) (fun _ _ _ _ _ => pts_nil) (fun _ _ => et_yes) (fun x5 hx6 ht7 => fun _ _ _ _ _ => (ex_call (n := "_law_row") d_l_row (hr.mono (by decide)) (ea_cons (ex_var (i := 15) (x := x5) rfl) ea_nil) ⟨x5, rfl, (v8 x5 hx6 ht7), rfl⟩ (dvs := []) (dxs := []) (fun _ => trivial))) ?_ rfl rfl (sw_true rfl rfl rfl (by decide +kernel))
  rw [R.filter_all]
  change SX _ _ _ [Sl.dat script_, Sl.dat first_1, Sl.dat some_3, Sl.own (OL.mk rows_4), _, _, _, _, _, _, _, _, _, _, _, _, _, _] _
  let settled_10 : List ((Key × Rat)) := ([] : List ((Key × Rat)))
  refine sx_new (i := 4) (x := OL.mk settled_10) sc_law.nd (en_nil (α := (Key × Rat))) ?_
  change SX _ _ _ [Sl.dat script_, Sl.dat first_1, Sl.dat some_3, Sl.own (OL.mk rows_4), Sl.own (OL.mk settled_10), _, _, _, _, _, _, _, _, _, _, _, _, _] _
  obtain ⟨v11, v12, hok⟩ := hok
  obtain ⟨hokL, hok'⟩ := hok
  refine sx_forF' (fun (s : List ((Key × Rat))) (e : Env') => (List.set e 4 (.own (OL.mk s)))) (st_law_13 first_1 some_3) (okb_law_13 first_1 some_3) settled_10 rfl (passes_of rfl) (ix_range1 T.b_range (ex_mod (ex_call (n := "_law_mix") d_l_mix (hr.mono (by decide)) (ea_cons (ex_var (i := 1) (x := first_1) rfl) (ea_cons ex_int ea_nil)) ⟨first_1, (1 : Int), rfl, v11, rfl⟩ (dvs := []) (dxs := []) (fun _ => trivial)) ex_int (by decide)) v12) (by repeat' (first | exact trivial | refine ⟨.inr rfl, ?_⟩ | refine ⟨.inl rfl, ?_⟩)) hokL (fun x15 s14 hok => ?_) ?_
  · let settled_16 : List ((Key × Rat)) := s14
    refine ⟨_, (gx_name (i := 5) (x := x15) sc_law.nd), ?_⟩
    change SX _ _ _ [Sl.dat script_, Sl.dat first_1, Sl.dat some_3, Sl.own (OL.mk rows_4), Sl.own (OL.mk settled_16), Sl.dat x15, _, _, _, _, _, _, _, _, _, _, _, _] _
    obtain ⟨v20, v21, v22, v23, v24, v25, hok⟩ := hok
    let settled_19 : List ((Key × Rat)) := settled_16 ++ [((List.getD ([(Sum.inl (1 : Int) : Key), (Sum.inl (2 : Int) : Key), (Sum.inl (3 : Int) : Key), (Sum.inl (4 : Int) : Key)] ++ (List.map (Sum.inr : Str → Key) some_3)) (Int.toNat ((m_l_mix first_1 (x15 + (2 : Int))) % (5 : Int))) (Sum.inl 0 : Key)), (Rat.divInt (((m_l_mix first_1 (x15 + (7 : Int))) % (9 : Int))) ((1 : Int))))]
    refine sx_app (i := 4) (xs := settled_16) (ps_expr (pe_bm PySem.F.plainAttrs_list PySem.F.slot_list_append PySem.F.type_list_append mt_append (pv 4) (pa_cons (mE _ _) pa_nil))) rfl (ex_tup (p := ((List.getD ([(Sum.inl (1 : Int) : Key), (Sum.inl (2 : Int) : Key), (Sum.inl (3 : Int) : Key), (Sum.inl (4 : Int) : Key)] ++ (List.map (Sum.inr : Str → Key) some_3)) (Int.toNat ((m_l_mix first_1 (x15 + (2 : Int))) % (5 : Int))) (Sum.inl 0 : Key)), (Rat.divInt (((m_l_mix first_1 (x15 + (7 : Int))) % (9 : Int))) ((1 : Int))))) (ea_cons (ex_ixD (ex_newL (en_cat (ex_newL (en_lst (xs := [(Sum.inl (1 : Int) : Key), (Sum.inl (2 : Int) : Key), (Sum.inl (3 : Int) : Key), (Sum.inl (4 : Int) : Key)]) (ea_cons (ex_keyI ex_int) (ea_cons (ex_keyI ex_int) (ea_cons (ex_keyI ex_int) (ea_cons (ex_keyI ex_int) ea_nil)))))) (ex_keysL (ex_var (i := 2) (x := some_3) rfl)) v20)) (ex_mod (ex_call (n := "_law_mix") d_l_mix (hr.mono (by decide)) (ea_cons (ex_var (i := 1) (x := first_1) rfl) (ea_cons (ex_add (ex_var (i := 5) (x := x15) rfl) ex_int) ea_nil)) ⟨first_1, (x15 + (2 : Int)), rfl, v21, rfl⟩ (dvs := []) (dxs := []) (fun _ => trivial)) ex_int (by decide)) v22) (ea_cons (ex_isQ (ex_tup (p := (((m_l_mix first_1 (x15 + (7 : Int))) % (9 : Int)), (1 : Int))) (ea_cons (ex_mod (ex_call (n := "_law_mix") d_l_mix (hr.mono (by decide)) (ea_cons (ex_var (i := 1) (x := first_1) rfl) (ea_cons (ex_add (ex_var (i := 5) (x := x15) rfl) ex_int) ea_nil)) ⟨first_1, (x15 + (7 : Int)), rfl, v23, rfl⟩ (dvs := []) (dxs := []) (fun _ => trivial)) ex_int (by decide)) (ea_cons ex_int ea_nil))) v24) ea_nil))) v25 ?_
    change SX _ _ _ [Sl.dat script_, Sl.dat first_1, Sl.dat some_3, Sl.own (OL.mk rows_4), Sl.own (OL.mk settled_19), Sl.dat x15, _, _, _, _, _, _, _, _, _, _, _, _] _
    exact sx_nil (by repeat' (first | exact trivial | refine ⟨.inr rfl, ?_⟩ | refine ⟨.inl rfl, ?_⟩))
  · have hok := hok'
    clear hok'
    let j26 : List ((Key × Rat)) := List.foldl (st_law_13 first_1 some_3) settled_10 (rangeI ((m_l_mix first_1 (1 : Int)) % (4 : Int)))
    let settled_27 : List ((Key × Rat)) := j26
    change SX _ _ _ [Sl.dat script_, Sl.dat first_1, Sl.dat some_3, Sl.own (OL.mk rows_4), Sl.own (OL.mk settled_27), _, _, _, _, _, _, _, _, _, _, _, _, _] _
    obtain ⟨v29, v30, v31, hok⟩ := hok
    let goal_28 : Key := (List.getD ([(Sum.inl (1 : Int) : Key), (Sum.inl (2 : Int) : Key), (Sum.inl (3 : Int) : Key), (Sum.inl (4 : Int) : Key)] ++ (List.map (Sum.inr : Str → Key) some_3)) (Int.toNat ((m_l_mix first_1 (11 : Int)) % (5 : Int))) (Sum.inl 0 : Key))
    refine sx_set (i := 6) sc_law.nd (x := goal_28) (ex_ixD (ex_newL (en_cat (ex_newL (en_lst (xs := [(Sum.inl (1 : Int) : Key), (Sum.inl (2 : Int) : Key), (Sum.inl (3 : Int) : Key), (Sum.inl (4 : Int) : Key)]) (ea_cons (ex_keyI ex_int) (ea_cons (ex_keyI ex_int) (ea_cons (ex_keyI ex_int) (ea_cons (ex_keyI ex_int) ea_nil)))))) (ex_keysL (ex_var (i := 2) (x := some_3) rfl)) v29)) (ex_mod (ex_call (n := "_law_mix") d_l_mix (hr.mono (by decide)) (ea_cons (ex_var (i := 1) (x := first_1) rfl) (ea_cons ex_int ea_nil)) ⟨first_1, (11 : Int), rfl, v30, rfl⟩ (dvs := []) (dxs := []) (fun _ => trivial)) ex_int (by decide)) v31) ?_
    change SX _ _ _ [Sl.dat script_, Sl.dat first_1, Sl.dat some_3, Sl.own (OL.mk rows_4), Sl.own (OL.mk settled_27), _, Sl.dat goal_28, _, _, _, _, _, _, _, _, _, _, _] _
    obtain ⟨v36, hok⟩ := hok
    let prices_32 : List Rat := (List.map (fun (x33 : (T5 (Dc (Rat)) (Str) (Rat) (Int) (Int))) => (0 : Rat)) rows_4)
    refine sx_newLcT (i := 7) (fun _ _ h => (le_thawL (i := 3) rfl h)) (own := [("_law_one", 16)]) (tt := tYes) (g := (gName 16)) _ (fun (x33 : (T5 (Dc (Rat)) (Str) (Rat) (Int) (Int))) => (0 : Rat)) (fun (x33 : (T5 (Dc (Rat)) (Str) (Rat) (Int) (Int))) => true) rfl sc_law.nd (blkOk_by (N := ["_law_script", "_law_first", "_law_some", "_law_rows", "_law_settled", "_law_k", "_law_goal", "_law_prices", "_law_shares", "_law_way", "_law_wrong", "_law_at", "_law_price", "_law_side", "_law_beyond", "_law_cell", "_law_one", "_law_pair"]) (sc := defScope s_law) (by decide +kernel)) (R.ix_list (ex_var (i := 3) (x := rows_4) rfl)) v36 (tg_name (wipe_1 16)) (hww_1 16) (fun _ _ _ _ _ => pg_name (i := 16) sc_law.nd rfl (Or.inl rfl)) (fun _ _ _ _ _ => pts_nil) (fun _ _ => et_yes) (fun x33 hx34 ht35 => fun _ _ _ _ _ => (ex_rat (q := (0 : Rat)) (ex_tup (p := ((0 : Int), (1 : Int))) (ea_cons ex_int (ea_cons ex_int ea_nil))) (by decide) (by decide))) ?_ rfl rfl (sw_true rfl rfl rfl (by decide +kernel))
    rw [R.filter_all]
    change SX _ _ _ [Sl.dat script_, Sl.dat first_1, Sl.dat some_3, Sl.own (OL.mk rows_4), Sl.own (OL.mk settled_27), _, Sl.dat goal_28, Sl.own (OL.mk prices_32), _, _, _, _, _, _, _, _, _, _] _
    obtain ⟨v41, hok⟩ := hok
    let shares_37 : List Rat := (List.map (fun (x38 : (Key × Rat)) => (1 : Rat)) settled_27)
    refine sx_newLcT (i := 8) (fun _ _ h => (le_thawL (i := 4) rfl h)) (own := [("_law_pair", 17)]) (tt := tYes) (g := (gName 17)) _ (fun (x38 : (Key × Rat)) => (1 : Rat)) (fun (x38 : (Key × Rat)) => true) rfl sc_law.nd (blkOk_by (N := ["_law_script", "_law_first", "_law_some", "_law_rows", "_law_settled", "_law_k", "_law_goal", "_law_prices", "_law_shares", "_law_way", "_law_wrong", "_law_at", "_law_price", "_law_side", "_law_beyond", "_law_cell", "_law_one", "_law_pair"]) (sc := defScope s_law) (by decide +kernel)) (R.ix_list (ex_var (i := 4) (x := settled_27) rfl)) v41 (tg_name (wipe_1 17)) (hww_1 17) (fun _ _ _ _ _ => pg_name (i := 17) sc_law.nd rfl (Or.inl rfl)) (fun _ _ _ _ _ => pts_nil) (fun _ _ => et_yes) (fun x38 hx39 ht40 => fun _ _ _ _ _ => (ex_rat (q := (1 : Rat)) (ex_tup (p := ((1 : Int), (1 : Int))) (ea_cons ex_int (ea_cons ex_int ea_nil))) (by decide) (by decide))) ?_ rfl rfl (sw_true rfl rfl rfl (by decide +kernel))
    rw [R.filter_all]
    change SX _ _ _ [Sl.dat script_, Sl.dat first_1, Sl.dat some_3, Sl.own (OL.mk rows_4), Sl.own (OL.mk settled_27), _, Sl.dat goal_28, Sl.own (OL.mk prices_32), Sl.own (OL.mk shares_37), _, _, _, _, _, _, _, _, _] _
    obtain ⟨v42, hok⟩ := hok
    refine sx_ifr (k := (!decide ((m_l_word rows_4 some_3 settled_27 goal_28 prices_32 shares_37) = (Str.ofString "")))) (et_thawL (i := 8) rfl (et_thawL (i := 7) rfl (et_thawL (i := 4) rfl (et_thawL (i := 3) rfl (et_ne (ex_call (n := "_law_word") d_l_word (hr.mono (by decide)) (ea_cons (ex_var (i := 3) (x := rows_4) rfl) (ea_cons (ex_var (i := 2) (x := some_3) rfl) (ea_cons (ex_var (i := 4) (x := settled_27) rfl) (ea_cons (ex_var (i := 6) (x := goal_28) rfl) (ea_cons (ex_var (i := 7) (x := prices_32) rfl) (ea_cons (ex_var (i := 8) (x := shares_37) rfl) ea_nil)))))) ⟨rows_4, some_3, settled_27, goal_28, prices_32, shares_37, rfl, v42, rfl⟩ (dvs := []) (dxs := []) (fun _ => trivial)) ex_str))))) (fun hk177 => ?_) (fun hk177 => ?_)
    · replace hok := hok.1 hk177
      replace hR := cond_t (P := Rp) hk177 hR
      change SX _ _ _ [Sl.dat script_, Sl.dat first_1, Sl.dat some_3, Sl.own (OL.mk rows_4), Sl.own (OL.mk settled_27), _, Sl.dat goal_28, Sl.own (OL.mk prices_32), Sl.own (OL.mk shares_37), _, _, _, _, _, _, _, _, _] _
      refine sx_ret (x := false) ex_bl ?_
      exact hR
    · replace hok := hok.2 hk177
      replace hR := cond_f (P := Rp) hk177 hR
      change SX _ _ _ [Sl.dat script_, Sl.dat first_1, Sl.dat some_3, Sl.own (OL.mk rows_4), Sl.own (OL.mk settled_27), _, Sl.dat goal_28, Sl.own (OL.mk prices_32), Sl.own (OL.mk shares_37), _, _, _, _, _, _, _, _, _] _
      let way_43 : Int := ((first_1 / (2 : Int)) % (8 : Int))
      refine sx_set (i := 9) sc_law.nd (x := way_43) (ex_mod (ex_fdiv (ex_var (i := 1) (x := first_1) rfl) ex_int ⟨by decide, by decide⟩) ex_int (by decide)) ?_
      change SX _ _ _ [Sl.dat script_, Sl.dat first_1, Sl.dat some_3, Sl.own (OL.mk rows_4), Sl.own (OL.mk settled_27), _, Sl.dat goal_28, Sl.own (OL.mk prices_32), Sl.own (OL.mk shares_37), Sl.dat way_43, _, _, _, _, _, _, _, _] _
      let wrong_44 : Bool := false
      refine sx_set (i := 10) sc_law.nd (x := wrong_44) ex_bl ?_
      change SX _ _ _ [Sl.dat script_, Sl.dat first_1, Sl.dat some_3, Sl.own (OL.mk rows_4), Sl.own (OL.mk settled_27), _, Sl.dat goal_28, Sl.own (OL.mk prices_32), Sl.own (OL.mk shares_37), Sl.dat way_43, Sl.dat wrong_44, _, _, _, _, _, _, _] _
      obtain ⟨hok1, hok2, hok⟩ := hok
      refine sx_ifj' (k := (decide (way_43 < (4 : Int)))) (fun (s : (List Rat × (List Rat × (Bool × List ((T5 (Dc (Rat)) (Str) (Rat) (Int) (Int))))))) (e : Env') => (List.set (List.set (List.set (List.set e 7 (.dat s.1)) 8 (.dat s.2.1)) 10 (.dat s.2.2.1)) 3 (.own (OL.mk s.2.2.2)))) ((let p109 : (List Rat × List Rat) := (m_l_counts prices_32 shares_37 way_43); let prices_110 : List Rat := p109.1; let shares_111 : List Rat := p109.2; (let wrong_112 : Bool := ((!decide ((prices_110.length : Int) = (rows_4.length : Int))) || (!decide ((shares_111.length : Int) = (settled_27.length : Int)))); (prices_110, (shares_111, (wrong_112, rows_4))))) : (List Rat × (List Rat × (Bool × List ((T5 (Dc (Rat)) (Str) (Rat) (Int) (Int))))))) ((let j164 : (List Rat × (Bool × (List Rat × List ((T5 (Dc (Rat)) (Str) (Rat) (Int) (Int)))))) := cond ((decide (way_43 = (4 : Int))) && (!deq shares_37 ([] : List Rat))) (let shares_120 : List Rat := List.set shares_37 (Int.toNat ((m_l_mix first_1 (12 : Int)) % (shares_37.length : Int))) (Rat.divInt ((-1 : Int)) (((1 : Int) + ((m_l_mix first_1 (13 : Int)) % (99 : Int))))); (let wrong_121 : Bool := true; (shares_120, (wrong_121, (prices_32, rows_4))))) (let j159 : (Bool × (List Rat × List ((T5 (Dc (Rat)) (Str) (Rat) (Int) (Int))))) := cond ((decide ((4 : Int) < way_43)) && ((decide (way_43 < (7 : Int))) && (!deq rows_4 ([] : List ((T5 (Dc (Rat)) (Str) (Rat) (Int) (Int))))))) (let at_124 : Int := ((m_l_mix first_1 (14 : Int)) % (rows_4.length : Int)); (let p132 : (Rat × Bool) := (m_l_priced (List.getD rows_4 (Int.toNat at_124) default) (m_l_room (List.getD rows_4 (Int.toNat at_124) default) goal_28 settled_27) (m_l_mix first_1 (15 : Int))); let price_133 : Rat := p132.1; let wrong_134 : Bool := p132.2; (let prices_136 : List Rat := List.set prices_32 (Int.toNat at_124) price_133; (wrong_134, (prices_136, rows_4))))) (let j154 : (List ((T5 (Dc (Rat)) (Str) (Rat) (Int) (Int))) × (List Rat × Bool)) := cond (decide (way_43 = (7 : Int))) (let side_137 : Int := ((((List.filter (fun (x138 : (Key × Rat)) => (decide (x138.1 = (Sum.inr (List.getD some_3 (Int.toNat (0 : Int)) (Str.ofString "")) : Key)))) settled_27).map (fun (x138 : (Key × Rat)) => x138)).length : Int) + (intB (decide (goal_28 = (Sum.inr (List.getD some_3 (Int.toNat (0 : Int)) (Str.ofString "")) : Key))))); (let beyond_144 : Int := ((m_l_mix first_1 (16 : Int)) % (2 : Int)); (let rows_146 : List ((T5 (Dc (Rat)) (Str) (Rat) (Int) (Int))) := rows_4 ++ [(⟨(⟨[((List.getD some_3 (Int.toNat (0 : Int)) (Str.ofString "")), (Rat.divInt (1 : Int) (3 : Int)))]⟩ : Dc (Rat)), (Str.ofString "just"), (5 : Rat), (0 : Int), (1 : Int)⟩ : (T5 (Dc (Rat)) (Str) (Rat) (Int) (Int)))]; (let prices_149 : List Rat := prices_32 ++ [(m_l_lowest (((side_137 * (3 : Int)) * (11 : Int)) + beyond_144) (11 : Int))]; (let wrong_152 : Bool := (decide (beyond_144 = (1 : Int))); (rows_146, (prices_149, wrong_152))))))) (rows_4, (prices_32, wrong_44)); let rows_155 : List ((T5 (Dc (Rat)) (Str) (Rat) (Int) (Int))) := j154.1; let prices_156 : List Rat := j154.2.1; let wrong_157 : Bool := j154.2.2; (wrong_157, (prices_156, rows_155))); let wrong_160 : Bool := j159.1; let prices_161 : List Rat := j159.2.1; let rows_162 : List ((T5 (Dc (Rat)) (Str) (Rat) (Int) (Int))) := j159.2.2; (shares_37, (wrong_160, (prices_161, rows_162)))); let shares_165 : List Rat := j164.1; let wrong_166 : Bool := j164.2.1; let prices_167 : List Rat := j164.2.2.1; let rows_168 : List ((T5 (Dc (Rat)) (Str) (Rat) (Int) (Int))) := j164.2.2.2; (prices_167, (shares_165, (wrong_166, rows_168)))) : (List Rat × (List Rat × (Bool × List ((T5 (Dc (Rat)) (Str) (Rat) (Int) (Int))))))) (et_lt (ex_var (i := 9) (x := way_43) rfl) ex_int) (fun hk169 => ?_) (fun hk169 => ?_) ?_
      · replace hok := hok1 hk169
        change SX _ _ _ [Sl.dat script_, Sl.dat first_1, Sl.dat some_3, Sl.own (OL.mk rows_4), Sl.own (OL.mk settled_27), _, Sl.dat goal_28, Sl.own (OL.mk prices_32), Sl.own (OL.mk shares_37), Sl.dat way_43, Sl.dat wrong_44, _, _, _, _, _, _, _] _
        refine sx_frzL (i := 7) rfl ?_
        refine sx_frzL (i := 8) rfl ?_
        change SX _ _ _ [Sl.dat script_, Sl.dat first_1, Sl.dat some_3, Sl.own (OL.mk rows_4), Sl.own (OL.mk settled_27), _, Sl.dat goal_28, Sl.dat prices_32, Sl.dat shares_37, Sl.dat way_43, Sl.dat wrong_44, _, _, _, _, _, _, _] _
        obtain ⟨v108, hok⟩ := hok
        let p109 : (List Rat × List Rat) := (m_l_counts prices_32 shares_37 way_43)
        let prices_110 : List Rat := p109.1
        let shares_111 : List Rat := p109.2
        refine sx_asg (x := p109) (ex_call (n := "_law_counts") d_l_counts (hr.mono (by decide)) (ea_cons (ex_var (i := 7) (x := prices_32) rfl) (ea_cons (ex_var (i := 8) (x := shares_37) rfl) (ea_cons (ex_var (i := 9) (x := way_43) rfl) ea_nil))) ⟨prices_32, shares_37, way_43, rfl, v108, rfl⟩ (dvs := []) (dxs := []) (fun _ => trivial)) (gx_tup (p := p109) rfl (gxs_cons (gx_name (i := 7) (x := prices_110) sc_law.nd) (gxs_cons (gx_name (i := 8) (x := shares_111) sc_law.nd) gxs_nil))) ?_
        change SX _ _ _ [Sl.dat script_, Sl.dat first_1, Sl.dat some_3, Sl.own (OL.mk rows_4), Sl.own (OL.mk settled_27), _, Sl.dat goal_28, Sl.dat prices_110, Sl.dat shares_111, Sl.dat way_43, Sl.dat wrong_44, _, _, _, _, _, _, _] _
        let wrong_112 : Bool := ((!decide ((prices_110.length : Int) = (rows_4.length : Int))) || (!decide ((shares_111.length : Int) = (settled_27.length : Int))))
        refine sx_set (i := 10) sc_law.nd (x := wrong_112) (ex_thawL (i := 4) rfl (ex_thawL (i := 3) rfl (ex_or (ex_ne (ex_len T.b_len (ex_var (i := 7) (x := prices_110) rfl)) (ex_len T.b_len (ex_var (i := 3) (x := rows_4) rfl))) (fun hk113 => (ex_one (ex_ne (ex_len T.b_len (ex_var (i := 8) (x := shares_111) rfl)) (ex_len T.b_len (ex_var (i := 4) (x := settled_27) rfl)))))))) ?_
        change SX _ _ _ [Sl.dat script_, Sl.dat first_1, Sl.dat some_3, Sl.own (OL.mk rows_4), Sl.own (OL.mk settled_27), _, Sl.dat goal_28, Sl.dat prices_110, Sl.dat shares_111, Sl.dat way_43, Sl.dat wrong_112, _, _, _, _, _, _, _] _
        exact sx_nil (by repeat' (first | exact trivial | refine ⟨.inr rfl, ?_⟩ | refine ⟨.inl rfl, ?_⟩))
      · replace hok := hok2 hk169
        change SX _ _ _ [Sl.dat script_, Sl.dat first_1, Sl.dat some_3, Sl.own (OL.mk rows_4), Sl.own (OL.mk settled_27), _, Sl.dat goal_28, Sl.own (OL.mk prices_32), Sl.own (OL.mk shares_37), Sl.dat way_43, Sl.dat wrong_44, _, _, _, _, _, _, _] _
        obtain ⟨hok1, hok2, hok⟩ := hok
        refine sx_ifj' (k := ((decide (way_43 = (4 : Int))) && (!deq shares_37 ([] : List Rat)))) (fun (s : (List Rat × (Bool × (List Rat × List ((T5 (Dc (Rat)) (Str) (Rat) (Int) (Int))))))) (e : Env') => (List.set (List.set (List.set (List.set e 8 (.own (OL.mk s.1))) 10 (.dat s.2.1)) 7 (.own (OL.mk s.2.2.1))) 3 (.own (OL.mk s.2.2.2)))) ((let shares_120 : List Rat := List.set shares_37 (Int.toNat ((m_l_mix first_1 (12 : Int)) % (shares_37.length : Int))) (Rat.divInt ((-1 : Int)) (((1 : Int) + ((m_l_mix first_1 (13 : Int)) % (99 : Int))))); (let wrong_121 : Bool := true; (shares_120, (wrong_121, (prices_32, rows_4))))) : (List Rat × (Bool × (List Rat × List ((T5 (Dc (Rat)) (Str) (Rat) (Int) (Int))))))) ((let j159 : (Bool × (List Rat × List ((T5 (Dc (Rat)) (Str) (Rat) (Int) (Int))))) := cond ((decide ((4 : Int) < way_43)) && ((decide (way_43 < (7 : Int))) && (!deq rows_4 ([] : List ((T5 (Dc (Rat)) (Str) (Rat) (Int) (Int))))))) (let at_124 : Int := ((m_l_mix first_1 (14 : Int)) % (rows_4.length : Int)); (let p132 : (Rat × Bool) := (m_l_priced (List.getD rows_4 (Int.toNat at_124) default) (m_l_room (List.getD rows_4 (Int.toNat at_124) default) goal_28 settled_27) (m_l_mix first_1 (15 : Int))); let price_133 : Rat := p132.1; let wrong_134 : Bool := p132.2; (let prices_136 : List Rat := List.set prices_32 (Int.toNat at_124) price_133; (wrong_134, (prices_136, rows_4))))) (let j154 : (List ((T5 (Dc (Rat)) (Str) (Rat) (Int) (Int))) × (List Rat × Bool)) := cond (decide (way_43 = (7 : Int))) (let side_137 : Int := ((((List.filter (fun (x138 : (Key × Rat)) => (decide (x138.1 = (Sum.inr (List.getD some_3 (Int.toNat (0 : Int)) (Str.ofString "")) : Key)))) settled_27).map (fun (x138 : (Key × Rat)) => x138)).length : Int) + (intB (decide (goal_28 = (Sum.inr (List.getD some_3 (Int.toNat (0 : Int)) (Str.ofString "")) : Key))))); (let beyond_144 : Int := ((m_l_mix first_1 (16 : Int)) % (2 : Int)); (let rows_146 : List ((T5 (Dc (Rat)) (Str) (Rat) (Int) (Int))) := rows_4 ++ [(⟨(⟨[((List.getD some_3 (Int.toNat (0 : Int)) (Str.ofString "")), (Rat.divInt (1 : Int) (3 : Int)))]⟩ : Dc (Rat)), (Str.ofString "just"), (5 : Rat), (0 : Int), (1 : Int)⟩ : (T5 (Dc (Rat)) (Str) (Rat) (Int) (Int)))]; (let prices_149 : List Rat := prices_32 ++ [(m_l_lowest (((side_137 * (3 : Int)) * (11 : Int)) + beyond_144) (11 : Int))]; (let wrong_152 : Bool := (decide (beyond_144 = (1 : Int))); (rows_146, (prices_149, wrong_152))))))) (rows_4, (prices_32, wrong_44)); let rows_155 : List ((T5 (Dc (Rat)) (Str) (Rat) (Int) (Int))) := j154.1; let prices_156 : List Rat := j154.2.1; let wrong_157 : Bool := j154.2.2; (wrong_157, (prices_156, rows_155))); let wrong_160 : Bool := j159.1; let prices_161 : List Rat := j159.2.1; let rows_162 : List ((T5 (Dc (Rat)) (Str) (Rat) (Int) (Int))) := j159.2.2; (shares_37, (wrong_160, (prices_161, rows_162)))) : (List Rat × (Bool × (List Rat × List ((T5 (Dc (Rat)) (Str) (Rat) (Int) (Int))))))) (et_thawL (i := 8) rfl (et_bool (ew_and (et_eq (ex_var (i := 9) (x := way_43) rfl) ex_int) (fun hk114 => (ew_and1 (et_neD (hu64 hr) (ex_var (i := 8) (x := shares_37) rfl) (ex_newL (en_nil (α := Rat))))))))) (fun hk163 => ?_) (fun hk163 => ?_) ?_
        · replace hok := hok1 hk163
          change SX _ _ _ [Sl.dat script_, Sl.dat first_1, Sl.dat some_3, Sl.own (OL.mk rows_4), Sl.own (OL.mk settled_27), _, Sl.dat goal_28, Sl.own (OL.mk prices_32), Sl.own (OL.mk shares_37), Sl.dat way_43, Sl.dat wrong_44, _, _, _, _, _, _, _] _
          obtain ⟨v115, v116, v117, v118, v119, hok⟩ := hok
          let shares_120 : List Rat := List.set shares_37 (Int.toNat ((m_l_mix first_1 (12 : Int)) % (shares_37.length : Int))) (Rat.divInt ((-1 : Int)) (((1 : Int) + ((m_l_mix first_1 (13 : Int)) % (99 : Int)))))
          refine sx_lput (i := 8) (xs := shares_37) (ps_asg (mE _ _) (pg_sub (pv 8) (mE _ _) set_list)) rfl (ex_isQ (ex_tup (p := ((-1 : Int), ((1 : Int) + ((m_l_mix first_1 (13 : Int)) % (99 : Int))))) (ea_cons (EX.eq (x' := (-1 : Int)) (ex_neg ex_int) (by decide)) (ea_cons (ex_add ex_int (ex_mod (ex_call (n := "_law_mix") d_l_mix (hr.mono (by decide)) (ea_cons (ex_var (i := 1) (x := first_1) rfl) (ea_cons ex_int ea_nil)) ⟨first_1, (13 : Int), rfl, v115, rfl⟩ (dvs := []) (dxs := []) (fun _ => trivial)) ex_int (by decide))) ea_nil))) v116) (ex_thawL (i := 8) rfl (ex_mod (ex_call (n := "_law_mix") d_l_mix (hr.mono (by decide)) (ea_cons (ex_var (i := 1) (x := first_1) rfl) (ea_cons ex_int ea_nil)) ⟨first_1, (12 : Int), rfl, v117, rfl⟩ (dvs := []) (dxs := []) (fun _ => trivial)) (ex_len T.b_len (ex_var (i := 8) (x := shares_37) rfl)) v118)) v119 ?_
          change SX _ _ _ [Sl.dat script_, Sl.dat first_1, Sl.dat some_3, Sl.own (OL.mk rows_4), Sl.own (OL.mk settled_27), _, Sl.dat goal_28, Sl.own (OL.mk prices_32), Sl.own (OL.mk shares_120), Sl.dat way_43, Sl.dat wrong_44, _, _, _, _, _, _, _] _
          let wrong_121 : Bool := true
          refine sx_set (i := 10) sc_law.nd (x := wrong_121) ex_bl ?_
          change SX _ _ _ [Sl.dat script_, Sl.dat first_1, Sl.dat some_3, Sl.own (OL.mk rows_4), Sl.own (OL.mk settled_27), _, Sl.dat goal_28, Sl.own (OL.mk prices_32), Sl.own (OL.mk shares_120), Sl.dat way_43, Sl.dat wrong_121, _, _, _, _, _, _, _] _
          exact sx_nil (by repeat' (first | exact trivial | refine ⟨.inr rfl, ?_⟩ | refine ⟨.inl rfl, ?_⟩))
        · replace hok := hok2 hk163
          change SX _ _ _ [Sl.dat script_, Sl.dat first_1, Sl.dat some_3, Sl.own (OL.mk rows_4), Sl.own (OL.mk settled_27), _, Sl.dat goal_28, Sl.own (OL.mk prices_32), Sl.own (OL.mk shares_37), Sl.dat way_43, Sl.dat wrong_44, _, _, _, _, _, _, _] _
          obtain ⟨hok1, hok2, hok⟩ := hok
          refine sx_ifj' (k := ((decide ((4 : Int) < way_43)) && ((decide (way_43 < (7 : Int))) && (!deq rows_4 ([] : List ((T5 (Dc (Rat)) (Str) (Rat) (Int) (Int)))))))) (fun (s : (Bool × (List Rat × List ((T5 (Dc (Rat)) (Str) (Rat) (Int) (Int)))))) (e : Env') => (List.set (List.set (List.set e 10 (.dat s.1)) 7 (.own (OL.mk s.2.1))) 3 (.own (OL.mk s.2.2)))) ((let at_124 : Int := ((m_l_mix first_1 (14 : Int)) % (rows_4.length : Int)); (let p132 : (Rat × Bool) := (m_l_priced (List.getD rows_4 (Int.toNat at_124) default) (m_l_room (List.getD rows_4 (Int.toNat at_124) default) goal_28 settled_27) (m_l_mix first_1 (15 : Int))); let price_133 : Rat := p132.1; let wrong_134 : Bool := p132.2; (let prices_136 : List Rat := List.set prices_32 (Int.toNat at_124) price_133; (wrong_134, (prices_136, rows_4))))) : (Bool × (List Rat × List ((T5 (Dc (Rat)) (Str) (Rat) (Int) (Int)))))) ((let j154 : (List ((T5 (Dc (Rat)) (Str) (Rat) (Int) (Int))) × (List Rat × Bool)) := cond (decide (way_43 = (7 : Int))) (let side_137 : Int := ((((List.filter (fun (x138 : (Key × Rat)) => (decide (x138.1 = (Sum.inr (List.getD some_3 (Int.toNat (0 : Int)) (Str.ofString "")) : Key)))) settled_27).map (fun (x138 : (Key × Rat)) => x138)).length : Int) + (intB (decide (goal_28 = (Sum.inr (List.getD some_3 (Int.toNat (0 : Int)) (Str.ofString "")) : Key))))); (let beyond_144 : Int := ((m_l_mix first_1 (16 : Int)) % (2 : Int)); (let rows_146 : List ((T5 (Dc (Rat)) (Str) (Rat) (Int) (Int))) := rows_4 ++ [(⟨(⟨[((List.getD some_3 (Int.toNat (0 : Int)) (Str.ofString "")), (Rat.divInt (1 : Int) (3 : Int)))]⟩ : Dc (Rat)), (Str.ofString "just"), (5 : Rat), (0 : Int), (1 : Int)⟩ : (T5 (Dc (Rat)) (Str) (Rat) (Int) (Int)))]; (let prices_149 : List Rat := prices_32 ++ [(m_l_lowest (((side_137 * (3 : Int)) * (11 : Int)) + beyond_144) (11 : Int))]; (let wrong_152 : Bool := (decide (beyond_144 = (1 : Int))); (rows_146, (prices_149, wrong_152))))))) (rows_4, (prices_32, wrong_44)); let rows_155 : List ((T5 (Dc (Rat)) (Str) (Rat) (Int) (Int))) := j154.1; let prices_156 : List Rat := j154.2.1; let wrong_157 : Bool := j154.2.2; (wrong_157, (prices_156, rows_155))) : (Bool × (List Rat × List ((T5 (Dc (Rat)) (Str) (Rat) (Int) (Int)))))) (et_thawL (i := 3) rfl (et_bool (ew_and (et_gt (ex_var (i := 9) (x := way_43) rfl) ex_int) (fun hk122 => (ew_and (et_lt (ex_var (i := 9) (x := way_43) rfl) ex_int) (fun hk123 => (ew_and1 (et_neD (hu64 hr) (ex_var (i := 3) (x := rows_4) rfl) (ex_newL (en_nil (α := (T5 (Dc (Rat)) (Str) (Rat) (Int) (Int))))))))))))) (fun hk158 => ?_) (fun hk158 => ?_) ?_
          · replace hok := hok1 hk158
            change SX _ _ _ [Sl.dat script_, Sl.dat first_1, Sl.dat some_3, Sl.own (OL.mk rows_4), Sl.own (OL.mk settled_27), _, Sl.dat goal_28, Sl.own (OL.mk prices_32), Sl.own (OL.mk shares_37), Sl.dat way_43, Sl.dat wrong_44, _, _, _, _, _, _, _] _
            obtain ⟨v125, v126, hok⟩ := hok
            let at_124 : Int := ((m_l_mix first_1 (14 : Int)) % (rows_4.length : Int))
            refine sx_set (i := 11) sc_law.nd (x := at_124) (ex_thawL (i := 3) rfl (ex_mod (ex_call (n := "_law_mix") d_l_mix (hr.mono (by decide)) (ea_cons (ex_var (i := 1) (x := first_1) rfl) (ea_cons ex_int ea_nil)) ⟨first_1, (14 : Int), rfl, v125, rfl⟩ (dvs := []) (dxs := []) (fun _ => trivial)) (ex_len T.b_len (ex_var (i := 3) (x := rows_4) rfl)) v126)) ?_
            change SX _ _ _ [Sl.dat script_, Sl.dat first_1, Sl.dat some_3, Sl.own (OL.mk rows_4), Sl.own (OL.mk settled_27), _, Sl.dat goal_28, Sl.own (OL.mk prices_32), Sl.own (OL.mk shares_37), Sl.dat way_43, Sl.dat wrong_44, Sl.dat at_124, _, _, _, _, _, _] _
            obtain ⟨v127, v128, v129, v130, v131, hok⟩ := hok
            let p132 : (Rat × Bool) := (m_l_priced (List.getD rows_4 (Int.toNat at_124) default) (m_l_room (List.getD rows_4 (Int.toNat at_124) default) goal_28 settled_27) (m_l_mix first_1 (15 : Int)))
            let price_133 : Rat := p132.1
            let wrong_134 : Bool := p132.2
            refine sx_asg (x := p132) (ex_thawL (i := 4) rfl (ex_thawL (i := 3) rfl (ex_call (n := "_law_priced") d_l_priced (hr.mono (by decide)) (ea_cons (ex_ixD (ex_var (i := 3) (x := rows_4) rfl) (ex_var (i := 11) (x := at_124) rfl) v127) (ea_cons (ex_call (n := "_law_room") d_l_room (hr.mono (by decide)) (ea_cons (ex_ixD (ex_var (i := 3) (x := rows_4) rfl) (ex_var (i := 11) (x := at_124) rfl) v128) (ea_cons (ex_var (i := 6) (x := goal_28) rfl) (ea_cons (ex_var (i := 4) (x := settled_27) rfl) ea_nil))) ⟨(List.getD rows_4 (Int.toNat at_124) default), goal_28, settled_27, rfl, v129, rfl⟩ (dvs := []) (dxs := []) (fun _ => trivial)) (ea_cons (ex_call (n := "_law_mix") d_l_mix (hr.mono (by decide)) (ea_cons (ex_var (i := 1) (x := first_1) rfl) (ea_cons ex_int ea_nil)) ⟨first_1, (15 : Int), rfl, v130, rfl⟩ (dvs := []) (dxs := []) (fun _ => trivial)) ea_nil))) ⟨(List.getD rows_4 (Int.toNat at_124) default), (m_l_room (List.getD rows_4 (Int.toNat at_124) default) goal_28 settled_27), (m_l_mix first_1 (15 : Int)), rfl, v131, rfl⟩ (dvs := []) (dxs := []) (fun _ => trivial)))) (gx_tup (p := p132) rfl (gxs_cons (gx_name (i := 12) (x := price_133) sc_law.nd) (gxs_cons (gx_name (i := 10) (x := wrong_134) sc_law.nd) gxs_nil))) ?_
            change SX _ _ _ [Sl.dat script_, Sl.dat first_1, Sl.dat some_3, Sl.own (OL.mk rows_4), Sl.own (OL.mk settled_27), _, Sl.dat goal_28, Sl.own (OL.mk prices_32), Sl.own (OL.mk shares_37), Sl.dat way_43, Sl.dat wrong_134, Sl.dat at_124, Sl.dat price_133, _, _, _, _, _] _
            obtain ⟨v135, hok⟩ := hok
            let prices_136 : List Rat := List.set prices_32 (Int.toNat at_124) price_133
            refine sx_lput (i := 7) (xs := prices_32) (ps_asg (mE _ _) (pg_sub (pv 7) (mE _ _) set_list)) rfl (ex_var (i := 12) (x := price_133) rfl) (ex_var (i := 11) (x := at_124) rfl) v135 ?_
            change SX _ _ _ [Sl.dat script_, Sl.dat first_1, Sl.dat some_3, Sl.own (OL.mk rows_4), Sl.own (OL.mk settled_27), _, Sl.dat goal_28, Sl.own (OL.mk prices_136), Sl.own (OL.mk shares_37), Sl.dat way_43, Sl.dat wrong_134, Sl.dat at_124, Sl.dat price_133, _, _, _, _, _] _
            exact sx_nil (by repeat' (first | exact trivial | refine ⟨.inr rfl, ?_⟩ | refine ⟨.inl rfl, ?_⟩))
          · replace hok := hok2 hk158
            change SX _ _ _ [Sl.dat script_, Sl.dat first_1, Sl.dat some_3, Sl.own (OL.mk rows_4), Sl.own (OL.mk settled_27), _, Sl.dat goal_28, Sl.own (OL.mk prices_32), Sl.own (OL.mk shares_37), Sl.dat way_43, Sl.dat wrong_44, _, _, _, _, _, _, _] _
            obtain ⟨hok1, hok2, hok⟩ := hok
            refine sx_ifj' (k := (decide (way_43 = (7 : Int)))) (fun (s : (List ((T5 (Dc (Rat)) (Str) (Rat) (Int) (Int))) × (List Rat × Bool))) (e : Env') => (List.set (List.set (List.set e 3 (.own (OL.mk s.1))) 7 (.own (OL.mk s.2.1))) 10 (.dat s.2.2))) ((let side_137 : Int := ((((List.filter (fun (x138 : (Key × Rat)) => (decide (x138.1 = (Sum.inr (List.getD some_3 (Int.toNat (0 : Int)) (Str.ofString "")) : Key)))) settled_27).map (fun (x138 : (Key × Rat)) => x138)).length : Int) + (intB (decide (goal_28 = (Sum.inr (List.getD some_3 (Int.toNat (0 : Int)) (Str.ofString "")) : Key))))); (let beyond_144 : Int := ((m_l_mix first_1 (16 : Int)) % (2 : Int)); (let rows_146 : List ((T5 (Dc (Rat)) (Str) (Rat) (Int) (Int))) := rows_4 ++ [(⟨(⟨[((List.getD some_3 (Int.toNat (0 : Int)) (Str.ofString "")), (Rat.divInt (1 : Int) (3 : Int)))]⟩ : Dc (Rat)), (Str.ofString "just"), (5 : Rat), (0 : Int), (1 : Int)⟩ : (T5 (Dc (Rat)) (Str) (Rat) (Int) (Int)))]; (let prices_149 : List Rat := prices_32 ++ [(m_l_lowest (((side_137 * (3 : Int)) * (11 : Int)) + beyond_144) (11 : Int))]; (let wrong_152 : Bool := (decide (beyond_144 = (1 : Int))); (rows_146, (prices_149, wrong_152))))))) : (List ((T5 (Dc (Rat)) (Str) (Rat) (Int) (Int))) × (List Rat × Bool))) ((rows_4, (prices_32, wrong_44)) : (List ((T5 (Dc (Rat)) (Str) (Rat) (Int) (Int))) × (List Rat × Bool))) (et_eq (ex_var (i := 9) (x := way_43) rfl) ex_int) (fun hk153 => ?_) (fun hk153 => ?_) ?_
            · replace hok := hok1 hk153
              change SX _ _ _ [Sl.dat script_, Sl.dat first_1, Sl.dat some_3, Sl.own (OL.mk rows_4), Sl.own (OL.mk settled_27), _, Sl.dat goal_28, Sl.own (OL.mk prices_32), Sl.own (OL.mk shares_37), Sl.dat way_43, Sl.dat wrong_44, _, _, _, _, _, _, _] _
              obtain ⟨v141, v142, v143, hok⟩ := hok
              let side_137 : Int := ((((List.filter (fun (x138 : (Key × Rat)) => (decide (x138.1 = (Sum.inr (List.getD some_3 (Int.toNat (0 : Int)) (Str.ofString "")) : Key)))) settled_27).map (fun (x138 : (Key × Rat)) => x138)).length : Int) + (intB (decide (goal_28 = (Sum.inr (List.getD some_3 (Int.toNat (0 : Int)) (Str.ofString "")) : Key)))))
              refine sx_set (i := 13) sc_law.nd (x := side_137) (ex_add (ex_len T.b_len (ex_newL (en_thawL (i := 4) rfl (en_lc (own := [("_law_pair", 17)]) (tt := (tTb _ _ _)) (g := (gName 17)) _ (fun (x138 : (Key × Rat)) => x138) (fun (x138 : (Key × Rat)) => (decide (x138.1 = (Sum.inr (List.getD some_3 (Int.toNat (0 : Int)) (Str.ofString "")) : Key)))) rfl sc_law.nd (blkOk_by (N := ["_law_script", "_law_first", "_law_some", "_law_rows", "_law_settled", "_law_k", "_law_goal", "_law_prices", "_law_shares", "_law_way", "_law_wrong", "_law_at", "_law_price", "_law_side", "_law_beyond", "_law_cell", "_law_one", "_law_pair"]) (sc := defScope s_law) (by decide +kernel)) (R.ix_list (ex_var (i := 4) (x := settled_27) rfl)) v142 (tg_name (wipe_1 17)) (hww_1 17) (fun _ _ _ _ _ => pg_name (i := 17) sc_law.nd rfl (Or.inl rfl)) (fun s' H' C' cl' fp' => mTb s' H' C' cl' fp') (fun x138 hx139 => et_b (fun _ _ _ _ _ => (et_eq (ex_ixT (k := 0) (x := x138.1) (ex_var (i := 17) (x := x138) rfl) ex_int rfl) (ex_keyS (ex_ixD (ex_var (i := 2) (x := some_3) rfl) ex_int (v141 x138 hx139)))))) (fun x138 hx139 ht140 => fun _ _ _ _ _ => (ex_var (i := 17) (x := x138) rfl)))))) (ex_intB T.b_int (ex_eq (ex_var (i := 6) (x := goal_28) rfl) (ex_keyS (ex_ixD (ex_var (i := 2) (x := some_3) rfl) ex_int v143))))) ?_
              change SX _ _ _ [Sl.dat script_, Sl.dat first_1, Sl.dat some_3, Sl.own (OL.mk rows_4), Sl.own (OL.mk settled_27), _, Sl.dat goal_28, Sl.own (OL.mk prices_32), Sl.own (OL.mk shares_37), Sl.dat way_43, Sl.dat wrong_44, _, _, Sl.dat side_137, _, _, _, _] _
              obtain ⟨v145, hok⟩ := hok
              let beyond_144 : Int := ((m_l_mix first_1 (16 : Int)) % (2 : Int))
              refine sx_set (i := 14) sc_law.nd (x := beyond_144) (ex_mod (ex_call (n := "_law_mix") d_l_mix (hr.mono (by decide)) (ea_cons (ex_var (i := 1) (x := first_1) rfl) (ea_cons ex_int ea_nil)) ⟨first_1, (16 : Int), rfl, v145, rfl⟩ (dvs := []) (dxs := []) (fun _ => trivial)) ex_int (by decide)) ?_
              change SX _ _ _ [Sl.dat script_, Sl.dat first_1, Sl.dat some_3, Sl.own (OL.mk rows_4), Sl.own (OL.mk settled_27), _, Sl.dat goal_28, Sl.own (OL.mk prices_32), Sl.own (OL.mk shares_37), Sl.dat way_43, Sl.dat wrong_44, _, _, Sl.dat side_137, Sl.dat beyond_144, _, _, _] _
              obtain ⟨v147, v148, hok⟩ := hok
              let rows_146 : List ((T5 (Dc (Rat)) (Str) (Rat) (Int) (Int))) := rows_4 ++ [(⟨(⟨[((List.getD some_3 (Int.toNat (0 : Int)) (Str.ofString "")), (Rat.divInt (1 : Int) (3 : Int)))]⟩ : Dc (Rat)), (Str.ofString "just"), (5 : Rat), (0 : Int), (1 : Int)⟩ : (T5 (Dc (Rat)) (Str) (Rat) (Int) (Int)))]
              refine sx_app (i := 3) (xs := rows_4) (ps_expr (pe_bm PySem.F.plainAttrs_list PySem.F.slot_list_append PySem.F.type_list_append mt_append (pv 3) (pa_cons (mE _ _) pa_nil))) rfl (ex_tup (p := (⟨(⟨[((List.getD some_3 (Int.toNat (0 : Int)) (Str.ofString "")), (Rat.divInt (1 : Int) (3 : Int)))]⟩ : Dc (Rat)), (Str.ofString "just"), (5 : Rat), (0 : Int), (1 : Int)⟩ : (T5 (Dc (Rat)) (Str) (Rat) (Int) (Int)))) (ea_cons (ex_newD (en_dict1 (ex_ixD (ex_var (i := 2) (x := some_3) rfl) ex_int v147) (ex_isQ (ex_tup (p := ((1 : Int), (3 : Int))) (ea_cons ex_int (ea_cons ex_int ea_nil))) ⟨by decide, by decide⟩))) (ea_cons ex_str (ea_cons (ex_rat (q := (5 : Rat)) (ex_tup (p := ((5 : Int), (1 : Int))) (ea_cons ex_int (ea_cons ex_int ea_nil))) (by decide) (by decide)) (ea_cons ex_int (ea_cons ex_int ea_nil)))))) v148 ?_
              change SX _ _ _ [Sl.dat script_, Sl.dat first_1, Sl.dat some_3, Sl.own (OL.mk rows_146), Sl.own (OL.mk settled_27), _, Sl.dat goal_28, Sl.own (OL.mk prices_32), Sl.own (OL.mk shares_37), Sl.dat way_43, Sl.dat wrong_44, _, _, Sl.dat side_137, Sl.dat beyond_144, _, _, _] _
              obtain ⟨v150, v151, hok⟩ := hok
              let prices_149 : List Rat := prices_32 ++ [(m_l_lowest (((side_137 * (3 : Int)) * (11 : Int)) + beyond_144) (11 : Int))]
              refine sx_app (i := 7) (xs := prices_32) (ps_expr (pe_bm PySem.F.plainAttrs_list PySem.F.slot_list_append PySem.F.type_list_append mt_append (pv 7) (pa_cons (mE _ _) pa_nil))) rfl (ex_call (n := "_law_lowest") d_l_lowest (hr.mono (by decide)) (ea_cons (ex_add (ex_mul (ex_mul (ex_var (i := 13) (x := side_137) rfl) ex_int (.inr ⟨by decide, by decide⟩)) ex_int (.inr ⟨by decide, by decide⟩)) (ex_var (i := 14) (x := beyond_144) rfl)) (ea_cons ex_int ea_nil)) ⟨(((side_137 * (3 : Int)) * (11 : Int)) + beyond_144), (11 : Int), rfl, v150, rfl⟩ (dvs := []) (dxs := []) (fun _ => trivial)) v151 ?_
              change SX _ _ _ [Sl.dat script_, Sl.dat first_1, Sl.dat some_3, Sl.own (OL.mk rows_146), Sl.own (OL.mk settled_27), _, Sl.dat goal_28, Sl.own (OL.mk prices_149), Sl.own (OL.mk shares_37), Sl.dat way_43, Sl.dat wrong_44, _, _, Sl.dat side_137, Sl.dat beyond_144, _, _, _] _
              let wrong_152 : Bool := (decide (beyond_144 = (1 : Int)))
              refine sx_set (i := 10) sc_law.nd (x := wrong_152) (ex_eq (ex_var (i := 14) (x := beyond_144) rfl) ex_int) ?_
              change SX _ _ _ [Sl.dat script_, Sl.dat first_1, Sl.dat some_3, Sl.own (OL.mk rows_146), Sl.own (OL.mk settled_27), _, Sl.dat goal_28, Sl.own (OL.mk prices_149), Sl.own (OL.mk shares_37), Sl.dat way_43, Sl.dat wrong_152, _, _, Sl.dat side_137, Sl.dat beyond_144, _, _, _] _
              exact sx_nil (by repeat' (first | exact trivial | refine ⟨.inr rfl, ?_⟩ | refine ⟨.inl rfl, ?_⟩))
            · replace hok := hok2 hk153
              change SX _ _ _ [Sl.dat script_, Sl.dat first_1, Sl.dat some_3, Sl.own (OL.mk rows_4), Sl.own (OL.mk settled_27), _, Sl.dat goal_28, Sl.own (OL.mk prices_32), Sl.own (OL.mk shares_37), Sl.dat way_43, Sl.dat wrong_44, _, _, _, _, _, _, _] _
              exact sx_nil (by repeat' (first | exact trivial | refine ⟨.inr rfl, ?_⟩ | refine ⟨.inl rfl, ?_⟩))
            let j154 : (List ((T5 (Dc (Rat)) (Str) (Rat) (Int) (Int))) × (List Rat × Bool)) := cond (decide (way_43 = (7 : Int))) (let side_137 : Int := ((((List.filter (fun (x138 : (Key × Rat)) => (decide (x138.1 = (Sum.inr (List.getD some_3 (Int.toNat (0 : Int)) (Str.ofString "")) : Key)))) settled_27).map (fun (x138 : (Key × Rat)) => x138)).length : Int) + (intB (decide (goal_28 = (Sum.inr (List.getD some_3 (Int.toNat (0 : Int)) (Str.ofString "")) : Key))))); (let beyond_144 : Int := ((m_l_mix first_1 (16 : Int)) % (2 : Int)); (let rows_146 : List ((T5 (Dc (Rat)) (Str) (Rat) (Int) (Int))) := rows_4 ++ [(⟨(⟨[((List.getD some_3 (Int.toNat (0 : Int)) (Str.ofString "")), (Rat.divInt (1 : Int) (3 : Int)))]⟩ : Dc (Rat)), (Str.ofString "just"), (5 : Rat), (0 : Int), (1 : Int)⟩ : (T5 (Dc (Rat)) (Str) (Rat) (Int) (Int)))]; (let prices_149 : List Rat := prices_32 ++ [(m_l_lowest (((side_137 * (3 : Int)) * (11 : Int)) + beyond_144) (11 : Int))]; (let wrong_152 : Bool := (decide (beyond_144 = (1 : Int))); (rows_146, (prices_149, wrong_152))))))) (rows_4, (prices_32, wrong_44))
            let rows_155 : List ((T5 (Dc (Rat)) (Str) (Rat) (Int) (Int))) := j154.1
            let prices_156 : List Rat := j154.2.1
            let wrong_157 : Bool := j154.2.2
            change SX _ _ _ [Sl.dat script_, Sl.dat first_1, Sl.dat some_3, Sl.own (OL.mk rows_155), Sl.own (OL.mk settled_27), _, Sl.dat goal_28, Sl.own (OL.mk prices_156), Sl.own (OL.mk shares_37), Sl.dat way_43, Sl.dat wrong_157, _, _, _, _, _, _, _] _
            exact sx_nil (by repeat' (first | exact trivial | refine ⟨.inr rfl, ?_⟩ | refine ⟨.inl rfl, ?_⟩))
          let j159 : (Bool × (List Rat × List ((T5 (Dc (Rat)) (Str) (Rat) (Int) (Int))))) := cond ((decide ((4 : Int) < way_43)) && ((decide (way_43 < (7 : Int))) && (!deq rows_4 ([] : List ((T5 (Dc (Rat)) (Str) (Rat) (Int) (Int))))))) (let at_124 : Int := ((m_l_mix first_1 (14 : Int)) % (rows_4.length : Int)); (let p132 : (Rat × Bool) := (m_l_priced (List.getD rows_4 (Int.toNat at_124) default) (m_l_room (List.getD rows_4 (Int.toNat at_124) default) goal_28 settled_27) (m_l_mix first_1 (15 : Int))); let price_133 : Rat := p132.1; let wrong_134 : Bool := p132.2; (let prices_136 : List Rat := List.set prices_32 (Int.toNat at_124) price_133; (wrong_134, (prices_136, rows_4))))) (let j154 : (List ((T5 (Dc (Rat)) (Str) (Rat) (Int) (Int))) × (List Rat × Bool)) := cond (decide (way_43 = (7 : Int))) (let side_137 : Int := ((((List.filter (fun (x138 : (Key × Rat)) => (decide (x138.1 = (Sum.inr (List.getD some_3 (Int.toNat (0 : Int)) (Str.ofString "")) : Key)))) settled_27).map (fun (x138 : (Key × Rat)) => x138)).length : Int) + (intB (decide (goal_28 = (Sum.inr (List.getD some_3 (Int.toNat (0 : Int)) (Str.ofString "")) : Key))))); (let beyond_144 : Int := ((m_l_mix first_1 (16 : Int)) % (2 : Int)); (let rows_146 : List ((T5 (Dc (Rat)) (Str) (Rat) (Int) (Int))) := rows_4 ++ [(⟨(⟨[((List.getD some_3 (Int.toNat (0 : Int)) (Str.ofString "")), (Rat.divInt (1 : Int) (3 : Int)))]⟩ : Dc (Rat)), (Str.ofString "just"), (5 : Rat), (0 : Int), (1 : Int)⟩ : (T5 (Dc (Rat)) (Str) (Rat) (Int) (Int)))]; (let prices_149 : List Rat := prices_32 ++ [(m_l_lowest (((side_137 * (3 : Int)) * (11 : Int)) + beyond_144) (11 : Int))]; (let wrong_152 : Bool := (decide (beyond_144 = (1 : Int))); (rows_146, (prices_149, wrong_152))))))) (rows_4, (prices_32, wrong_44)); let rows_155 : List ((T5 (Dc (Rat)) (Str) (Rat) (Int) (Int))) := j154.1; let prices_156 : List Rat := j154.2.1; let wrong_157 : Bool := j154.2.2; (wrong_157, (prices_156, rows_155)))
          let wrong_160 : Bool := j159.1
          let prices_161 : List Rat := j159.2.1
          let rows_162 : List ((T5 (Dc (Rat)) (Str) (Rat) (Int) (Int))) := j159.2.2
          change SX _ _ _ [Sl.dat script_, Sl.dat first_1, Sl.dat some_3, Sl.own (OL.mk rows_162), Sl.own (OL.mk settled_27), _, Sl.dat goal_28, Sl.own (OL.mk prices_161), Sl.own (OL.mk shares_37), Sl.dat way_43, Sl.dat wrong_160, _, _, _, _, _, _, _] _
          exact sx_nil (by repeat' (first | exact trivial | refine ⟨.inr rfl, ?_⟩ | refine ⟨.inl rfl, ?_⟩))
        let j164 : (List Rat × (Bool × (List Rat × List ((T5 (Dc (Rat)) (Str) (Rat) (Int) (Int)))))) := cond ((decide (way_43 = (4 : Int))) && (!deq shares_37 ([] : List Rat))) (let shares_120 : List Rat := List.set shares_37 (Int.toNat ((m_l_mix first_1 (12 : Int)) % (shares_37.length : Int))) (Rat.divInt ((-1 : Int)) (((1 : Int) + ((m_l_mix first_1 (13 : Int)) % (99 : Int))))); (let wrong_121 : Bool := true; (shares_120, (wrong_121, (prices_32, rows_4))))) (let j159 : (Bool × (List Rat × List ((T5 (Dc (Rat)) (Str) (Rat) (Int) (Int))))) := cond ((decide ((4 : Int) < way_43)) && ((decide (way_43 < (7 : Int))) && (!deq rows_4 ([] : List ((T5 (Dc (Rat)) (Str) (Rat) (Int) (Int))))))) (let at_124 : Int := ((m_l_mix first_1 (14 : Int)) % (rows_4.length : Int)); (let p132 : (Rat × Bool) := (m_l_priced (List.getD rows_4 (Int.toNat at_124) default) (m_l_room (List.getD rows_4 (Int.toNat at_124) default) goal_28 settled_27) (m_l_mix first_1 (15 : Int))); let price_133 : Rat := p132.1; let wrong_134 : Bool := p132.2; (let prices_136 : List Rat := List.set prices_32 (Int.toNat at_124) price_133; (wrong_134, (prices_136, rows_4))))) (let j154 : (List ((T5 (Dc (Rat)) (Str) (Rat) (Int) (Int))) × (List Rat × Bool)) := cond (decide (way_43 = (7 : Int))) (let side_137 : Int := ((((List.filter (fun (x138 : (Key × Rat)) => (decide (x138.1 = (Sum.inr (List.getD some_3 (Int.toNat (0 : Int)) (Str.ofString "")) : Key)))) settled_27).map (fun (x138 : (Key × Rat)) => x138)).length : Int) + (intB (decide (goal_28 = (Sum.inr (List.getD some_3 (Int.toNat (0 : Int)) (Str.ofString "")) : Key))))); (let beyond_144 : Int := ((m_l_mix first_1 (16 : Int)) % (2 : Int)); (let rows_146 : List ((T5 (Dc (Rat)) (Str) (Rat) (Int) (Int))) := rows_4 ++ [(⟨(⟨[((List.getD some_3 (Int.toNat (0 : Int)) (Str.ofString "")), (Rat.divInt (1 : Int) (3 : Int)))]⟩ : Dc (Rat)), (Str.ofString "just"), (5 : Rat), (0 : Int), (1 : Int)⟩ : (T5 (Dc (Rat)) (Str) (Rat) (Int) (Int)))]; (let prices_149 : List Rat := prices_32 ++ [(m_l_lowest (((side_137 * (3 : Int)) * (11 : Int)) + beyond_144) (11 : Int))]; (let wrong_152 : Bool := (decide (beyond_144 = (1 : Int))); (rows_146, (prices_149, wrong_152))))))) (rows_4, (prices_32, wrong_44)); let rows_155 : List ((T5 (Dc (Rat)) (Str) (Rat) (Int) (Int))) := j154.1; let prices_156 : List Rat := j154.2.1; let wrong_157 : Bool := j154.2.2; (wrong_157, (prices_156, rows_155))); let wrong_160 : Bool := j159.1; let prices_161 : List Rat := j159.2.1; let rows_162 : List ((T5 (Dc (Rat)) (Str) (Rat) (Int) (Int))) := j159.2.2; (shares_37, (wrong_160, (prices_161, rows_162))))
        let shares_165 : List Rat := j164.1
        let wrong_166 : Bool := j164.2.1
        let prices_167 : List Rat := j164.2.2.1
        let rows_168 : List ((T5 (Dc (Rat)) (Str) (Rat) (Int) (Int))) := j164.2.2.2
        change SX _ _ _ [Sl.dat script_, Sl.dat first_1, Sl.dat some_3, Sl.own (OL.mk rows_168), Sl.own (OL.mk settled_27), _, Sl.dat goal_28, Sl.own (OL.mk prices_167), Sl.own (OL.mk shares_165), Sl.dat way_43, Sl.dat wrong_166, _, _, _, _, _, _, _] _
        refine sx_frzL (i := 7) rfl ?_
        refine sx_frzL (i := 8) rfl ?_
        exact sx_nil (by repeat' (first | exact trivial | refine ⟨.inr rfl, ?_⟩ | refine ⟨.inl rfl, ?_⟩))
      let j170 : (List Rat × (List Rat × (Bool × List ((T5 (Dc (Rat)) (Str) (Rat) (Int) (Int)))))) := cond (decide (way_43 < (4 : Int))) (let p109 : (List Rat × List Rat) := (m_l_counts prices_32 shares_37 way_43); let prices_110 : List Rat := p109.1; let shares_111 : List Rat := p109.2; (let wrong_112 : Bool := ((!decide ((prices_110.length : Int) = (rows_4.length : Int))) || (!decide ((shares_111.length : Int) = (settled_27.length : Int)))); (prices_110, (shares_111, (wrong_112, rows_4))))) (let j164 : (List Rat × (Bool × (List Rat × List ((T5 (Dc (Rat)) (Str) (Rat) (Int) (Int)))))) := cond ((decide (way_43 = (4 : Int))) && (!deq shares_37 ([] : List Rat))) (let shares_120 : List Rat := List.set shares_37 (Int.toNat ((m_l_mix first_1 (12 : Int)) % (shares_37.length : Int))) (Rat.divInt ((-1 : Int)) (((1 : Int) + ((m_l_mix first_1 (13 : Int)) % (99 : Int))))); (let wrong_121 : Bool := true; (shares_120, (wrong_121, (prices_32, rows_4))))) (let j159 : (Bool × (List Rat × List ((T5 (Dc (Rat)) (Str) (Rat) (Int) (Int))))) := cond ((decide ((4 : Int) < way_43)) && ((decide (way_43 < (7 : Int))) && (!deq rows_4 ([] : List ((T5 (Dc (Rat)) (Str) (Rat) (Int) (Int))))))) (let at_124 : Int := ((m_l_mix first_1 (14 : Int)) % (rows_4.length : Int)); (let p132 : (Rat × Bool) := (m_l_priced (List.getD rows_4 (Int.toNat at_124) default) (m_l_room (List.getD rows_4 (Int.toNat at_124) default) goal_28 settled_27) (m_l_mix first_1 (15 : Int))); let price_133 : Rat := p132.1; let wrong_134 : Bool := p132.2; (let prices_136 : List Rat := List.set prices_32 (Int.toNat at_124) price_133; (wrong_134, (prices_136, rows_4))))) (let j154 : (List ((T5 (Dc (Rat)) (Str) (Rat) (Int) (Int))) × (List Rat × Bool)) := cond (decide (way_43 = (7 : Int))) (let side_137 : Int := ((((List.filter (fun (x138 : (Key × Rat)) => (decide (x138.1 = (Sum.inr (List.getD some_3 (Int.toNat (0 : Int)) (Str.ofString "")) : Key)))) settled_27).map (fun (x138 : (Key × Rat)) => x138)).length : Int) + (intB (decide (goal_28 = (Sum.inr (List.getD some_3 (Int.toNat (0 : Int)) (Str.ofString "")) : Key))))); (let beyond_144 : Int := ((m_l_mix first_1 (16 : Int)) % (2 : Int)); (let rows_146 : List ((T5 (Dc (Rat)) (Str) (Rat) (Int) (Int))) := rows_4 ++ [(⟨(⟨[((List.getD some_3 (Int.toNat (0 : Int)) (Str.ofString "")), (Rat.divInt (1 : Int) (3 : Int)))]⟩ : Dc (Rat)), (Str.ofString "just"), (5 : Rat), (0 : Int), (1 : Int)⟩ : (T5 (Dc (Rat)) (Str) (Rat) (Int) (Int)))]; (let prices_149 : List Rat := prices_32 ++ [(m_l_lowest (((side_137 * (3 : Int)) * (11 : Int)) + beyond_144) (11 : Int))]; (let wrong_152 : Bool := (decide (beyond_144 = (1 : Int))); (rows_146, (prices_149, wrong_152))))))) (rows_4, (prices_32, wrong_44)); let rows_155 : List ((T5 (Dc (Rat)) (Str) (Rat) (Int) (Int))) := j154.1; let prices_156 : List Rat := j154.2.1; let wrong_157 : Bool := j154.2.2; (wrong_157, (prices_156, rows_155))); let wrong_160 : Bool := j159.1; let prices_161 : List Rat := j159.2.1; let rows_162 : List ((T5 (Dc (Rat)) (Str) (Rat) (Int) (Int))) := j159.2.2; (shares_37, (wrong_160, (prices_161, rows_162)))); let shares_165 : List Rat := j164.1; let wrong_166 : Bool := j164.2.1; let prices_167 : List Rat := j164.2.2.1; let rows_168 : List ((T5 (Dc (Rat)) (Str) (Rat) (Int) (Int))) := j164.2.2.2; (prices_167, (shares_165, (wrong_166, rows_168))))
      let prices_171 : List Rat := j170.1
      let shares_172 : List Rat := j170.2.1
      let wrong_173 : Bool := j170.2.2.1
      let rows_174 : List ((T5 (Dc (Rat)) (Str) (Rat) (Int) (Int))) := j170.2.2.2
      change SX _ _ _ [Sl.dat script_, Sl.dat first_1, Sl.dat some_3, Sl.own (OL.mk rows_174), Sl.own (OL.mk settled_27), _, Sl.dat goal_28, Sl.dat prices_171, Sl.dat shares_172, Sl.dat way_43, Sl.dat wrong_173, _, _, _, _, _, _, _] _
      obtain ⟨v175, v176, hok⟩ := hok
      refine sx_ret (x := (decide ((m_l_word rows_174 some_3 settled_27 goal_28 prices_171 shares_172) = (List.getD [(Str.ofString ""), (Str.ofString "none")] (Int.toNat (intB wrong_173)) (Str.ofString ""))))) (ex_thawL (i := 4) rfl (ex_thawL (i := 3) rfl (ex_eq (ex_call (n := "_law_word") d_l_word (hr.mono (by decide)) (ea_cons (ex_var (i := 3) (x := rows_174) rfl) (ea_cons (ex_var (i := 2) (x := some_3) rfl) (ea_cons (ex_var (i := 4) (x := settled_27) rfl) (ea_cons (ex_var (i := 6) (x := goal_28) rfl) (ea_cons (ex_var (i := 7) (x := prices_171) rfl) (ea_cons (ex_var (i := 8) (x := shares_172) rfl) ea_nil)))))) ⟨rows_174, some_3, settled_27, goal_28, prices_171, shares_172, rfl, v175, rfl⟩ (dvs := []) (dxs := []) (fun _ => trivial)) (ex_ixD (ex_newL (en_lst (xs := [(Str.ofString ""), (Str.ofString "none")]) (ea_cons ex_str (ea_cons ex_str ea_nil)))) (ex_intB T.b_int (ex_var (i := 10) (x := wrong_173) rfl)) v176)))) ?_
      exact hR
end G
set_option maxHeartbeats 400000
set_option autoImplicit false
/-! plain: dicts, loops, fractions -/
namespace R
open PySem PySem.Spec PyProof.Rows L2
section
variable {α : Type}
theorem lookD_cons_eq (p : Str × α) (r : List (Str × α)) (k : Str) (h : p.1 = k) : lookD (p :: r) k = some p.2 := by unfold lookD; rw [List.find?_cons, decide_eq_true h]; rfl
theorem lookD_cons_ne (p : Str × α) (r : List (Str × α)) (k : Str) (h : ¬ p.1 = k) : lookD (p :: r) k = lookD r k := by unfold lookD; rw [List.find?_cons, decide_eq_false h]
theorem lookD_none {kvs : List (Str × α)} {k : Str} : k ∉ kvs.map Prod.fst → lookD kvs k = none := by
  induction kvs with
  | nil => intro _; rfl
  | cons p r ih =>
    intro h
    rw [List.map_cons, List.mem_cons] at h
    rw [lookD_cons_ne _ _ _ (fun e => h (.inl e.symm)), ih fun z => h (.inr z)]
theorem lookD_some {kvs : List (Str × α)} {k : Str} : k ∈ kvs.map Prod.fst → ∃ x, lookD kvs k = some x ∧ (k, x) ∈ kvs := by
  induction kvs with
  | nil => intro h; cases h
  | cons p r ih =>
    intro h
    by_cases e : p.1 = k
    · exact ⟨p.2, lookD_cons_eq _ _ _ e, by rw [← e]; exact List.mem_cons_self⟩
    · rw [lookD_cons_ne _ _ _ e]
      rw [List.map_cons, List.mem_cons] at h
      obtain ⟨x, h1, h2⟩ := ih (h.resolve_left fun z => e z.symm)
      exact ⟨x, h1, List.mem_cons_of_mem _ h2⟩
theorem lookD_app {kvs ls : List (Str × α)} {k : Str} : lookD (kvs ++ ls) k = (lookD kvs k).or (lookD ls k) := by
  induction kvs with
  | nil => rfl
  | cons p r ih =>
    by_cases e : p.1 = k
    · rw [List.cons_append, lookD_cons_eq _ _ _ e, lookD_cons_eq _ _ _ e]; rfl
    · rw [List.cons_append, lookD_cons_ne _ _ _ e, lookD_cons_ne _ _ _ e, ih]
theorem any_keys (kvs : List (Str × α)) (k : Str) : (kvs.any fun p => decide (p.1 = k)) = true ↔ k ∈ kvs.map Prod.fst := by
  rw [List.any_eq_true, List.mem_map]
  constructor
  · rintro ⟨p, h1, h2⟩; exact ⟨p, h1, of_decide_eq_true h2⟩
  · rintro ⟨p, h1, h2⟩; exact ⟨p, h1, decide_eq_true h2⟩
theorem putD_new {kvs : List (Str × α)} {k : Str} {x : α} (h : k ∉ kvs.map Prod.fst) : putD kvs k x = kvs ++ [(k, x)] := by
  unfold putD
  rw [if_neg fun z => h ((any_keys kvs k).mp z)]
theorem putD_keys (kvs : List (Str × α)) (k : Str) (x : α) : (putD kvs k x).map Prod.fst = if k ∈ kvs.map Prod.fst then kvs.map Prod.fst else kvs.map Prod.fst ++ [k] := by
  unfold putD
  by_cases h : k ∈ kvs.map Prod.fst
  · rw [if_pos ((any_keys kvs k).mpr h), if_pos h, List.map_map]
    refine List.map_congr_left fun p _ => ?_
    show (if p.1 = k then (p.1, x) else p).1 = p.1
    split <;> rfl
  · rw [if_neg fun z => h ((any_keys kvs k).mp z), if_neg h, List.map_append]; rfl
theorem putD_nodup {kvs : List (Str × α)} {k : Str} {x : α} (h : (kvs.map Prod.fst).Nodup) : ((putD kvs k x).map Prod.fst).Nodup := by
  rw [putD_keys]
  split
  · exact h
  · rename_i n
    rw [List.nodup_append]
    exact ⟨h, by simp, fun a ha b hb e => by rw [List.mem_singleton] at hb; subst hb; subst e; exact n ha⟩
theorem lookD_put_same {kvs : List (Str × α)} {k : Str} {x : α} : lookD (putD kvs k x) k = some x := by
  unfold putD
  by_cases h : k ∈ kvs.map Prod.fst
  · rw [if_pos ((any_keys kvs k).mpr h)]
    induction kvs with
    | nil => cases h
    | cons p r ih =>
      rw [List.map_cons]
      by_cases e : p.1 = k
      · rw [if_pos e]; exact lookD_cons_eq _ _ _ e
      · rw [if_neg e, lookD_cons_ne _ _ _ e]
        rw [List.map_cons, List.mem_cons] at h
        exact ih (h.resolve_left fun z => e z.symm)
  · rw [if_neg fun z => h ((any_keys kvs k).mp z), lookD_app, lookD_none h]
    exact lookD_cons_eq _ _ _ rfl
theorem lookD_put_ne {kvs : List (Str × α)} {k j : Str} {x : α} (hj : j ≠ k) : lookD (putD kvs k x) j = lookD kvs j := by
  unfold putD
  by_cases h : k ∈ kvs.map Prod.fst
  · rw [if_pos ((any_keys kvs k).mpr h)]
    clear h
    induction kvs with
    | nil => rfl
    | cons p r ih =>
      rw [List.map_cons]
      by_cases e : p.1 = k
      · rw [if_pos e, lookD_cons_ne (p.1, x) _ _ (fun z => hj (z.symm.trans e)), lookD_cons_ne _ _ _ (fun z => hj (z.symm.trans e)), ih]
      · rw [if_neg e]
        by_cases e2 : p.1 = j
        · rw [lookD_cons_eq _ _ _ e2, lookD_cons_eq _ _ _ e2]
        · rw [lookD_cons_ne _ _ _ e2, lookD_cons_ne _ _ _ e2, ih]
  · rw [if_neg fun z => h ((any_keys kvs k).mp z), lookD_app, lookD_cons_ne _ _ _ (fun z => hj z.symm)]
    show (lookD kvs j).or none = _
    cases lookD kvs j <;> rfl
theorem eqD_refl [Dat α] [DEq α] (hr : ∀ x : α, DEq.eqv x x = true) {kvs : List (Str × α)} (h : (kvs.map Prod.fst).Nodup) : eqD kvs kvs = true := by
  unfold eqD
  rw [beq_self_eq_true, Bool.true_and, List.all_eq_true]
  intro p hp
  unfold hitE
  rw [lookD_mem h hp]
  exact hr p.2
theorem deq_rat (x y : Rat) : deq x y = decide (x = y) := rfl
theorem deq_dict {x y : Dc α} [Dat α] [DEq α] : deq x y = eqD x.kvs y.kvs := rfl
end
section
variable {S τ : Type}
theorem fold_inv (I : List τ → S → Prop) {okb : S → τ → Prop} {step : S → τ → S} (h : ∀ x r s, I (x :: r) s → okb s x ∧ I r (step s x)) : ∀ (xs : List τ) (s : S), I xs s → okFold okb step s xs ∧ I [] (xs.foldl step s)
  | [], s, i => ⟨trivial, i⟩
  | x :: r, s, i => by
    obtain ⟨h1, h2⟩ := h x r s i
    obtain ⟨h3, h4⟩ := fold_inv I h r (step s x) h2
    exact ⟨⟨h1, h3⟩, h4⟩
theorem fold_range (I : Nat → S → Prop) {okb : S → Int → Prop} {step : S → Int → S} {n : Int} {s : S} (h0 : I 0 s) (h : ∀ (i : Nat) s, (i : Int) < n → I i s → okb s (i : Int) ∧ I (i + 1) (step s (i : Int))) : okFold okb step s (rangeI n) ∧ I n.toNat ((rangeI n).foldl step s) := by
  have key := fold_inv (fun (r : List Int) s => ∃ i, i ≤ n.toNat ∧ r = (rangeI n).drop i ∧ I i s) (okb := okb) (step := step) (fun x r s ⟨i, hi, hr, hI⟩ => by
    obtain ⟨g1, g2, g3⟩ := drop_cons hr.symm
    have hl : (rangeI n).length = n.toNat := by unfold rangeI; simp
    have hx : x = (i : Int) := by
      unfold rangeI at g1
      rw [List.getElem?_map, List.getElem?_range (by omega)] at g1
      exact (Option.some.inj g1).symm
    subst hx
    obtain ⟨k1, k2⟩ := h i s (by omega) hI
    exact ⟨k1, i + 1, by omega, g2.symm, k2⟩) (rangeI n) s ⟨0, Nat.zero_le _, rfl, h0⟩
  obtain ⟨k1, i, hi, hr, hI⟩ := key
  have hl : (rangeI n).length = n.toNat := by unfold rangeI; simp
  have : i = n.toNat := by
    have := congrArg List.length hr
    rw [List.length_drop, hl] at this
    simp at this
    omega
  subst this
  exact ⟨k1, hI⟩
theorem run_inv {ρ : Type} (I : List τ → S → Prop) {okb : S → τ → Prop} {step : S → τ → Stp S ρ} (h : ∀ x r s, I (x :: r) s → okb s x ∧ ∃ s', step s x = .go s' ∧ I r s') : ∀ (xs : List τ) (s : S), I xs s → okRun okb step s xs ∧ ∃ s', runL step s xs = .go s' ∧ I [] s'
  | [], s, i => ⟨trivial, s, rfl, i⟩
  | x :: r, s, i => by
    obtain ⟨h1, s', h2, h3⟩ := h x r s i
    obtain ⟨h4, s2, h5, h6⟩ := run_inv I h r s' h3
    refine ⟨⟨h1, ?_⟩, s2, ?_, h6⟩
    · rw [h2]; exact h4
    · show (match step s x with | .go s' => runL step s' r | .brk s' => .brk s' | .ret r => .ret r) = _
      rw [h2]; exact h5
end
/-! fractions by their parts -/
theorem divInt_pos {t b : Int} (hb : 0 < b) : 0 < (Rat.divInt t b).num ↔ 0 < t := by
  have e := divInt_cross (t := t) (Int.ne_of_gt hb)
  have hd := den_pos (Rat.divInt t b)
  constructor
  · intro h
    have h1 : 0 < (Rat.divInt t b).num * b := Int.mul_pos h hb
    rw [e] at h1
    exact Int.pos_of_mul_pos_right h1 hd
  · intro h
    have h1 : 0 < (((Rat.divInt t b).den : Nat) : Int) * t := Int.mul_pos hd h
    rw [← e] at h1
    exact Int.pos_of_mul_pos_left h1 hb
theorem absI_eq (i : Int) : absI i = (i.natAbs : Int) := by unfold absI; split <;> omega
theorem isQ_abs {t b : Int} (h : IsQ t b) : IsQ (absI t) b := ⟨h.1, by rw [← h.2]; unfold Int.gcd; rw [absI_nat]⟩
theorem divInt_own (q : Rat) : Rat.divInt q.num ((q.den : Nat) : Int) = q := Rat.num_divInt_den q
theorem divInt_abs {t b : Int} (hb : 0 < b) : Rat.divInt (absI (Rat.divInt t b).num) (((Rat.divInt t b).den : Nat) : Int) = Rat.divInt (absI t) b := by
  rw [Rat.divInt_eq_divInt_iff (Int.ne_of_gt (den_pos _)) (Int.ne_of_gt hb), absI_eq, absI_eq]
  have e := congrArg Int.natAbs (divInt_cross (t := t) (Int.ne_of_gt hb))
  rw [Int.natAbs_mul, Int.natAbs_mul, Int.natAbs_natCast] at e
  have eb : b = (b.natAbs : Int) := by omega
  rw [eb]
  have e2 : (((Rat.divInt t b).num.natAbs * b.natAbs : Nat) : Int) = (((Rat.divInt t b).den * t.natAbs : Nat) : Int) := congrArg Int.ofNat e
  rw [Int.natCast_mul, Int.natCast_mul] at e2
  rw [← eb]
  rw [← eb] at e2
  rw [e2, Int.mul_comm]
end R
set_option maxHeartbeats 1000000
set_option autoImplicit false
/-! plain: texts, parts of lists -/
namespace R
open PySem PySem.Spec PyProof.Rows L2
theorem sl_app (a b : Str) : (a ++ b).length = a.length + b.length := Str.length_append a b
theorem sl_at (x : Str) (i : Int) : (strAt x i).length = 1 := rfl
theorem sl_cut (x : Str) (lo hi : Option Int) : (cutSt x lo hi).length ≤ x.length := by
  unfold cutSt cutS
  show Array.size _ ≤ _
  rw [List.size_toArray, List.length_take, List.length_drop]
  have : x.cps.toList.length = x.length := by rw [Array.length_toList]; rfl
  omega
theorem sl_rep (x : Str) (n : Int) : (repS x n).length = n.toNat * x.length := by
  unfold repS
  show Array.size _ = _
  generalize n.toNat = m
  have : ∀ (m : Nat) (a : Array Nat), ((List.replicate m x.cps).foldl (· ++ ·) a).size = a.size + m * x.length := by
    intro m
    induction m with
    | zero => intro a; simp
    | succ m ih =>
      intro a
      rw [List.replicate_succ, List.foldl_cons, ih, Array.size_append, Nat.add_mul]
      show a.size + x.length + _ = _
      omega
  rw [this]
  simp
theorem sl_show {i : Int} {k : Nat} (hk : 0 < k) (h : i.natAbs < 2 ^ k) : (showI i).length ≤ k + 1 := by
  unfold showI
  rw [PySem.ofString_length]
  refine int_text_length_le hk ?_
  by_cases z : i.natAbs = 0
  · rw [z]; simpa using hk
  · exact (Nat.log2_lt z).mpr h
theorem shown {i : Int} {k : Nat} (h : i.natAbs < 2 ^ k) (hk : 0 < k) (hk2 : k ≤ 1920) : Shown i := by
  unfold Shown
  refine Nat.lt_of_lt_of_le ?_ hk2
  by_cases z : i.natAbs = 0
  · rw [z]; simpa using hk
  · exact (Nat.log2_lt z).mpr h
theorem cutL_from {τ : Type} (xs : List τ) (a : Nat) : cutL xs (some (a : Int)) none = xs.drop a := by
  unfold cutL
  rw [HT.sIx_nat, HT.sIx_none]
  by_cases h : a ≤ xs.length
  · rw [Nat.min_eq_left h, List.take_of_length_le (by rw [List.length_drop]; exact Nat.le_refl _)]
  · rw [Nat.min_eq_right (by omega), List.drop_of_length_le (Nat.le_refl _), List.drop_of_length_le (by omega)]; simp
theorem cutL_to {τ : Type} (xs : List τ) (b : Nat) : cutL xs none (some (b : Int)) = xs.take b := by
  unfold cutL
  rw [HT.sIx_nat, HT.sIx_none, List.drop_zero, Nat.sub_zero]
  by_cases h : b ≤ xs.length
  · rw [Nat.min_eq_left h]
  · rw [Nat.min_eq_right (by omega), List.take_of_length_le (Nat.le_refl _), List.take_of_length_le (by omega)]
theorem cutL_ab {τ : Type} (xs : List τ) (a b : Nat) : cutL xs (some (a : Int)) (some (b : Int)) = (xs.drop a).take (b - a) := by
  unfold cutL
  rw [HT.sIx_nat, HT.sIx_nat]
  by_cases h : a ≤ xs.length
  · rw [Nat.min_eq_left h]
    by_cases h2 : b ≤ xs.length
    · rw [Nat.min_eq_left h2]
    · rw [Nat.min_eq_right (by omega), List.take_of_length_le (by rw [List.length_drop]; exact Nat.le_refl _), List.take_of_length_le (by rw [List.length_drop]; omega)]
  · rw [List.drop_of_length_le (show xs.length ≤ min a xs.length by omega), List.drop_of_length_le (show xs.length ≤ a by omega)]; simp
theorem cutL_len {τ : Type} (xs : List τ) (lo hi : Option Int) : (cutL xs lo hi).length ≤ xs.length := by
  unfold cutL
  rw [List.length_take, List.length_drop]
  omega
theorem cutL_mem {τ : Type} {xs : List τ} {lo hi : Option Int} {x : τ} (h : x ∈ cutL xs lo hi) : x ∈ xs := List.mem_of_mem_drop (List.mem_of_mem_take h)
theorem getD_mem {τ : Type} {xs : List τ} {d : τ} {i : Nat} (h : i < xs.length) : xs.getD i d ∈ xs := by
  rw [List.getD_eq_getElem?_getD, List.getElem?_eq_getElem h]
  exact List.getElem_mem h
theorem deq_str (x y : Str) : deq x y = decide (x = y) := rfl
theorem mem_rangeI {n x : Int} : x ∈ rangeI n ↔ 0 ≤ x ∧ x < n := by
  unfold rangeI
  rw [List.mem_map]
  constructor
  · rintro ⟨k, h1, h2⟩
    rw [List.mem_range] at h1
    have : (k : Int) = x := h2
    omega
  · intro h
    exact ⟨x.toNat, List.mem_range.mpr (by omega), by show ((x.toNat : Nat) : Int) = x; omega⟩
theorem mem_rangeAB {a b x : Int} : x ∈ rangeAB a b ↔ a ≤ x ∧ x < b := by
  unfold rangeAB
  rw [List.mem_map]
  constructor
  · rintro ⟨k, h1, h2⟩
    rw [List.mem_range] at h1
    omega
  · intro h
    exact ⟨(x - a).toNat, List.mem_range.mpr (by omega), by omega⟩
theorem len_rangeI (n : Int) : (rangeI n).length = n.toNat := by unfold rangeI; simp
theorem len_rangeAB (a b : Int) : (rangeAB a b).length = (b - a).toNat := by unfold rangeAB; simp
/-- a loop that appends is a map -/
theorem fold_app {σ τ : Type} {okb : List τ → σ → Prop} {step : List τ → σ → List τ} (f : σ → List τ) (N : Nat) : ∀ (xs : List σ) (acc : List τ), (∀ x ∈ xs, (f x).length ≤ N) → (∀ acc x, x ∈ xs → acc.length < 100000 - N → okb acc x ∧ step acc x = acc ++ f x) → acc.length + xs.length * N < 100000 - N → okFold okb step acc xs ∧ xs.foldl step acc = acc ++ xs.flatMap f
  | [], acc, _, _, _ => ⟨trivial, by simp⟩
  | x :: r, acc, hN, h, hl => by
    rw [List.length_cons, Nat.add_mul] at hl
    obtain ⟨h1, h2⟩ := h acc x List.mem_cons_self (by omega)
    have hx := hN x List.mem_cons_self
    obtain ⟨h3, h4⟩ := fold_app f N r (step acc x) (fun y hy => hN y (List.mem_cons_of_mem _ hy)) (fun a y hy => h a y (List.mem_cons_of_mem _ hy)) (by rw [h2, List.length_append]; omega)
    exact ⟨⟨h1, h3⟩, by rw [List.foldl_cons, h4, h2, List.flatMap_cons, List.append_assoc]⟩
/-- a test in a loop that always goes on -/
theorem run_all {σ τ : Type} {okb : Unit → σ → Prop} {step : Unit → σ → Stp Unit τ} : ∀ (xs : List σ), (∀ x ∈ xs, okb () x ∧ step () x = .go ()) → okRun okb step () xs ∧ runL step () xs = .go ()
  | [], _ => ⟨trivial, rfl⟩
  | x :: r, h => by
    obtain ⟨h1, h2⟩ := h x List.mem_cons_self
    obtain ⟨h3, h4⟩ := run_all (okb := okb) (step := step) r fun y hy => h y (List.mem_cons_of_mem _ hy)
    refine ⟨⟨h1, by rw [h2]; exact h3⟩, ?_⟩
    unfold runL
    rw [h2]; exact h4
theorem fin_eq {S ρ τ : Type} {o : Stp S ρ} {k : S → τ} {h : ρ → τ} {s : S} (e : o = .go s) : o.fin k h = k s := by rw [e]; rfl
theorem go_inj {S ρ : Type} {o : Stp S ρ} {s s' : S} (e : o = .go s) (h : o = .go s' ∨ o = .brk s') : s' = s := by
  rw [e] at h
  rcases h with h | h
  · cases h; rfl
  · cases h
theorem eqL_refl {α : Type} [Dat α] [DEq α] (hr : ∀ x : α, DEq.eqv x x = true) : ∀ xs : List α, eqL xs xs = true
  | [] => rfl
  | x :: xs => by
    show (DEq.eqv x x && eqL xs xs) = true
    rw [hr, eqL_refl hr xs]; rfl
theorem deq_ls (xs : List Str) : deq xs xs = true := eqL_refl (fun x => decide_eq_true rfl) xs
end R
set_option maxHeartbeats 1000000
set_option autoImplicit false
/-! plain: sums of fractions -/
namespace R
open PySem PySem.Spec PyProof.Rows L2
def sumQ : List Rat → Rat
  | [] => 0
  | x :: r => x + sumQ r
theorem sumQ_app : ∀ xs ys : List Rat, sumQ (xs ++ ys) = sumQ xs + sumQ ys
  | [], ys => by show sumQ ys = 0 + sumQ ys; rw [Rat.zero_add]
  | x :: r, ys => by show x + sumQ (r ++ ys) = x + sumQ r + sumQ ys; rw [sumQ_app r ys, Rat.add_assoc]
theorem sumQ_one (x : Rat) : sumQ [x] = x := Rat.add_zero x
theorem sumQ_filter {τ : Type} (p : τ → Bool) (f : τ → Rat) : ∀ xs : List τ, sumQ ((xs.filter p).map f) = sumQ (xs.map fun x => if p x = true then f x else 0)
  | [] => rfl
  | x :: r => by
    rw [List.filter_cons, List.map_cons]
    show _ = (if p x = true then f x else 0) + sumQ _
    rw [← sumQ_filter p f r]
    split
    · rfl
    · rw [Rat.zero_add]
theorem sumQ_congr {τ : Type} {f g : τ → Rat} {xs : List τ} (h : ∀ x ∈ xs, f x = g x) : sumQ (xs.map f) = sumQ (xs.map g) := by
  rw [List.map_congr_left h]
theorem sumQ_neg {τ : Type} (f : τ → Rat) : ∀ xs : List τ, sumQ (xs.map fun x => - f x) = - sumQ (xs.map f)
  | [] => by show (0 : Rat) = -0; rw [Rat.neg_zero]
  | x :: r => by
    show - f x + sumQ _ = - (f x + sumQ _)
    rw [sumQ_neg f r]; grind
theorem sumQ_mulr {τ : Type} (f : τ → Rat) (c : Rat) : ∀ xs : List τ, sumQ (xs.map fun x => f x * c) = sumQ (xs.map f) * c
  | [] => by show (0 : Rat) = 0 * c; rw [Rat.zero_mul]
  | x :: r => by
    show f x * c + sumQ _ = (f x + sumQ _) * c
    rw [sumQ_mulr f c r]; grind
theorem fold_qsum {τ : Type} {okb : Rat → τ → Prop} {step : Rat → τ → Rat} (g : τ → Rat) (w N : Nat) : ∀ (xs : List τ) (b : Nat) (s : Rat), QB b s → (∀ x ∈ xs, QB w (g x)) → (∀ x ∈ xs, ∀ n s, QB n s → 0 < n → n ≤ N → okb s x ∧ step s x = s + g x) → 0 < b → b + xs.length * (w + 1) ≤ N →
    okFold okb step s xs ∧ xs.foldl step s = s + sumQ (xs.map g) ∧ QB (b + xs.length * (w + 1)) (s + sumQ (xs.map g))
  | [], b, s, hs, _, _, _, _ => ⟨trivial, by show s = s + 0; rw [Rat.add_zero], by show QB _ (s + 0); rw [Rat.add_zero]; exact hs.mono (by simp)⟩
  | x :: r, b, s, hs, hw, h, hb, hl => by
    rw [List.length_cons, Nat.add_mul] at hl
    obtain ⟨h1, h2⟩ := h x List.mem_cons_self b s hs hb (by omega)
    have hq : QB (b + w + 1) (s + g x) := hs.add (hw x List.mem_cons_self)
    obtain ⟨k1, k2, k3⟩ := fold_qsum (okb := okb) (step := step) g w N r (b + w + 1) (s + g x) hq (fun y hy => hw y (List.mem_cons_of_mem _ hy)) (fun y hy => h y (List.mem_cons_of_mem _ hy)) (by omega) (by omega)
    have e : s + sumQ ((x :: r).map g) = s + g x + sumQ (r.map g) := by
      show s + (g x + sumQ _) = _
      rw [Rat.add_assoc]
    refine ⟨⟨h1, by rw [h2]; exact k1⟩, by rw [List.foldl_cons, h2, k2, e], ?_⟩
    rw [e]
    refine k3.mono ?_
    rw [List.length_cons, Nat.add_mul]
    omega
theorem okFold_app {S τ : Type} {okb : S → τ → Prop} {step : S → τ → S} : ∀ {xs ys : List τ} {s : S}, okFold okb step s xs → okFold okb step (xs.foldl step s) ys → okFold okb step s (xs ++ ys)
  | [], _, _, _, h => h
  | _ :: _, _, _, h, g => ⟨h.1, okFold_app h.2 g⟩
theorem zip_map_get {α β : Type} {xs : List α} {d : α} {g : α → Int → β} {n : Int} (h : n = (xs.length : Int)) {x : α × β} (hx : x ∈ List.zip xs (List.map (fun k : Int => g (xs.getD k.toNat d) k) (rangeI n))) : x.1 ∈ xs ∧ ∃ k, x.2 = g x.1 k := by
  subst h
  obtain ⟨i, hi⟩ := List.getElem?_of_mem hx
  obtain ⟨x1, x2⟩ := x
  rw [List.getElem?_zip_eq_some] at hi
  obtain ⟨h1, h2⟩ := hi
  have hl : i < xs.length := (List.getElem?_eq_some_iff.mp h1).1
  refine ⟨List.mem_of_getElem? h1, (i : Int), ?_⟩
  unfold rangeI at h2
  rw [Int.toNat_natCast, List.map_map, List.getElem?_map, List.getElem?_range hl] at h2
  have h2 : g (xs.getD ((i : Int)).toNat d) (i : Int) = x2 := Option.some.inj h2
  rw [Int.toNat_natCast, List.getD_eq_getElem?_getD, h1] at h2
  exact h2.symm
theorem cutL_nodup {τ : Type} {xs : List τ} (h : xs.Nodup) (lo hi : Option Int) : (cutL xs lo hi).Nodup := h.sublist ((List.take_sublist _ _).trans (List.drop_sublist _ _))
theorem sumQ_qb {τ : Type} (g : τ → Rat) (w : Nat) : ∀ (xs : List τ) (b : Nat) (s : Rat), QB b s → (∀ x ∈ xs, QB w (g x)) → QB (b + xs.length * (w + 1)) (s + sumQ (xs.map g))
  | [], b, s, hs, _ => by show QB _ (s + 0); rw [Rat.add_zero]; exact hs.mono (by simp)
  | x :: r, b, s, hs, hw => by
    have k := sumQ_qb g w r (b + w + 1) (s + g x) (hs.add (hw x List.mem_cons_self)) fun y hy => hw y (List.mem_cons_of_mem _ hy)
    have e : s + sumQ ((x :: r).map g) = s + g x + sumQ (r.map g) := by
      show s + (g x + sumQ _) = _
      rw [Rat.add_assoc]
    rw [e]
    refine k.mono ?_
    rw [List.length_cons, Nat.add_mul]
    omega
theorem QB.one' {n : Nat} (h : 0 < n) : QB n (1 : Rat) := QB.one.mono h
theorem QB.zero' {n : Nat} (h : 0 < n) : QB n (0 : Rat) := QB.zero.mono h
/-- what a table has at a name -/
def cfD (d : Dc Rat) (k : Str) : Rat := (d.look k).getD 0
theorem cfD_no {d : Dc Rat} {k : Str} (h : d.has k = false) : cfD d k = 0 := by
  unfold cfD Dc.look
  unfold Dc.has at h
  cases e : lookD d.kvs k with
  | none => rfl
  | some x => rw [e] at h; cases h
theorem has_some {d : Dc Rat} {k : Str} (h : d.has k = true) : (d.look k).isSome = true := h
theorem look_mem {α : Type} {kvs : List (Str × α)} {k : Str} {x : α} (h : lookD kvs k = some x) : (k, x) ∈ kvs := by
  have hk : k ∈ kvs.map Prod.fst := by
    by_cases z : k ∈ kvs.map Prod.fst
    · exact z
    · rw [lookD_none z] at h; cases h
  obtain ⟨y, h1, h2⟩ := lookD_some hk
  rw [h] at h1
  cases h1
  exact h2
theorem cfD_qb {d : Dc Rat} {n : Nat} (h : ∀ p ∈ d.kvs, QB n p.2) (hn : 0 < n) (k : Str) : QB n (cfD d k) := by
  unfold cfD Dc.look
  cases e : lookD d.kvs k with
  | none => exact QB.zero' hn
  | some x => exact h _ (look_mem e)
theorem lt_sub {x y : Rat} : x < y ↔ 0 < y - x := by
  constructor
  · intro h; grind
  · intro h; grind
theorem numz {x : Rat} (h : x.num = 0) : x = 0 := by
  have := divInt_own x
  rw [h, Rat.zero_divInt] at this
  exact this.symm
theorem num_pos {x : Rat} : 0 < x.num ↔ 0 < x := by
  constructor
  · intro h
    have h1 : 0 ≤ x := Rat.num_nonneg.mp (by omega)
    have h2 : x ≠ 0 := fun z => by subst z; exact absurd h (by decide)
    grind
  · intro h
    have h1 : 0 ≤ x.num := Rat.num_nonneg.mpr (by grind)
    have h2 : x.num ≠ 0 := fun z => by rw [numz z] at h; exact absurd h (by decide)
    omega
theorem num_neg' {x : Rat} : x.num < 0 ↔ x < 0 := by
  constructor
  · intro h
    by_cases z : x < 0
    · exact z
    · have : 0 ≤ x := by grind
      have := Rat.num_nonneg.mpr this
      omega
  · intro h
    by_cases z : x.num < 0
    · exact z
    · have : 0 ≤ x := Rat.num_nonneg.mp (by omega)
      grind
theorem fold_enum {σ τ : Type} {okb : σ → Int × τ → Prop} {step : σ → Int × τ → σ} (I : Nat → σ → Prop) (xs : List τ) (d : τ) {s : σ} (h0 : I 0 s) (h : ∀ (i : Nat) s, i < xs.length → I i s → okb s ((i : Int), xs.getD i d) ∧ I (i + 1) (step s ((i : Int), xs.getD i d))) : okFold okb step s (enumI xs) ∧ I xs.length ((enumI xs).foldl step s) := by
  have hl : (enumI xs).length = xs.length := by unfold enumI; simp
  have key := fold_inv (fun (r : List (Int × τ)) s => ∃ i, i ≤ xs.length ∧ r = (enumI xs).drop i ∧ I i s) (okb := okb) (step := step) (fun x r s ⟨i, hi, hr, hI⟩ => by
    obtain ⟨g1, g2, g3⟩ := drop_cons hr.symm
    rw [hl] at g3
    have hx : x = ((i : Int), xs.getD i d) := by
      unfold enumI at g1
      rw [List.getElem?_mapIdx, List.getElem?_eq_getElem g3] at g1
      have := Option.some.inj g1
      rw [← this, List.getD_eq_getElem?_getD, List.getElem?_eq_getElem g3]
      rfl
    subst hx
    obtain ⟨k1, k2⟩ := h i s g3 hI
    exact ⟨k1, i + 1, by omega, g2.symm, k2⟩) (enumI xs) s ⟨0, Nat.zero_le _, rfl, h0⟩
  obtain ⟨k1, i, hi, hr, hI⟩ := key
  have : i = xs.length := by
    have := congrArg List.length hr
    rw [List.length_drop, hl] at this
    simp at this
    omega
  subst this
  exact ⟨k1, hI⟩
theorem mem_put' {α : Type} {kvs : List (Str × α)} {k : Str} {x : α} {p : Str × α} (h : p ∈ putD kvs k x) : p = (k, x) ∨ p ∈ kvs := by
  unfold putD at h
  split at h
  · obtain ⟨q, h1, h2⟩ := List.mem_map.mp h
    split at h2
    · rename_i e; exact .inl (by rw [← h2, e])
    · exact .inr (by rw [← h2]; exact h1)
  · rcases List.mem_append.mp h with h | h
    · exact .inr h
    · exact .inl (List.mem_singleton.mp h)
/-! rows compared with themselves -/
theorem deq_refl_dc (d : Dc Rat) (h : (d.kvs.map Prod.fst).Nodup) : deq d d = true := eqD_refl (fun x => decide_eq_true rfl) h
theorem deq_refl_l {α : Type} [Dat α] [DEq α] : ∀ xs : List α, (∀ x ∈ xs, DEq.eqv x x = true) → deq xs xs = true := fun xs h => by
  show eqL xs xs = true
  induction xs with
  | nil => rfl
  | cons x r ih =>
    show (DEq.eqv x x && eqL r r) = true
    rw [h x List.mem_cons_self, ih fun y hy => h y (List.mem_cons_of_mem _ hy)]; rfl
theorem deq_refl_row {one : T5 (Dc Rat) Str Rat Int Int} (h : (one.a.kvs.map Prod.fst).Nodup) : DEq.eqv one one = true := by
  show (DEq.eqv one.a one.a && (decide (one.b = one.b) && (decide (one.c = one.c) && (decide (one.d = one.d) && decide (one.e = one.e))))) = true
  rw [show DEq.eqv one.a one.a = true from deq_refl_dc one.a h]
  simp
end R
set_option maxHeartbeats 1000000
set_option autoImplicit false
namespace G
open PySem PySem.Spec PyProof.Rows L2 R
theorem okt_cell (s : List Int) (k : Int) (h : 0 ≤ k) : ok_l_cell_at s k := ⟨fun q => ⟨⟨h, of_decide_eq_true q⟩, trivial⟩, fun _ => trivial⟩
theorem p_partP {t b : Int} {n : Nat} (z : b ≠ 0) (h : b.natAbs < 2 ^ n) (l : n ≤ 9000) : ok_partP t b := ⟨z, nb_mono h l⟩
section
variable {x y : Rat} {m n : Nat}
theorem p_minus (hx : QB m x) (hy : QB n y) (h0 : 0 < m) (h1 : 0 < n) (h : m + n ≤ 8000) : ok_minus x y ∧ m_minus x y = x - y ∧ QB (m + n + 1) (x - y) :=
  ⟨⟨mulW hx.1 hy.den' h0 h1 (by omega), mulW hy.1 hx.den' h1 h0 (by omega), mulW hx.den' hy.den' h0 h1 (by omega), p_partP (dens_ne x y) (nb_mul hx.den' hy.den') (Nat.le_trans h (by decide)), trivial⟩, rfl, hx.sub hy⟩
theorem p_times (hx : QB m x) (hy : QB n y) (h0 : 0 < m) (h1 : 0 < n) (h : m + n ≤ 8000) : ok_times x y ∧ m_times x y = x * y ∧ QB (m + n) (x * y) :=
  ⟨⟨mulW hx.1 hy.1 h0 h1 (by omega), mulW hx.den' hy.den' h0 h1 (by omega), p_partP (dens_ne x y) (nb_mul hx.den' hy.den') (Nat.le_trans h (by decide)), trivial⟩, rfl, hx.mul hy⟩
theorem p_plus (hx : QB m x) (hy : QB n y) (h0 : 0 < m) (h1 : 0 < n) (h : m + n ≤ 8000) : ok_plus x y ∧ m_plus x y = x + y ∧ QB (m + n + 1) (x + y) :=
  ⟨⟨mulW hx.1 hy.den' h0 h1 (by omega), mulW hy.1 hx.den' h1 h0 (by omega), mulW hx.den' hy.den' h0 h1 (by omega), p_partP (dens_ne x y) (nb_mul hx.den' hy.den') (Nat.le_trans h (by decide)), trivial⟩, rfl, hx.add hy⟩
end
theorem p_mix (c k : Int) : ok_l_mix c k ∧ 0 ≤ m_l_mix c k ∧ m_l_mix c k < 2147483647 := by
  have key : ∀ x y : Int, CMulW (x % 2147483647) ((x % 2147483647) / y + 69621) := fun x y => by
    have h1 : 0 ≤ x % 2147483647 := Int.emod_nonneg _ (by decide)
    have h2 : x % 2147483647 < 2147483647 := Int.emod_lt_of_pos _ (by decide)
    have h3 := Int.natAbs_ediv_le_natAbs (x % 2147483647) y
    have h4 : (x % 2147483647).natAbs < 2147483647 := by omega
    exact mulW (m := 40) (n := 40) (Nat.lt_trans h4 (by decide)) (by
      have : (x % 2147483647 / y + 69621).natAbs < 2147483647 + 69621 + 1 := by omega
      exact Nat.lt_trans this (by decide)) (by decide) (by decide) (by decide)
  have key' : ∀ x y : Int, CMulW (x % 2147483647) ((x % 2147483647) / y + 30011) := fun x y => by
    have h1 : 0 ≤ x % 2147483647 := Int.emod_nonneg _ (by decide)
    have h2 : x % 2147483647 < 2147483647 := Int.emod_lt_of_pos _ (by decide)
    have h3 := Int.natAbs_ediv_le_natAbs (x % 2147483647) y
    have h4 : (x % 2147483647).natAbs < 2147483647 := by omega
    exact mulW (m := 40) (n := 40) (Nat.lt_trans h4 (by decide)) (by
      have : (x % 2147483647 / y + 30011).natAbs < 2147483647 + 30011 + 1 := by omega
      exact Nat.lt_trans this (by decide)) (by decide) (by decide) (by decide)
  exact ⟨⟨key _ _, key' _ _, trivial⟩, Int.emod_nonneg _ (by decide), Int.emod_lt_of_pos _ (by decide)⟩
theorem p_lowest {t b : Int} {n : Nat} (h : 0 < b) (hb : b.natAbs < 2 ^ n) (hn : n ≤ 9000) : ok_l_lowest t b ∧ m_l_lowest t b = Rat.divInt t b := by
  refine ⟨⟨Int.le_of_lt h, cdiv_gcd (by omega) (nb_mono hb hn), cdiv_gcd (by omega) (nb_mono hb hn), isQ_low h, trivial⟩, ?_⟩
  exact divInt_low h
abbrev Row := T5 (Dc Rat) Str Rat Int Int
structure RowOk (b : Nat) (one : Row) : Prop where
  nod : (one.a.kvs.map Prod.fst).Nodup
  pb : ∀ p ∈ one.a.kvs, QB b p.2
  cb : QB b one.c
  wt : one.e.natAbs < 2 ^ b
def askF (zs : List (Row × Rat)) (u : Str) : Rat := sumQ (zs.map fun x => x.2 * cfD x.1.a u)
def allF (zs : List (Row × Rat)) : Rat := sumQ (zs.map fun x => x.2 * x.1.c)
def oftF (t goal : Key) (zs : List ((Key × Rat) × Rat)) : Rat := cond (decide (goal = t)) 1 0 + sumQ (zs.map fun x => if x.1.1 = t then x.2 else 0)
theorem add_zero' (s x : Rat) (h : x = 0) : s = s + x := by rw [h, Rat.add_zero]
theorem p_asked {rows : List Row} {prices : List Rat} {u : Str} {a b : Nat} (hz : ∀ x ∈ List.zip rows prices, QB a x.2 ∧ RowOk b x.1) (ha : 0 < a) (hb : 0 < b) (hl : 1 + (List.zip rows prices).length * (a + b + 1) ≤ 7000) (hab : a + b ≤ 1000) :
    ok_asked_of rows prices u ∧ m_asked_of rows prices u = askF (List.zip rows prices) u ∧ QB (1 + (List.zip rows prices).length * (a + b + 1)) (askF (List.zip rows prices) u) := by
  have F := fold_qsum (okb := okb_asked_of_2 u) (step := st_asked_of_2 u) (fun x : Row × Rat => x.2 * cfD x.1.a u) (a + b) 7000 (List.zip rows prices) 1 0 QB.zero (fun x hx => (hz x hx).1.mul (cfD_qb (hz x hx).2.pb hb u)) (fun x hx n s hs hn hN => by
    have c1 := cfD_qb (hz x hx).2.pb hb u
    have t1 := p_times (hz x hx).1 c1 ha hb (by omega)
    have t2 := p_plus hs t1.2.2 hn (by omega) (by omega)
    refine ⟨⟨fun h => ⟨has_some h, t1.1, t2.1, trivial⟩, fun _ => trivial, trivial⟩, ?_⟩
    show cond (x.1.a.has u) (s + x.2 * cfD x.1.a u) s = _
    cases e : x.1.a.has u with
    | true => rfl
    | false => rw [cfD_no e, Rat.mul_zero, Rat.add_zero]; rfl) (by decide) hl
  rw [Rat.zero_add] at F
  exact ⟨⟨F.1, trivial⟩, F.2.1, F.2.2⟩
theorem p_all {rows : List Row} {prices : List Rat} {a b : Nat} (hz : ∀ x ∈ List.zip rows prices, QB a x.2 ∧ RowOk b x.1) (ha : 0 < a) (hb : 0 < b) (hl : 1 + (List.zip rows prices).length * (a + b + 1) ≤ 7000) (hab : a + b ≤ 1000) :
    ok_asked_in_all rows prices ∧ m_asked_in_all rows prices = allF (List.zip rows prices) ∧ QB (1 + (List.zip rows prices).length * (a + b + 1)) (allF (List.zip rows prices)) := by
  have F := fold_qsum (okb := okb_asked_in_all_2) (step := st_asked_in_all_2) (fun x : Row × Rat => x.2 * x.1.c) (a + b) 7000 (List.zip rows prices) 1 0 QB.zero (fun x hx => (hz x hx).1.mul (hz x hx).2.cb) (fun x hx n s hs hn hN => by
    have t1 := p_times (hz x hx).1 (hz x hx).2.cb ha hb (by omega)
    have t2 := p_plus hs t1.2.2 hn (by omega) (by omega)
    exact ⟨⟨t1.1, t2.1, trivial⟩, rfl⟩) (by decide) hl
  rw [Rat.zero_add] at F
  exact ⟨⟨F.1, trivial⟩, F.2.1, F.2.2⟩
theorem qb_c (k : Bool) : QB 1 (cond k (1 : Rat) 0) := by cases k; exact QB.zero; exact QB.one
theorem qb_if {a : Nat} {p : Prop} [Decidable p] {x : Rat} (h : QB a x) (ha : 0 < a) : QB a (if p then x else 0) := by
  split
  · exact h
  · exact QB.zero' ha
theorem oftF_qb {t goal : Key} {zs : List ((Key × Rat) × Rat)} {a : Nat} (hz : ∀ x ∈ zs, QB a x.2) (ha : 0 < a) : QB (1 + zs.length * (a + 1)) (oftF t goal zs) := sumQ_qb _ a zs 1 _ (qb_c _) fun x hx => qb_if (hz x hx) ha
theorem p_side {u : Str} {settled : List (Key × Rat)} {goal : Key} {shares : List Rat} {a : Nat} (hz : ∀ x ∈ List.zip settled shares, QB a x.2) (ha : 0 < a) (hl : 1 + (List.zip settled shares).length * (a + 1) ≤ 4000) :
    ok_side_of u settled goal shares ∧ m_side_of u settled goal shares = oftF (.inr u) goal (List.zip settled shares) := by
  by_cases ha4 : a ≤ 4000
  · have F := fold_qsum (okb := okb_side_of_6 u) (step := st_side_of_6 u) (fun x : (Key × Rat) × Rat => if x.1.1 = .inr u then x.2 else 0) a 4000 (List.zip settled shares) 1 (cond (decide (goal = .inr u)) 1 0) (qb_c _) (fun x hx => qb_if (hz x hx) ha) (fun x hx n s hs hn hN => by
      have t2 := p_plus hs (hz x hx) hn ha (by omega)
      refine ⟨⟨fun _ => ⟨t2.1, trivial⟩, fun _ => trivial, trivial⟩, ?_⟩
      show cond (decide (x.1.1 = .inr u)) (s + x.2) s = _
      by_cases e : x.1.1 = .inr u
      · rw [decide_eq_true e, if_pos e]; rfl
      · rw [decide_eq_false e, if_neg e, Rat.add_zero]; rfl) (by decide) hl
    exact ⟨⟨fun _ => trivial, fun _ => trivial, F.1, trivial⟩, F.2.1⟩
  · cases hzs : List.zip settled shares with
    | nil =>
      refine ⟨⟨fun _ => trivial, fun _ => trivial, ?_, trivial⟩, ?_⟩
      · dsimp only; rw [hzs]; exact trivial
      · unfold m_side_of oftF; dsimp only; rw [hzs]; exact (Rat.add_zero _).symm
    | cons x r =>
      exfalso
      rw [hzs, List.length_cons, Nat.add_mul] at hl
      omega
theorem p_room {one : Row} {settled : List (Key × Rat)} {goal : Key} {shares : List Rat} {a b : Nat} (hz : ∀ x ∈ List.zip settled shares, QB a x.2) (ha : 0 < a) (hl : 1 + (List.zip settled shares).length * (a + 1) ≤ 3000) (ha4 : a ≤ 3000) (hw : one.e.natAbs < 2 ^ b) (hb : 0 < b) (hb2 : b ≤ 1000) :
    ok_room_of one settled goal shares ∧ m_room_of one settled goal shares = (one.e : Rat) * oftF (.inl one.d) goal (List.zip settled shares) ∧ QB (b + (1 + (List.zip settled shares).length * (a + 1))) ((one.e : Rat) * oftF (.inl one.d) goal (List.zip settled shares)) := by
  have F := fold_qsum (okb := okb_room_of_6 one) (step := st_room_of_6 one) (fun x : (Key × Rat) × Rat => if x.1.1 = .inl one.d then x.2 else 0) a 3000 (List.zip settled shares) 1 (cond (decide (goal = .inl one.d)) 1 0) (qb_c _) (fun x hx => qb_if (hz x hx) ha) (fun x hx n s hs hn hN => by
      have t2 := p_plus hs (hz x hx) hn ha (by omega)
      refine ⟨⟨fun _ => ⟨t2.1, trivial⟩, fun _ => trivial, trivial⟩, ?_⟩
      show cond (decide (x.1.1 = .inl one.d)) (s + x.2) s = _
      by_cases e : x.1.1 = .inl one.d
      · rw [decide_eq_true e, if_pos e]; rfl
      · rw [decide_eq_false e, if_neg e, Rat.add_zero]; rfl) (by decide) hl
  have e1 : Rat.divInt one.e 1 = (one.e : Rat) := divInt_own (one.e : Rat)
  have q1 : QB b (Rat.divInt one.e 1) := .divInt hw (show (1 : Nat) < 2 ^ b from Nat.one_lt_two_pow (by omega)) (by decide)
  have t := p_times q1 F.2.2 hb (by omega) (by omega)
  refine ⟨⟨fun _ => trivial, fun _ => trivial, F.1, ⟨by decide, Int.gcd_one⟩, ?_, trivial⟩, ?_, ?_⟩
  · dsimp only
    rw [F.2.1]; exact t.1
  · show m_times (Rat.divInt one.e 1) (List.foldl _ _ _) = _
    rw [F.2.1]
    show Rat.divInt one.e 1 * _ = _
    rw [e1]; rfl
  · have := t.2.2
    rw [e1] at this
    exact this
/-- a fraction without its sign -/
def absQ (x : Rat) : Rat := Rat.divInt (absI x.num) ((x.den : Nat) : Int)
theorem absQ_pos {x : Rat} (h : 0 ≤ x) : absQ x = x := by
  unfold absQ absI
  have := Rat.num_nonneg.mpr h
  rw [if_neg (by omega), divInt_own]
theorem absQ_neg (x : Rat) : absQ (-x) = absQ x := by
  unfold absQ
  have e : (-x).num = -x.num := rfl
  have e2 : (-x).den = x.den := rfl
  rw [e, e2]
  congr 1
  unfold absI
  split <;> split <;> omega
theorem neg_own (x : Rat) : Rat.divInt (0 - x.num) ((x.den : Nat) : Int) = -x := by
  rw [show 0 - x.num = -x.num by omega, ← Rat.neg_divInt, divInt_own]
theorem absQ_qb {x : Rat} {n : Nat} (h : QB n x) : QB n (absQ x) := .divInt (by rw [absI_nat]; exact h.1) h.den' (Int.ne_of_gt (den_pos x))
theorem p_under {x y : Rat} {m n : Nat} (hx : QB m x) (hy : QB n y) (h0 : 0 < m) (h1 : 0 < n) (h : m + n ≤ 8000) : ok_under x y := ⟨mulW hx.1 hy.den' h0 h1 (by omega), mulW hy.1 hx.den' h1 h0 (by omega), trivial⟩
theorem p_in_room {p r : Rat} {m n : Nat} (hp : QB m p) (hr : QB n r) (h0 : 0 < m) (h1 : 0 < n) (h : m + n ≤ 8000) : ok_in_room p r ∧ m_in_room p r = !decide (r < absQ p) :=
  ⟨⟨isQ_abs (isQ_own p), p_under hr (absQ_qb hp) h1 h0 (by omega), trivial⟩, rfl⟩
/-- what holds of a price -/
def fitsQ (kind : Str) (p : Rat) : Prop := m_fits_kind kind p = true
/-- the program's own bound, where nothing is put off -/
theorem p_bound {rows : List Row} {us : List Str} {settled : List (Key × Rat)} {goal : Key} {prices shares : List Rat} {a b c : Nat} (l1 : prices.length = rows.length) (l2 : shares.length = settled.length) (h0 : ∀ s ∈ shares, ¬ s.num < 0) (hz : ∀ x ∈ List.zip rows prices, QB a x.2 ∧ RowOk b x.1) (hs : ∀ x ∈ List.zip settled shares, QB c x.2 ∧ QB b x.1.2)
    (ha : 0 < a) (hb : 0 < b) (hc : 0 < c) (hb2 : b ≤ 90) (hl : 1 + (List.zip rows prices).length * (a + b + 1) + (List.zip settled shares).length * (c + b + 1) ≤ 6500) (hl2 : 1 + (List.zip settled shares).length * (c + 1) ≤ 1000) (ha4 : a ≤ 900) (hc4 : c ≤ 900) (hls : shares.length ≤ 100000)
    (hk : ∀ x ∈ List.zip rows prices, m_fits_kind x.1.b x.2 = true ∧ (0 < x.1.d → ¬ ((x.1.e : Rat) * oftF (.inl x.1.d) goal (List.zip settled shares) < absQ x.2))) :
    ok_bound rows us settled goal (prices, shares) ∧ m_bound rows us settled goal (prices, shares) = if (∀ u ∈ us, ¬ (oftF (.inr u) goal (List.zip settled shares) < askF (List.zip rows prices) u)) then .ok (allF (List.zip rows prices) - sumQ ((List.zip settled shares).map fun x => x.2 * x.1.2)) else .error (.one "NoPaper") := by
  have hs1 : ∀ x ∈ List.zip settled shares, QB c x.2 := fun x hx => (hs x hx).1
  have b1 : (!decide ((prices.length : Int) = (rows.length : Int)) || !decide ((shares.length : Int) = (settled.length : Int))) = false := by
    rw [l1, l2]; simp
  have b2 : ((List.map (fun x5 : Rat => decide (x5.num < 0)) shares).any id) = false := by
    rw [List.any_map, List.any_eq_false]
    intro s hs
    exact (by simpa using h0 s hs)
  have g1 : ∀ x ∈ List.zip rows prices, okb_bound_9 settled goal shares () x ∧ st_bound_9 settled goal shares () x = .go () := fun x hx => by
    obtain ⟨r1, r2, r3⟩ := p_room (one := x.1) (settled := settled) (goal := goal) (shares := shares) hs1 hc (by omega) (by omega) (hz x hx).2.wt hb (by omega)
    obtain ⟨i1, i2⟩ := p_in_room (hz x hx).1 r3 ha (by omega) (by omega)
    obtain ⟨k1, k2⟩ := hk x hx
    have e2 : (decide (0 < x.1.d) && !m_in_room x.2 (m_room_of x.1 settled goal shares)) = false := by
      by_cases z : 0 < x.1.d
      · rw [r2, i2, decide_eq_false (k2 z)]; simp
      · rw [decide_eq_false z]; rfl
    refine ⟨⟨fun _ => trivial, fun _ => ⟨fun _ => r1, fun _ => by rw [r2]; exact i1, fun _ => trivial, fun _ => trivial⟩⟩, ?_⟩
    show cond (!m_fits_kind x.1.b x.2) _ (cond (decide (0 < x.1.d) && !m_in_room x.2 (m_room_of x.1 settled goal shares)) _ _) = _
    rw [k1, e2]; rfl
  obtain ⟨R1, R2⟩ := run_all (okb := okb_bound_9 settled goal shares) (step := st_bound_9 settled goal shares) (List.zip rows prices) g1
  have A := fun u => p_asked (u := u) hz ha hb (by omega) (by omega)
  have S := fun u => p_side (u := u) (settled := settled) (goal := goal) (shares := shares) hs1 hc (by omega)
  have g2 : ∀ (us : List Str), okRun (okb_bound_23 rows settled goal prices shares) (st_bound_23 rows settled goal prices shares) () us ∧ runL (st_bound_23 rows settled goal prices shares) () us = if (∀ u ∈ us, ¬ (oftF (.inr u) goal (List.zip settled shares) < askF (List.zip rows prices) u)) then .go () else .ret (.error (.one "NoPaper")) := by
    intro us
    induction us with
    | nil => exact ⟨trivial, by rw [if_pos fun u hu => by cases hu]; rfl⟩
    | cons u r ih =>
      have ok : okb_bound_23 rows settled goal prices shares () u := by
        refine ⟨(S u).1, (A u).1, ?_, fun _ => trivial, fun _ => trivial⟩
        rw [(S u).2, (A u).2.1]
        exact p_under (oftF_qb hs1 hc) (A u).2.2 (by omega) (by omega) (by omega)
      have es : st_bound_23 rows settled goal prices shares () u = if oftF (.inr u) goal (List.zip settled shares) < askF (List.zip rows prices) u then .ret (.error (.one "NoPaper")) else .go () := by
        show cond (m_under (m_side_of u settled goal shares) (m_asked_of rows prices u)) _ _ = _
        rw [(S u).2, (A u).2.1]
        show cond (decide _) _ _ = _
        split
        · rename_i z; rw [decide_eq_true z]; rfl
        · rename_i z; rw [decide_eq_false z]; rfl
      by_cases z : oftF (.inr u) goal (List.zip settled shares) < askF (List.zip rows prices) u
      · rw [if_pos z] at es
        refine ⟨⟨ok, by rw [es]; exact trivial⟩, ?_⟩
        rw [if_neg fun y => y u List.mem_cons_self z]
        unfold runL
        rw [es]
      · rw [if_neg z] at es
        refine ⟨⟨ok, by rw [es]; exact ih.1⟩, ?_⟩
        unfold runL
        rw [es]
        show runL _ () r = _
        rw [ih.2]
        by_cases y : ∀ u ∈ r, ¬ (oftF (.inr u) goal (List.zip settled shares) < askF (List.zip rows prices) u)
        · rw [if_pos y, if_pos fun v hv => (List.mem_cons.mp hv).elim (fun e => by rw [e]; exact z) (y v)]
        · rw [if_neg y, if_neg fun q => y fun v hv => q v (List.mem_cons_of_mem _ hv)]
  obtain ⟨G1, G2⟩ := g2 us
  have B := p_all hz ha hb (by omega) (by omega)
  have F := fold_qsum (okb := okb_bound_36) (step := st_bound_36) (fun x : (Key × Rat) × Rat => - (x.2 * x.1.2)) (c + b) 7000 (List.zip settled shares) (1 + (List.zip rows prices).length * (a + b + 1)) (allF (List.zip rows prices)) B.2.2 (fun x hx => ((hs x hx).1.mul (hs x hx).2).neg) (fun x hx n s hq hn hN => by
    have t1 := p_times (hs x hx).1 (hs x hx).2 hc hb (by omega)
    have t2 := p_minus hq t1.2.2 hn (by omega) (by omega)
    refine ⟨⟨t1.1, t2.1, trivial⟩, ?_⟩
    show s - x.2 * x.1.2 = _
    rw [Rat.sub_eq_add_neg]) (by omega) (by omega)
  rw [sumQ_neg, ← Rat.sub_eq_add_neg] at F
  constructor
  · unfold ok_bound
    dsimp only
    rw [b1, b2]
    refine ⟨fun h => Bool.noConfusion h, fun _ => ⟨hls, fun h => Bool.noConfusion h, fun _ => ⟨R1, fun _ _ => ⟨G1, fun _ _ => ⟨B.1, ?_, trivial⟩⟩⟩⟩⟩
    rw [B.2.1]; exact F.1
  · unfold m_bound
    dsimp only
    rw [b1, b2, R2, G2, B.2.1, F.2.1]
    split
    · rfl
    · rfl
theorem mix_ok (c k : Int) : ok_l_mix c k := (p_mix c k).1
theorem run_testT {σ T : Type} {okb : Unit → σ → Prop} {step : Unit → σ → Stp Unit T} (r : T) (t : σ → Bool) : ∀ xs : List σ, (∀ x ∈ xs, okb () x ∧ step () x = cond (t x) (.ret r) (.go ())) → okRun okb step () xs ∧ runL step () xs = cond (xs.any t) (.ret r) (.go ())
  | [], _ => ⟨trivial, rfl⟩
  | x :: xs, h => by
    obtain ⟨h1, h2⟩ := h x List.mem_cons_self
    obtain ⟨i1, i2⟩ := run_testT r t xs fun y hy => h y (List.mem_cons_of_mem _ hy)
    refine ⟨⟨h1, ?_⟩, ?_⟩
    · rw [h2]
      cases t x with
      | true => exact trivial
      | false => exact i1
    · rw [runL, h2, List.any_cons]
      cases t x with
      | true => rfl
      | false => exact i2
def rowBad (settled : List (Key × Rat)) (goal : Key) (shares : List Rat) (x : Row × Rat) : Bool := !m_fits_kind x.1.b x.2 || (decide (0 < x.1.d) && decide ((x.1.e : Rat) * oftF (.inl x.1.d) goal (List.zip settled shares) < absQ x.2))
def uBad (rows : List Row) (settled : List (Key × Rat)) (goal : Key) (prices shares : List Rat) (u : Str) : Bool := decide (oftF (.inr u) goal (List.zip settled shares) < askF (List.zip rows prices) u)
def goodB (rows : List Row) (us : List Str) (settled : List (Key × Rat)) (goal : Key) (prices shares : List Rat) : Bool :=
  cond ((!decide ((prices.length : Int) = (rows.length : Int))) || (!decide ((shares.length : Int) = (settled.length : Int)))) false (cond ((List.map (fun (x5 : Rat) => (decide (x5.num < 0))) shares).any id) false (cond ((List.zip rows prices).any (rowBad settled goal shares)) false (!(us.any (uBad rows settled goal prices shares)))))
theorem p_bound2 {rows : List Row} {us : List Str} {settled : List (Key × Rat)} {goal : Key} {prices shares : List Rat} {a b c : Nat} (hz : ∀ x ∈ List.zip rows prices, QB a x.2 ∧ RowOk b x.1) (hs : ∀ x ∈ List.zip settled shares, QB c x.2 ∧ QB b x.1.2)
    (ha : 0 < a) (hb : 0 < b) (hc : 0 < c) (hb2 : b ≤ 90) (hl : 1 + (List.zip rows prices).length * (a + b + 1) + (List.zip settled shares).length * (c + b + 1) ≤ 6500) (hl2 : 1 + (List.zip settled shares).length * (c + 1) ≤ 1000) (ha4 : a ≤ 900) (hc4 : c ≤ 900) (hls : shares.length ≤ 100000) :
    ok_bound rows us settled goal (prices, shares) ∧ ∃ v, m_bound rows us settled goal (prices, shares) = cond (goodB rows us settled goal prices shares) (.ok v) (.error (.one "NoPaper")) := by
  have hs1 : ∀ x ∈ List.zip settled shares, QB c x.2 := fun x hx => (hs x hx).1
  have T1 := run_testT (okb := okb_bound_9 settled goal shares) (step := st_bound_9 settled goal shares) (.error (.one "NoPaper")) (rowBad settled goal shares) (List.zip rows prices) (fun x hx => by
    obtain ⟨r1, r2, r3⟩ := p_room (one := x.1) (settled := settled) (goal := goal) (shares := shares) hs1 hc (by omega) (by omega) (hz x hx).2.wt hb (by omega)
    obtain ⟨i1, i2⟩ := p_in_room (hz x hx).1 r3 ha (by omega) (by omega)
    refine ⟨⟨fun _ => trivial, fun _ => ⟨fun _ => r1, fun _ => by rw [r2]; exact i1, fun _ => trivial, fun _ => trivial⟩⟩, ?_⟩
    show cond (!m_fits_kind x.1.b x.2) _ (cond (decide (0 < x.1.d) && !m_in_room x.2 (m_room_of x.1 settled goal shares)) _ _) = cond (rowBad settled goal shares x) _ _
    unfold rowBad
    rw [r2, i2, Bool.not_not]
    cases m_fits_kind x.1.b x.2 <;> rfl)
  have A := fun u => p_asked (u := u) hz ha hb (by omega) (by omega)
  have S := fun u => p_side (u := u) (settled := settled) (goal := goal) (shares := shares) hs1 hc (by omega)
  have T2 := run_testT (okb := okb_bound_23 rows settled goal prices shares) (step := st_bound_23 rows settled goal prices shares) (.error (.one "NoPaper")) (uBad rows settled goal prices shares) us (fun u _ => by
    refine ⟨⟨(S u).1, (A u).1, ?_, fun _ => trivial, fun _ => trivial⟩, ?_⟩
    · rw [(S u).2, (A u).2.1]
      exact p_under (oftF_qb hs1 hc) (A u).2.2 (by omega) (by omega) (by omega)
    · show cond (m_under (m_side_of u settled goal shares) (m_asked_of rows prices u)) _ _ = _
      rw [(S u).2, (A u).2.1]
      rfl)
  have B := p_all hz ha hb (by omega) (by omega)
  have F := fold_qsum (okb := okb_bound_36) (step := st_bound_36) (fun x : (Key × Rat) × Rat => - (x.2 * x.1.2)) (c + b) 7000 (List.zip settled shares) (1 + (List.zip rows prices).length * (a + b + 1)) (allF (List.zip rows prices)) B.2.2 (fun x hx => ((hs x hx).1.mul (hs x hx).2).neg) (fun x hx n s hq hn hN => by
    have t1 := p_times (hs x hx).1 (hs x hx).2 hc hb (by omega)
    have t2 := p_minus hq t1.2.2 hn (by omega) (by omega)
    refine ⟨⟨t1.1, t2.1, trivial⟩, ?_⟩
    show s - x.2 * x.1.2 = _
    rw [Rat.sub_eq_add_neg]) (by omega) (by omega)
  constructor
  · unfold ok_bound
    dsimp only
    refine ⟨fun _ => trivial, fun _ => ⟨hls, fun _ => trivial, fun _ => ⟨T1.1, fun _ _ => ⟨T2.1, fun _ _ => ⟨B.1, ?_, trivial⟩⟩⟩⟩⟩
    rw [B.2.1]; exact F.1
  · refine ⟨List.foldl st_bound_36 (m_asked_in_all rows prices) (List.zip settled shares), ?_⟩
    unfold m_bound goodB
    dsimp only
    rw [T1.2, T2.2]
    generalize ((!decide ((prices.length : Int) = (rows.length : Int))) || (!decide ((shares.length : Int) = (settled.length : Int)))) = c1
    generalize ((List.map (fun (x5 : Rat) => (decide (x5.num < 0))) shares).any id) = c2
    generalize ((List.zip rows prices).any (rowBad settled goal shares)) = c3
    generalize (us.any (uBad rows settled goal prices shares)) = c4
    cases c1 <;> cases c2 <;> cases c3 <;> cases c4 <;> rfl
theorem str_ne : ¬ Str.ofString "" = Str.ofString "none" := by decide +kernel
theorem p_word {rows : List Row} {us : List Str} {settled : List (Key × Rat)} {goal : Key} {prices shares : List Rat} (h : ok_bound rows us settled goal (prices, shares) ∧ ∃ v, m_bound rows us settled goal (prices, shares) = cond (goodB rows us settled goal prices shares) (.ok v) (.error (.one "NoPaper"))) :
    ok_l_word rows us settled goal prices shares ∧ m_l_word rows us settled goal prices shares = cond (goodB rows us settled goal prices shares) (Str.ofString "") (Str.ofString "none") := by
  obtain ⟨h1, v, h2⟩ := h
  unfold ok_l_word m_l_word
  dsimp only
  rw [h2]
  cases goodB rows us settled goal prices shares with
  | true =>
    have e1 : ∀ (f : Exn → Str) (g : Rat → Except Exn Str), tryV ((cond true (.ok v) (.error (.one "NoPaper")) : Except Exn Rat).bind g) f = tryV (g v) f := fun _ _ => rfl
    rw [e1]
    have e2 : ∀ (f : Exn → Str) (s : Str), tryV (.ok s) f = s := fun _ _ => rfl
    rw [e2, decide_eq_false str_ne]
    refine ⟨⟨(fun e he => by cases he), ⟨h1, fun _ _ => trivial⟩, fun _ _ => trivial, (fun h => by cases h), fun _ => trivial, trivial⟩, rfl⟩
  | false =>
    have e1 : ∀ (f : Exn → Str) (g : Rat → Except Exn Str), tryV ((cond false (.ok v) (.error (.one "NoPaper")) : Except Exn Rat).bind g) f = f (.one "NoPaper") := fun _ _ => rfl
    rw [e1]
    rw [e1]
    rw [decide_eq_true (rfl : Str.ofString "none" = Str.ofString "none")]
    refine ⟨⟨(fun e he => by cases he; exact ⟨by decide, by decide⟩), ⟨h1, fun _ _ => trivial⟩, fun _ _ => trivial, fun _ => ⟨(fun e he => by cases he; exact ⟨by decide, by decide⟩), ⟨h1, fun _ _ => trivial⟩, (fun e he => by cases he; exact ⟨⟨_, rfl⟩, fun _ => ⟨_, rfl⟩, fun _ => trivial, fun _ => trivial, trivial⟩), trivial⟩, (fun h => by cases h), trivial⟩, ?_⟩
    have e3 : ((exnIn [("Clash" : Str)] (.one "NoPaper") || exnIn [("NoRank" : Str)] (.one "NoPaper")) || (!(exnIn [("NoPaper" : Str)] (.one "NoPaper")))) = false := by decide
    rw [e3]
    rfl
theorem lits3 : Str.ofString "least" ≠ Str.ofString "most" ∧ Str.ofString "least" ≠ Str.ofString "just" ∧ Str.ofString "most" ≠ Str.ofString "just" := by decide +kernel
structure RowR (one : Row) : Prop where
  a : one.a = ⟨[]⟩
  c : QB 6 one.c
  kind : one.b = Str.ofString "least" ∨ one.b = Str.ofString "most" ∨ one.b = Str.ofString "just"
  d0 : 0 ≤ one.d
  e1 : 1 ≤ one.e
  e2 : one.e ≤ 1000000
theorem RowR.ok {one : Row} (R : RowR one) : RowOk 20 one := ⟨by rw [R.a]; exact List.nodup_nil, (fun p hp => by rw [R.a] at hp; cases hp), R.c.mono (by decide), by have := R.e1; have := R.e2; omega⟩
theorem p_row (c : Int) : ok_l_row c ∧ RowR (m_l_row c) := by
  obtain ⟨_, m1, m2⟩ := p_mix c 9
  obtain ⟨_, m3, m4⟩ := p_mix c 10
  obtain ⟨_, m5, m6⟩ := p_mix c 13
  obtain ⟨_, m7, m8⟩ := p_mix c 11
  obtain ⟨_, m9, m10⟩ := p_mix c 12
  obtain ⟨l1, l2⟩ := p_lowest (t := m_l_mix c 10 % 19 - 6) (b := 1 + m_l_mix c 13 % 3) (n := 2) (by omega) (by omega) (by decide)
  have hk : m_l_mix c 9 % 3 = 0 ∨ m_l_mix c 9 % 3 = 1 ∨ m_l_mix c 9 % 3 = 2 := by omega
  have hc : c % 2 = 0 ∨ c % 2 = 1 := by omega
  have hg : List.getD [(9 : Int), 1000000] (c % 2).toNat 0 = 9 ∨ List.getD [(9 : Int), 1000000] (c % 2).toNat 0 = 1000000 := by
    rcases hc with e | e <;> rw [e]
    · exact .inl rfl
    · exact .inr rfl
  have hm := Int.emod_nonneg (m_l_mix c 12) (show List.getD [(9 : Int), 1000000] (c % 2).toNat 0 ≠ 0 by omega)
  have hm2 := Int.emod_lt_of_pos (m_l_mix c 12) (show 0 < List.getD [(9 : Int), 1000000] (c % 2).toNat 0 by omega)
  refine ⟨⟨mix_ok _ _, ⟨by omega, by show _ < (3 : Int); omega⟩, mix_ok _ _, mix_ok _ _, l1, mix_ok _ _, mix_ok _ _, ⟨by omega, by show _ < (2 : Int); omega⟩, by omega, trivial⟩, ⟨rfl, ?_, ?_, by show 0 ≤ m_l_mix c 11 % 5; omega, ?_, ?_⟩⟩
  · show QB 6 (m_l_lowest _ _)
    rw [l2]
    exact .divInt (by omega) (by omega) (by omega)
  · show List.getD _ (m_l_mix c 9 % 3).toNat _ = _ ∨ List.getD _ (m_l_mix c 9 % 3).toNat _ = _ ∨ List.getD _ (m_l_mix c 9 % 3).toNat _ = _
    rcases hk with e | e | e <;> rw [e]
    · exact .inl rfl
    · exact .inr (.inl rfl)
    · exact .inr (.inr rfl)
  · show 1 ≤ 1 + m_l_mix c 12 % List.getD [(9 : Int), 1000000] (c % 2).toNat 0
    omega
  · show 1 + m_l_mix c 12 % List.getD [(9 : Int), 1000000] (c % 2).toNat 0 ≤ 1000000
    omega
theorem gl5 (us : List Str) (hu : 0 < us.length) (x : Int) (h0 : 0 ≤ x) (h5 : x < 5) : 0 ≤ x ∧ x < ((([Sum.inl 1, Sum.inl 2, Sum.inl 3, Sum.inl 4] : List Key) ++ List.map Sum.inr us).length : Int) := by
  rw [List.length_append, List.length_map]
  refine ⟨h0, ?_⟩
  show x < ((4 + us.length : Nat) : Int)
  omega
theorem p_settled (f : Int) (us : List Str) (hu : 0 < us.length) (hl : us.length ≤ 2) : okFold (okb_law_13 f us) (st_law_13 f us) [] (rangeI (m_l_mix f 1 % 4)) ∧ (List.foldl (st_law_13 f us) [] (rangeI (m_l_mix f 1 % 4))).length ≤ 3 ∧ ∀ x ∈ List.foldl (st_law_13 f us) [] (rangeI (m_l_mix f 1 % 4)), QB 20 x.2 := by
  obtain ⟨_, m1, m2⟩ := p_mix f 1
  have F := fold_range (fun i (s : List (Key × Rat)) => s.length ≤ i ∧ ∀ x ∈ s, QB 20 x.2) (okb := okb_law_13 f us) (step := st_law_13 f us) (n := m_l_mix f 1 % 4) (s := []) ⟨Nat.le_refl _, fun _ h => by cases h⟩ (fun i s hi ⟨h1, h2⟩ => by
    obtain ⟨_, a1, a2⟩ := p_mix f ((i : Int) + 2)
    obtain ⟨_, b1, b2⟩ := p_mix f ((i : Int) + 7)
    refine ⟨⟨by rw [List.length_map]; show 4 + _ ≤ _; omega, mix_ok _ _, gl5 us hu _ (by omega) (by omega), mix_ok _ _, ⟨by decide, Int.gcd_one⟩, by omega, trivial⟩, ?_, fun x hx => ?_⟩
    · show (s ++ [_]).length ≤ _
      rw [List.length_append]
      show s.length + 1 ≤ _
      omega
    · rcases List.mem_append.mp hx with h | h
      · exact h2 x h
      · rw [List.mem_singleton.mp h]
        show QB 20 (Rat.divInt _ _)
        exact .divInt (by omega) (by decide) (by decide))
  exact ⟨F.1, by have := F.2.1; omega, F.2.2⟩
theorem sum_count {t : Key} : ∀ (st : List (Key × Rat)) (sh : List Rat), sh.length = st.length → (∀ s ∈ sh, s = 1) → sumQ ((List.zip st sh).map fun x => if x.1.1 = t then x.2 else 0) = (((st.filter fun x => decide (x.1 = t)).length : Int) : Rat)
  | [], [], _, _ => rfl
  | [], _ :: _, h, _ => by cases h
  | _ :: _, [], h, _ => by cases h
  | x :: st, y :: sh, h, h1 => by
    have ih := sum_count (t := t) st sh (by simpa using h) fun s hs => h1 s (List.mem_cons_of_mem _ hs)
    show (if x.1 = t then y else 0) + sumQ ((List.zip st sh).map fun x => if x.1.1 = t then x.2 else 0) = _
    rw [ih, h1 y List.mem_cons_self, List.filter_cons]
    by_cases e : x.1 = t
    · rw [if_pos e, decide_eq_true e]
      show (1 : Rat) + _ = (((List.filter _ st).length + 1 : Nat) : Int)
      rw [Int.natCast_add, Rat.intCast_add]
      show _ = _ + (1 : Rat)
      grind
    · rw [if_neg e, decide_eq_false e]
      show (0 : Rat) + _ = _
      grind
def cntI (t goal : Key) (st : List (Key × Rat)) : Int := ((st.filter fun x => decide (x.1 = t)).length : Int) + intB (decide (goal = t))
theorem cnt_nn (t goal : Key) (st : List (Key × Rat)) : 0 ≤ cntI t goal st ∧ cntI t goal st ≤ (st.length : Int) + 1 := by
  unfold cntI intB
  have := List.length_filter_le (fun x : Key × Rat => decide (x.1 = t)) st
  cases decide (goal = t)
  · show 0 ≤ _ + (0 : Int) ∧ _ + (0 : Int) ≤ _; omega
  · show 0 ≤ _ + (1 : Int) ∧ _ + (1 : Int) ≤ _; omega
theorem oft_count {t goal : Key} {st : List (Key × Rat)} {sh : List Rat} (hl : sh.length = st.length) (h1 : ∀ s ∈ sh, s = 1) : oftF t goal (List.zip st sh) = ((cntI t goal st : Int) : Rat) := by
  unfold oftF cntI
  rw [sum_count st sh hl h1, Rat.intCast_add]
  cases decide (goal = t)
  · show (0 : Rat) + _ = _ + ((0 : Int) : Rat)
    have : ((0 : Int) : Rat) = 0 := rfl
    rw [this]; grind
  · show (1 : Rat) + _ = _ + ((1 : Int) : Rat)
    have : ((1 : Int) : Rat) = 1 := rfl
    rw [this]; grind
theorem ask_empty {u : Str} : ∀ {zs : List (Row × Rat)}, (∀ x ∈ zs, x.1.a = ⟨[]⟩) → askF zs u = 0
  | [], _ => rfl
  | x :: zs, h => by
    have ih := ask_empty (u := u) (zs := zs) fun y hy => h y (List.mem_cons_of_mem _ hy)
    show x.2 * cfD x.1.a u + askF zs u = 0
    rw [ih, h x List.mem_cons_self]
    show x.2 * (0 : Rat) + 0 = 0
    grind
theorem fits0 {one : Row} (R : RowR one) : m_fits_kind one.b 0 = true := by
  obtain ⟨n1, n2, n3⟩ := lits3
  unfold m_fits_kind
  rcases R.kind with e | e | e <;> rw [e] <;> simp
theorem lt7 (A b : Int) (hb : b = 0 ∨ b = 1) : decide ((A : Rat) < Rat.divInt (A * 7 + b) 7) = decide (b = 1) := by
  rw [Rat.divInt_eq_div, Rat.intCast_add, Rat.intCast_mul]
  have h7 : ((7 : Int) : Rat) = 7 := rfl
  rw [h7]
  rcases hb with e | e <;> subst e
  · have h0 : ((0 : Int) : Rat) = 0 := rfl
    rw [h0, decide_eq_false (by grind)]
    rfl
  · have h1 : ((1 : Int) : Rat) = 1 := rfl
    rw [h1, decide_eq_true (by grind)]
    rfl
def badK (d : Int) (k : Str) (A p : Rat) : Bool := !m_fits_kind k p || (decide (0 < d) && decide (A < absQ p))
theorem p_priced {one : Row} {k x : Int} (R : RowR one) (k0 : 0 ≤ k) (k4 : k ≤ 4) (x0 : 0 ≤ x) : ok_l_priced one (one.e * k) x ∧ QB 26 (m_l_priced one (one.e * k) x).1 ∧
    badK one.d one.b ((one.e : Rat) * (k : Rat)) (m_l_priced one (one.e * k) x).1 = (m_l_priced one (one.e * k) x).2 := by
  obtain ⟨n1, n2, n3⟩ := lits3
  have E1 := R.e1
  have E2 := R.e2
  have A0 : 0 ≤ one.e * k := Int.mul_nonneg (by omega) k0
  have A1 : one.e * k ≤ 1000000 * 4 := Int.mul_le_mul E2 k4 k0 (by decide)
  have ek : (one.e : Rat) * (k : Rat) = ((one.e * k : Int) : Rat) := (Rat.intCast_mul _ _).symm
  rw [ek]
  generalize one.e * k = A at *
  have hb : x / 8 % 2 = 0 ∨ x / 8 % 2 = 1 := by omega
  have m9 : 0 ≤ x / 128 % 9 ∧ x / 128 % 9 < 9 := by omega
  unfold ok_l_priced m_l_priced
  dsimp only
  generalize x / 8 % 2 = b at *
  obtain ⟨l1, l2⟩ := p_lowest (t := A * 7 + b) (b := 7) (n := 3) (by decide) (by decide) (by decide)
  have q0 : QB 26 (Rat.divInt (A * 7 + b) 7) := .divInt (by omega) (by decide) (by decide)
  have p0 : 0 ≤ Rat.divInt (A * 7 + b) 7 := (Rat.divInt_nonneg_iff_of_pos_right (by decide)).mpr (by omega)
  have lt := lt7 A b hb
  rw [← l2] at q0 p0 lt
  generalize m_l_lowest (A * 7 + b) 7 = p at *
  have en := neg_own p
  generalize Rat.divInt (0 - p.num) ((p.den : Nat) : Int) = np at *
  subst en
  have pn : 0 ≤ p.num := Rat.num_nonneg.mpr p0
  have an : (-p).num ≤ 0 := by rw [Rat.neg_num]; omega
  have ab : absQ (-p) = p := by rw [absQ_neg, absQ_pos p0]
  obtain ⟨s1, s2⟩ := p_lowest (t := -1) (b := 1 + x / 128 % 9) (n := 4) (by omega) (by omega) (by decide)
  obtain ⟨t1, t2⟩ := p_lowest (t := 1) (b := 1 + x / 128 % 9) (n := 4) (by omega) (by omega) (by decide)
  have isq : IsQ (0 - p.num) ((p.den : Nat) : Int) := isQ_neg (isQ_own p)
  have fl : ∀ z : Rat, m_fits_kind (Str.ofString "least") z = decide (0 ≤ z.num) := fun z => by
    unfold m_fits_kind
    simp [n1, n2]
  have fm : ∀ z : Rat, m_fits_kind (Str.ofString "most") z = decide (z.num ≤ 0) := fun z => by
    unfold m_fits_kind
    simp [Ne.symm n1, n3]
  have fj : ∀ z : Rat, m_fits_kind (Str.ofString "just") z = true := fun z => by
    unfold m_fits_kind
    simp
  rcases R.kind with e | e | e
  · rw [e, decide_eq_false n1, decide_eq_false n2, decide_eq_true (rfl : Str.ofString "least" = Str.ofString "least")]
    refine ⟨⟨l1, fun _ => ⟨isq, trivial⟩, fun _ => trivial, fun _ => ⟨⟨by decide, by decide⟩, s1, trivial⟩, fun _ => trivial, trivial⟩, ?_⟩
    show QB 26 (cond (!false && decide (x / 32 % 4 = 0)) (m_l_lowest (-1) (1 + x / 128 % 9), true) (p, decide (0 < one.d) && decide (b = 1))).1 ∧ badK one.d (Str.ofString "least") (A : Rat) (cond (!false && decide (x / 32 % 4 = 0)) (m_l_lowest (-1) (1 + x / 128 % 9), true) (p, decide (0 < one.d) && decide (b = 1))).1 = (cond (!false && decide (x / 32 % 4 = 0)) (m_l_lowest (-1) (1 + x / 128 % 9), true) (p, decide (0 < one.d) && decide (b = 1))).2
    cases decide (x / 32 % 4 = 0) with
    | true =>
      refine ⟨by show QB 26 (m_l_lowest _ _); rw [s2]; exact .divInt (by omega) (by omega) (by omega), ?_⟩
      show (!m_fits_kind (Str.ofString "least") (m_l_lowest (-1) (1 + x / 128 % 9)) || _) = true
      rw [s2, fl]
      have : ¬ 0 ≤ (Rat.divInt (-1) (1 + x / 128 % 9)).num := fun z => by
        have := (Rat.divInt_nonneg_iff_of_pos_right (show 0 < 1 + x / 128 % 9 by omega)).mp (Rat.num_nonneg.mp z)
        omega
      rw [decide_eq_false this]; rfl
    | false =>
      refine ⟨q0, ?_⟩
      show (!m_fits_kind (Str.ofString "least") p || (decide (0 < one.d) && decide ((A : Rat) < absQ p))) = (decide (0 < one.d) && decide (b = 1))
      rw [fl, decide_eq_true pn, absQ_pos p0, lt]; rfl
  · rw [e, decide_eq_true (rfl : Str.ofString "most" = Str.ofString "most"), decide_eq_false n3, decide_eq_false (Ne.symm n1)]
    refine ⟨⟨l1, fun _ => ⟨isq, trivial⟩, fun _ => trivial, fun _ => ⟨⟨by decide, by decide⟩, t1, trivial⟩, fun _ => trivial, trivial⟩, ?_⟩
    show QB 26 (cond (!false && decide (x / 32 % 4 = 0)) (m_l_lowest 1 (1 + x / 128 % 9), true) (-p, decide (0 < one.d) && decide (b = 1))).1 ∧ badK one.d (Str.ofString "most") (A : Rat) (cond (!false && decide (x / 32 % 4 = 0)) (m_l_lowest 1 (1 + x / 128 % 9), true) (-p, decide (0 < one.d) && decide (b = 1))).1 = (cond (!false && decide (x / 32 % 4 = 0)) (m_l_lowest 1 (1 + x / 128 % 9), true) (-p, decide (0 < one.d) && decide (b = 1))).2
    cases decide (x / 32 % 4 = 0) with
    | true =>
      refine ⟨by show QB 26 (m_l_lowest _ _); rw [t2]; exact .divInt (by omega) (by omega) (by omega), ?_⟩
      show (!m_fits_kind (Str.ofString "most") (m_l_lowest 1 (1 + x / 128 % 9)) || _) = true
      rw [t2, fm]
      have : 0 < (Rat.divInt 1 (1 + x / 128 % 9)).num := (divInt_pos (by omega)).mpr (by decide)
      rw [decide_eq_false (by omega)]; rfl
    | false =>
      refine ⟨q0.neg, ?_⟩
      show (!m_fits_kind (Str.ofString "most") (-p) || (decide (0 < one.d) && decide ((A : Rat) < absQ (-p)))) = (decide (0 < one.d) && decide (b = 1))
      rw [fm, decide_eq_true an, ab, lt]; rfl
  · rw [e, decide_eq_true (rfl : Str.ofString "just" = Str.ofString "just"), decide_eq_false (Ne.symm n3), decide_eq_false (Ne.symm n2)]
    have key : ∀ c : Bool, QB 26 (cond c (-p) p) ∧ badK one.d (Str.ofString "just") (A : Rat) (cond c (-p) p) = (decide (0 < one.d) && decide (b = 1)) := fun c => by
      unfold badK
      rw [fj]
      cases c with
      | true => exact ⟨q0.neg, by show (decide (0 < one.d) && decide ((A : Rat) < absQ (-p))) = _; rw [ab, lt]⟩
      | false => exact ⟨q0, by show (decide (0 < one.d) && decide ((A : Rat) < absQ p)) = _; rw [absQ_pos p0, lt]⟩
    refine ⟨⟨l1, fun _ => ⟨isq, trivial⟩, fun _ => trivial, (fun h => absurd h (by simp)), fun _ => trivial, trivial⟩, ?_⟩
    exact key _
theorem bad0 {one : Row} (R : RowR one) {st : List (Key × Rat)} {goal : Key} {S : List Rat} (hl : S.length = st.length) (h1 : ∀ s ∈ S, s = 1) : rowBad st goal S (one, 0) = false := by
  unfold rowBad
  rw [fits0 R, oft_count hl h1]
  have a0 : absQ 0 = 0 := absQ_pos (Rat.le_refl)
  show (false || (decide (0 < one.d) && decide ((one.e : Rat) * ((cntI (.inl one.d) goal st : Int) : Rat) < absQ 0))) = false
  rw [a0, ← Rat.intCast_mul]
  have : ¬ ((one.e * cntI (.inl one.d) goal st : Int) : Rat) < 0 := Rat.not_lt.mpr (Rat.intCast_nonneg.mpr (Int.mul_nonneg (by have := R.e1; omega) (cnt_nn _ _ _).1))
  rw [decide_eq_false this]
  simp
theorem cnt_lt0 {t goal : Key} {st : List (Key × Rat)} : ¬ ((cntI t goal st : Int) : Rat) < 0 := Rat.not_lt.mpr (Rat.intCast_nonneg.mpr (cnt_nn _ _ _).1)
theorem negs1 {S : List Rat} (h : ∀ s ∈ S, s = 1) : (List.map (fun (x5 : Rat) => (decide (x5.num < 0))) S).any id = false := by
  rw [List.any_eq_false]
  intro b hb
  obtain ⟨x, x1, x2⟩ := List.mem_map.mp hb
  subst x2
  rw [h x x1]
  decide
theorem good_lens {rows : List Row} {us : List Str} {st : List (Key × Rat)} {goal : Key} {P S : List Rat} (hr : ∀ r ∈ rows, RowR r) (h : P.length = rows.length → S.length = st.length → (∀ p ∈ P, p = 0) ∧ ∀ s ∈ S, s = 1) :
    goodB rows us st goal P S = !((!decide ((P.length : Int) = (rows.length : Int))) || (!decide ((S.length : Int) = (st.length : Int)))) := by
  unfold goodB
  by_cases h1 : (P.length : Int) = (rows.length : Int)
  · by_cases h2 : (S.length : Int) = (st.length : Int)
    · obtain ⟨p0, s1⟩ := h (by omega) (by omega)
      have hl : S.length = st.length := by omega
      rw [decide_eq_true h1, decide_eq_true h2, negs1 s1]
      have e1 : (List.zip rows P).any (rowBad st goal S) = false := by
        rw [List.any_eq_false]
        intro x hx
        obtain ⟨x1, x2⟩ := x
        have hm := List.of_mem_zip hx
        rw [p0 _ hm.2, bad0 (hr _ hm.1) hl s1]
        decide
      have e2 : us.any (uBad rows st goal P S) = false := by
        rw [List.any_eq_false]
        intro u _
        unfold uBad
        rw [oft_count hl s1, ask_empty fun x hx => (hr _ (List.of_mem_zip (show (x.1, x.2) ∈ _ from hx)).1).a, decide_eq_false cnt_lt0]
        decide
      rw [e1, e2]
      rfl
    · rw [decide_eq_false h2, decide_eq_true h1]; rfl
  · rw [decide_eq_false h1]; rfl
theorem p_w {rows : List Row} {us : List Str} {st : List (Key × Rat)} {goal : Key} {P S : List Rat} (rl : rows.length ≤ 7) (rok : ∀ r ∈ rows, RowOk 20 r) (pq : ∀ p ∈ P, QB 26 p) (sq : ∀ s ∈ S, QB 7 s) (stq : ∀ x ∈ st, QB 20 x.2) (sl : st.length ≤ 3) (Sl : S.length ≤ 10) :
    ok_l_word rows us st goal P S ∧ m_l_word rows us st goal P S = cond (goodB rows us st goal P S) (Str.ofString "") (Str.ofString "none") := by
  have z1 : (List.zip rows P).length ≤ 7 := by rw [List.length_zip]; omega
  have z2 : (List.zip st S).length ≤ 3 := by rw [List.length_zip]; omega
  exact p_word (p_bound2 (a := 26) (b := 20) (c := 7) (fun x hx => by
    obtain ⟨x1, x2⟩ := x
    have := List.of_mem_zip hx
    exact ⟨pq _ this.2, rok _ this.1⟩) (fun x hx => by
    obtain ⟨x1, x2⟩ := x
    have := List.of_mem_zip hx
    exact ⟨sq _ this.2, stq _ this.1⟩) (by decide) (by decide) (by decide) (by decide) (by omega) (by omega) (by decide) (by decide) (by omega))
def Fin (rows : List Row) (us : List Str) (st : List (Key × Rat)) (goal : Key) (P S : List Rat) (w : Bool) : Prop := ok_l_word rows us st goal P S ∧ m_l_word rows us st goal P S = List.getD [Str.ofString "", Str.ofString "none"] (Int.toNat (intB w)) (Str.ofString "")
theorem fin_of {rows : List Row} {us : List Str} {st : List (Key × Rat)} {goal : Key} {P S : List Rat} {w : Bool} (h : ok_l_word rows us st goal P S ∧ m_l_word rows us st goal P S = cond (goodB rows us st goal P S) (Str.ofString "") (Str.ofString "none")) (hg : goodB rows us st goal P S = !w) : Fin rows us st goal P S w := by
  refine ⟨h.1, ?_⟩
  rw [h.2, hg]
  cases w <;> rfl
theorem intB_rng (w : Bool) : 0 ≤ intB w ∧ intB w < ([Str.ofString "", Str.ofString "none"].length : Int) := by
  cases w
  · exact ⟨by decide, by show (0 : Int) < 2; decide⟩
  · exact ⟨by decide, by show (1 : Int) < 2; decide⟩
theorem any_set (f : Row × Rat → Bool) : ∀ (rows : List Row) (i : Nat) (p : Rat), i < rows.length → (∀ r ∈ rows, f (r, 0) = false) → (List.zip rows ((rows.map fun _ => (0 : Rat)).set i p)).any f = f (rows.getD i default, p)
  | [], _, _, h, _ => by simp at h
  | r :: rows, 0, p, _, h => by
    show (f (r, p) || (List.zip rows (rows.map fun _ => (0 : Rat))).any f) = f (r, p)
    have : (List.zip rows (rows.map fun _ => (0 : Rat))).any f = false := by
      rw [List.any_eq_false]
      intro x hx
      obtain ⟨x1, x2⟩ := x
      have hm := List.of_mem_zip hx
      obtain ⟨y, _, y2⟩ := List.mem_map.mp hm.2
      subst y2
      rw [h _ (List.mem_cons_of_mem _ hm.1)]
      decide
    rw [this, Bool.or_false]
  | r :: rows, i + 1, p, hi, h => by
    show (f (r, 0) || (List.zip rows ((rows.map fun _ => (0 : Rat)).set i p)).any f) = f (rows.getD i default, p)
    rw [h r List.mem_cons_self, any_set f rows i p (by simpa using hi) fun q hq => h q (List.mem_cons_of_mem _ hq)]
    rfl
theorem map_all {σ : Type} {xs : List σ} {c p : Rat} (h : p ∈ List.map (fun _ : σ => c) xs) : p = c := by
  obtain ⟨y, _, y2⟩ := List.mem_map.mp h
  exact y2.symm
theorem ne_nilL {α : Type} [Dat α] [DEq α] {xs : List α} (h : (!deq xs ([] : List α)) = true) : 0 < xs.length := by
  cases xs with
  | nil => cases h
  | cons _ _ => exact Nat.succ_pos _
section
variable {rows : List Row} {us : List Str} {st : List (Key × Rat)} {goal : Key}
theorem finA (hr : ∀ r ∈ rows, RowR r) (rl : rows.length ≤ 6) (stq : ∀ x ∈ st, QB 20 x.2) (sl : st.length ≤ 3) (w : Int) :
    Fin rows us st goal (m_l_counts (rows.map fun _ => (0 : Rat)) (st.map fun _ => (1 : Rat)) w).1 (m_l_counts (rows.map fun _ => (0 : Rat)) (st.map fun _ => (1 : Rat)) w).2 ((!decide (((m_l_counts (rows.map fun _ => (0 : Rat)) (st.map fun _ => (1 : Rat)) w).1.length : Int) = (rows.length : Int))) || (!decide (((m_l_counts (rows.map fun _ => (0 : Rat)) (st.map fun _ => (1 : Rat)) w).2.length : Int) = (st.length : Int)))) := by
  have gp : ∀ p ∈ rows.map (fun _ => (0 : Rat)), p = 0 := fun p h => map_all h
  have gs : ∀ p ∈ st.map (fun _ => (1 : Rat)), p = 1 := fun p h => map_all h
  have lp : (rows.map fun _ => (0 : Rat)).length = rows.length := List.length_map _
  have ls : (st.map fun _ => (1 : Rat)).length = st.length := List.length_map _
  unfold m_l_counts
  generalize (rows.map fun _ => (0 : Rat)) = P at *
  generalize (st.map fun _ => (1 : Rat)) = S at *
  have base : ∀ P' S' : List Rat, (∀ p ∈ P', p = 0) → (∀ s ∈ S', s = 0 ∨ s = 1) → S'.length ≤ 10 → (P'.length = rows.length → S'.length = st.length → ∀ s ∈ S', s = 1) → Fin rows us st goal P' S' ((!decide ((P'.length : Int) = (rows.length : Int))) || (!decide ((S'.length : Int) = (st.length : Int)))) := fun P' S' h1 h2 h3 h4 => by
    refine fin_of (p_w (by omega) (fun r h => (hr r h).ok) (fun p h => by rw [h1 p h]; exact QB.zero' (by decide)) (fun s h => ?_) stq sl h3) ?_
    · rcases h2 s h with e | e <;> rw [e]
      · exact QB.zero' (by decide)
      · exact QB.one' (by decide)
    · rw [good_lens hr fun a b => ⟨h1, h4 a b⟩]
  cases decide (w = 0) with
  | true => exact base (P ++ [0]) S (fun p h => by
      rcases List.mem_append.mp h with h | h
      · exact gp p h
      · exact List.mem_singleton.mp h) (fun s h => .inr (gs s h)) (by omega) (fun _ _ => gs)
  | false =>
    cases decide (w = 1) with
    | true => exact base (cutL P (some 1) none) S (fun p h => gp p (cutL_mem h)) (fun s h => .inr (gs s h)) (by omega) (fun _ _ => gs)
    | false =>
      cases decide (w = 2) with
      | true => exact base P (S ++ [0]) gp (fun s h => by
          rcases List.mem_append.mp h with h | h
          · exact .inr (gs s h)
          · exact .inl (List.mem_singleton.mp h)) (by rw [List.length_append]; show _ + 1 ≤ _; omega) (fun _ h => by rw [List.length_append] at h; have h : S.length + 1 = _ := h; omega)
      | false => exact base P (cutL S none (some (-1))) gp (fun s h => .inr (gs s (cutL_mem h))) (by have := cutL_len S none (some (-1)); show (cutL S none (some (-1))).length ≤ 10; omega) (fun _ _ s h => gs s (cutL_mem h))
theorem finE (hr : ∀ r ∈ rows, RowR r) (rl : rows.length ≤ 6) (stq : ∀ x ∈ st, QB 20 x.2) (sl : st.length ≤ 3) : Fin rows us st goal (rows.map fun _ => (0 : Rat)) (st.map fun _ => (1 : Rat)) false := by
  refine fin_of (p_w (by omega) (fun r h => (hr r h).ok) (fun p h => by rw [map_all h]; exact QB.zero' (by decide)) (fun s h => by rw [map_all h]; exact QB.one' (by decide)) stq sl (by rw [List.length_map]; omega)) ?_
  rw [good_lens hr fun _ _ => ⟨fun p h => map_all h, fun s h => map_all h⟩, List.length_map, List.length_map]
  simp
theorem finB (hr : ∀ r ∈ rows, RowR r) (rl : rows.length ≤ 6) (stq : ∀ x ∈ st, QB 20 x.2) (sl : st.length ≤ 3) {i : Nat} {n : Int} (hi : i < st.length) (hn : 0 < n ∧ n < 100) : Fin rows us st goal (rows.map fun _ => (0 : Rat)) ((st.map fun _ => (1 : Rat)).set i (Rat.divInt (-1) n)) true := by
  have sq : ∀ s ∈ (st.map fun _ => (1 : Rat)).set i (Rat.divInt (-1) n), QB 7 s := fun s h => by
    rcases List.mem_or_eq_of_mem_set h with h | h
    · rw [map_all h]; exact QB.one' (by decide)
    · rw [h]; exact .divInt (by decide) (by omega) (by omega)
  refine fin_of (p_w (by omega) (fun r h => (hr r h).ok) (fun p h => by rw [map_all h]; exact QB.zero' (by decide)) sq stq sl (by rw [List.length_set, List.length_map]; omega)) ?_
  have hneg : (List.map (fun (x5 : Rat) => (decide (x5.num < 0))) ((st.map fun _ => (1 : Rat)).set i (Rat.divInt (-1) n))).any id = true := by
    rw [List.any_eq_true]
    refine ⟨true, List.mem_map.mpr ⟨Rat.divInt (-1) n, List.mem_set (by rw [List.length_map]; exact hi) _, ?_⟩, rfl⟩
    have : ¬ 0 ≤ (Rat.divInt (-1) n).num := fun z => by
      have := (Rat.divInt_nonneg_iff_of_pos_right hn.1).mp (Rat.num_nonneg.mp z)
      omega
    rw [decide_eq_true (by omega)]
  unfold goodB
  rw [hneg]
  cases ((!decide (((rows.map fun _ => (0 : Rat)).length : Int) = (rows.length : Int))) || (!decide ((((st.map fun _ => (1 : Rat)).set i (Rat.divInt (-1) n)).length : Int) = (st.length : Int)))) <;> rfl
theorem finC (hr : ∀ r ∈ rows, RowR r) (rl : rows.length ≤ 6) (stq : ∀ x ∈ st, QB 20 x.2) (sl : st.length ≤ 3) {i : Nat} {p : Rat} {w : Bool} (hi : i < rows.length) (hp : QB 26 p) (hw : badK (rows.getD i default).d (rows.getD i default).b (((rows.getD i default).e : Rat) * ((cntI (.inl (rows.getD i default).d) goal st : Int) : Rat)) p = w) : Fin rows us st goal ((rows.map fun _ => (0 : Rat)).set i p) (st.map fun _ => (1 : Rat)) w := by
  have pq : ∀ q ∈ (rows.map fun _ => (0 : Rat)).set i p, QB 26 q := fun q h => by
    rcases List.mem_or_eq_of_mem_set h with h | h
    · rw [map_all h]; exact QB.zero' (by decide)
    · rw [h]; exact hp
  refine fin_of (p_w (by omega) (fun r h => (hr r h).ok) pq (fun s h => by rw [map_all h]; exact QB.one' (by decide)) stq sl (by rw [List.length_map]; omega)) ?_
  have s1 : ∀ s ∈ st.map (fun _ => (1 : Rat)), s = 1 := fun s h => map_all h
  have hl : (st.map fun _ => (1 : Rat)).length = st.length := List.length_map _
  unfold goodB
  rw [negs1 s1, List.length_set, List.length_map, hl, any_set _ rows i p hi fun r h => bad0 (hr r h) hl s1]
  have e1 : rowBad st goal (st.map fun _ => (1 : Rat)) (rows.getD i default, p) = w := by
    rw [← hw]
    unfold rowBad badK
    rw [oft_count hl s1]
  have e2 : us.any (uBad rows st goal ((rows.map fun _ => (0 : Rat)).set i p) (st.map fun _ => (1 : Rat))) = false := by
    rw [List.any_eq_false]
    intro u _
    unfold uBad
    rw [oft_count hl s1, ask_empty fun x hx => (hr _ (List.of_mem_zip (show (x.1, x.2) ∈ _ from hx)).1).a, decide_eq_false cnt_lt0]
    decide
  rw [e1, e2, decide_eq_true rfl, decide_eq_true rfl]
  cases w <;> rfl
theorem lt11 (A b : Int) (hb : b = 0 ∨ b = 1) : decide ((A : Rat) < Rat.divInt (A * 3 * 11 + b) 11 * Rat.divInt 1 3) = decide (b = 1) := by
  rw [Rat.divInt_eq_div, Rat.divInt_eq_div, Rat.intCast_add, Rat.intCast_mul, Rat.intCast_mul]
  have h3 : ((3 : Int) : Rat) = 3 := rfl
  have h11 : ((11 : Int) : Rat) = 11 := rfl
  have h1 : ((1 : Int) : Rat) = 1 := rfl
  rw [h3, h11, h1]
  rcases hb with e | e <;> subst e
  · have h0 : ((0 : Int) : Rat) = 0 := rfl
    rw [h0, decide_eq_false (by grind)]
    rfl
  · rw [h1, decide_eq_true (by grind)]
    rfl
theorem askF_app {zs ws : List (Row × Rat)} {u : Str} : askF (zs ++ ws) u = askF zs u + askF ws u := by
  unfold askF
  rw [List.map_append, sumQ_app]
theorem finD (hr : ∀ r ∈ rows, RowR r) (rl : rows.length ≤ 6) (stq : ∀ x ∈ st, QB 20 x.2) (sl : st.length ≤ 3) {nm : Str} {b : Int} (hu : nm ∈ us) (hb : b = 0 ∨ b = 1) :
    Fin (rows ++ [(⟨(⟨[(nm, Rat.divInt 1 3)]⟩ : Dc Rat), Str.ofString "just", (5 : Rat), 0, 1⟩ : Row)]) us st goal ((rows.map fun _ => (0 : Rat)) ++ [m_l_lowest (cntI (.inr nm) goal st * 3 * 11 + b) 11]) (st.map fun _ => (1 : Rat)) (decide (b = 1)) := by
  have s1 : ∀ s ∈ st.map (fun _ => (1 : Rat)), s = 1 := fun s h => map_all h
  have hl : (st.map fun _ => (1 : Rat)).length = st.length := List.length_map _
  obtain ⟨c0, c1⟩ := cnt_nn (.inr nm) goal st
  have l2 := (p_lowest (t := cntI (.inr nm) goal st * 3 * 11 + b) (b := 11) (n := 4) (by decide) (by decide) (by decide)).2
  have q3 : QB 20 (Rat.divInt 1 3) := .divInt (by decide) (by decide) (by decide)
  have okn : RowOk 20 (⟨(⟨[(nm, Rat.divInt 1 3)]⟩ : Dc Rat), Str.ofString "just", (5 : Rat), 0, 1⟩ : Row) := ⟨by show [_].Nodup; simp, fun p hp => by rw [List.mem_singleton.mp hp]; exact q3, (⟨by decide, by decide⟩ : QB 20 (5 : Rat)), by show (1 : Int).natAbs < 2 ^ 20; decide⟩
  have rok : ∀ r ∈ rows ++ [(⟨(⟨[(nm, Rat.divInt 1 3)]⟩ : Dc Rat), Str.ofString "just", (5 : Rat), 0, 1⟩ : Row)], RowOk 20 r := fun r h => by
    rcases List.mem_append.mp h with h | h
    · exact (hr r h).ok
    · rw [List.mem_singleton.mp h]; exact okn
  have pq : ∀ q ∈ (rows.map fun _ => (0 : Rat)) ++ [m_l_lowest (cntI (.inr nm) goal st * 3 * 11 + b) 11], QB 26 q := fun q h => by
    rcases List.mem_append.mp h with h | h
    · rw [map_all h]; exact QB.zero' (by decide)
    · rw [List.mem_singleton.mp h, l2]; exact .divInt (by omega) (by decide) (by decide)
  refine fin_of (p_w (by rw [List.length_append]; show _ + 1 ≤ 7; omega) rok pq (fun s h => by rw [map_all h]; exact QB.one' (by decide)) stq sl (by omega)) ?_
  unfold goodB
  have ez : List.zip (rows ++ [(⟨(⟨[(nm, Rat.divInt 1 3)]⟩ : Dc Rat), Str.ofString "just", (5 : Rat), 0, 1⟩ : Row)]) ((rows.map fun _ => (0 : Rat)) ++ [m_l_lowest (cntI (.inr nm) goal st * 3 * 11 + b) 11]) = List.zip rows (rows.map fun _ => (0 : Rat)) ++ [((⟨(⟨[(nm, Rat.divInt 1 3)]⟩ : Dc Rat), Str.ofString "just", (5 : Rat), 0, 1⟩ : Row), m_l_lowest (cntI (.inr nm) goal st * 3 * 11 + b) 11)] := by
    rw [List.zip_append (List.length_map _).symm]; rfl
  have e1 : (List.zip (rows ++ [(⟨(⟨[(nm, Rat.divInt 1 3)]⟩ : Dc Rat), Str.ofString "just", (5 : Rat), 0, 1⟩ : Row)]) ((rows.map fun _ => (0 : Rat)) ++ [m_l_lowest (cntI (.inr nm) goal st * 3 * 11 + b) 11])).any (rowBad st goal (st.map fun _ => (1 : Rat))) = false := by
    rw [ez, List.any_eq_false]
    intro x hx
    rcases List.mem_append.mp hx with h | h
    · obtain ⟨x1, x2⟩ := x
      have hm := List.of_mem_zip h
      rw [map_all hm.2, bad0 (hr _ hm.1) hl s1]
      decide
    · rw [List.mem_singleton.mp h]
      unfold rowBad m_fits_kind
      simp
  have e2 : ∀ u, uBad (rows ++ [(⟨(⟨[(nm, Rat.divInt 1 3)]⟩ : Dc Rat), Str.ofString "just", (5 : Rat), 0, 1⟩ : Row)]) st goal ((rows.map fun _ => (0 : Rat)) ++ [m_l_lowest (cntI (.inr nm) goal st * 3 * 11 + b) 11]) (st.map fun _ => (1 : Rat)) u = (decide (u = nm) && decide (b = 1)) := fun u => by
    unfold uBad
    rw [ez, askF_app, ask_empty fun x hx => (hr _ (List.of_mem_zip (show (x.1, x.2) ∈ _ from hx)).1).a, oft_count hl s1]
    have ea : (0 : Rat) + askF [((⟨(⟨[(nm, Rat.divInt 1 3)]⟩ : Dc Rat), Str.ofString "just", (5 : Rat), 0, 1⟩ : Row), m_l_lowest (cntI (.inr nm) goal st * 3 * 11 + b) 11)] u = m_l_lowest (cntI (.inr nm) goal st * 3 * 11 + b) 11 * cfD ⟨[(nm, Rat.divInt 1 3)]⟩ u := by
      show (0 : Rat) + (_ * _ + 0) = _
      grind
    rw [ea, l2]
    by_cases e : u = nm
    · subst e
      have ec : cfD ⟨[(u, Rat.divInt 1 3)]⟩ u = Rat.divInt 1 3 := by
        unfold cfD
        show (lookD [(u, Rat.divInt 1 3)] u).getD 0 = _
        rw [lookD_cons_eq _ _ _ rfl]; rfl
      rw [ec, lt11 _ _ hb, decide_eq_true rfl]; rfl
    · have ec : cfD ⟨[(nm, Rat.divInt 1 3)]⟩ u = 0 := by
        unfold cfD
        show (lookD [(nm, Rat.divInt 1 3)] u).getD 0 = _
        rw [lookD_cons_ne _ _ _ (fun z => e z.symm)]; rfl
      rw [ec, Rat.mul_zero, decide_eq_false cnt_lt0, decide_eq_false e]; rfl
  have e3 : us.any (uBad (rows ++ [(⟨(⟨[(nm, Rat.divInt 1 3)]⟩ : Dc Rat), Str.ofString "just", (5 : Rat), 0, 1⟩ : Row)]) st goal ((rows.map fun _ => (0 : Rat)) ++ [m_l_lowest (cntI (.inr nm) goal st * 3 * 11 + b) 11]) (st.map fun _ => (1 : Rat))) = decide (b = 1) := by
    by_cases hb1 : b = 1
    · rw [decide_eq_true hb1, List.any_eq_true]
      exact ⟨nm, hu, by rw [e2, decide_eq_true rfl, decide_eq_true hb1]; rfl⟩
    · rw [decide_eq_false hb1, List.any_eq_false]
      intro u _
      rw [e2, decide_eq_false hb1, Bool.and_false]
      decide
  rw [e1, e3, negs1 s1, List.length_append, List.length_append, List.length_map, hl, decide_eq_true rfl]
  have : ((rows.length + [m_l_lowest (cntI (.inr nm) goal st * 3 * 11 + b) 11].length : Nat) : Int) = ((rows.length + [(⟨(⟨[(nm, Rat.divInt 1 3)]⟩ : Dc Rat), Str.ofString "just", (5 : Rat), 0, 1⟩ : Row)].length : Nat) : Int) := rfl
  rw [decide_eq_true this]
  cases decide (b = 1) <;> rfl
end
theorem p_roomk (one : Row) (goal : Key) (st : List (Key × Rat)) (R : RowR one) (sl : st.length ≤ 3) : ok_l_room one goal st ∧ m_l_room one goal st = one.e * cntI (.inl one.d) goal st := by
  obtain ⟨c0, c1⟩ := cnt_nn (.inl one.d) goal st
  have E1 := R.e1
  have E2 := R.e2
  have fl : ((List.filter (fun (x2 : (Key × Rat)) => (decide (x2.1 = (Sum.inl one.d : Key)))) st).map (fun (x2 : (Key × Rat)) => x2)).length = (List.filter (fun (x2 : (Key × Rat)) => (decide (x2.1 = (Sum.inl one.d : Key)))) st).length := List.length_map _
  have e : cond (decide (goal = (Sum.inl one.d : Key))) ((((List.filter (fun (x2 : (Key × Rat)) => (decide (x2.1 = (Sum.inl one.d : Key)))) st).map (fun (x2 : (Key × Rat)) => x2)).length : Int) + 1) (((List.filter (fun (x2 : (Key × Rat)) => (decide (x2.1 = (Sum.inl one.d : Key)))) st).map (fun (x2 : (Key × Rat)) => x2)).length : Int) = cntI (.inl one.d) goal st := by
    rw [fl]
    unfold cntI intB
    cases decide (goal = (Sum.inl one.d : Key)) with
    | true => rfl
    | false => exact (Int.add_zero _).symm
  unfold ok_l_room m_l_room
  dsimp only
  rw [e]
  exact ⟨⟨by omega, fun _ => trivial, fun _ => trivial, mulW (m := 20) (n := 4) (by omega) (by omega) (by decide) (by decide) (by decide), trivial⟩, rfl⟩
theorem plain_law (ns : List Int) (h : ns.length ≤ 63) : ok_law ns ∧ m_law ns = true := by
  have hc0 := okt_cell ns 0 (by decide)
  have hsl : (cutL [Str.ofString "x", Str.ofString "left b"] none (some (1 + m_l_cell_at ns 0 % 2))).length ≤ 2 ∧ 0 < (cutL [Str.ofString "x", Str.ofString "left b"] none (some (1 + m_l_cell_at ns 0 % 2))).length := by
    have : m_l_cell_at ns 0 % 2 = 0 ∨ m_l_cell_at ns 0 % 2 = 1 := by omega
    rcases this with e | e <;> rw [e]
    · rw [show (1 : Int) + 0 = ((1 : Nat) : Int) from rfl, cutL_to]; decide
    · rw [show (1 : Int) + 1 = ((2 : Nat) : Int) from rfl, cutL_to]; decide
  unfold ok_law m_law
  dsimp only
  generalize cutL [Str.ofString "x", Str.ofString "left b"] none (some (1 + m_l_cell_at ns 0 % 2)) = us at *
  generalize m_l_cell_at ns 0 = f at *
  obtain ⟨ul, u0⟩ := hsl
  have hcl : (cutL ns (some (1 : Int)) (some (7 : Int))).length ≤ 6 := by
    rw [show cutL ns (some (1 : Int)) (some (7 : Int)) = _ from cutL_ab ns 1 7, List.length_take]
    omega
  have rl : (List.map (fun x5 : Int => m_l_row x5) (cutL ns (some (1 : Int)) (some (7 : Int)))).length ≤ 6 := by rw [List.length_map]; exact hcl
  have hr : ∀ x ∈ List.map (fun x5 : Int => m_l_row x5) (cutL ns (some (1 : Int)) (some (7 : Int))), RowR x := fun x hx => by
    obtain ⟨y, _, y2⟩ := List.mem_map.mp hx
    subst y2
    exact (p_row y).2
  generalize List.map (fun x5 : Int => m_l_row x5) (cutL ns (some (1 : Int)) (some (7 : Int))) = rows at *
  obtain ⟨S1, sl, stq⟩ := p_settled f us u0 ul
  generalize List.foldl (st_law_13 f us) [] (rangeI (m_l_mix f 1 % 4)) = st at *
  obtain ⟨_, a1, a2⟩ := p_mix f 1
  obtain ⟨_, b1, b2⟩ := p_mix f 11
  obtain ⟨_, d1, d2⟩ := p_mix f 13
  obtain ⟨_, g1, g2⟩ := p_mix f 15
  obtain ⟨_, w1, w2⟩ := p_mix f 16
  have gg := gl5 us u0 (m_l_mix f 11 % 5) (by omega) (by omega)
  generalize List.getD (([Sum.inl 1, Sum.inl 2, Sum.inl 3, Sum.inl 4] : List Key) ++ List.map Sum.inr us) (m_l_mix f 11 % 5).toNat (Sum.inl 0) = goal at *
  have pl : (rows.map fun _ => (0 : Rat)).length = rows.length := List.length_map _
  have shl : (st.map fun _ => (1 : Rat)).length = st.length := List.length_map _
  have W0 : ok_l_word rows us st goal (rows.map fun _ => (0 : Rat)) (st.map fun _ => (1 : Rat)) ∧ m_l_word rows us st goal (rows.map fun _ => (0 : Rat)) (st.map fun _ => (1 : Rat)) = Str.ofString "" := finE hr rl stq sl
  have FA := fun w => finA (us := us) (goal := goal) hr rl stq sl w
  have okc : ∀ w, ok_l_counts (rows.map fun _ => (0 : Rat)) (st.map fun _ => (1 : Rat)) w := fun w => ⟨fun _ => ⟨by show _ + 1 ≤ _; omega, trivial⟩, fun _ => ⟨fun _ => trivial, fun _ => ⟨fun _ => ⟨by show _ + 1 ≤ _; omega, trivial⟩, fun _ => trivial⟩⟩⟩
  have lit : List.length ([Sum.inl 1, Sum.inl 2, Sum.inl 3, Sum.inl 4] : List Key) + (List.map (Sum.inr : Str → Key) us).length ≤ 100000 := by rw [List.length_map]; show 4 + _ ≤ _; omega
  generalize f / 2 % 8 = way at *
  by_cases c4 : way < 4
  · rw [decide_eq_true c4]
    refine ⟨⟨hc0, fun x _ _ => (p_row x).1, by omega, mix_ok _ _, ⟨by omega, by omega⟩, S1, lit, mix_ok _ _, gg, by omega, by omega, W0.1, fun _ => trivial, fun _ => ⟨fun _ => ⟨okc way, trivial⟩, (fun h => by cases h), (FA way).1, intB_rng _, trivial⟩⟩, ?_⟩
    rw [W0.2, decide_eq_true rfl]
    exact decide_eq_true (FA way).2
  rw [decide_eq_false c4]
  cases c5 : ((decide (way = (4 : Int))) && (!deq (st.map fun _ => (1 : Rat)) ([] : List Rat))) with
  | true =>
    have s0 : 0 < st.length := by
      rw [Bool.and_eq_true] at c5
      have := ne_nilL c5.2
      omega
    have m0 := Int.emod_nonneg (m_l_mix f 12) (show ((st.map fun _ => (1 : Rat)).length : Int) ≠ 0 by omega)
    have m1 := Int.emod_lt_of_pos (m_l_mix f 12) (show 0 < ((st.map fun _ => (1 : Rat)).length : Int) by omega)
    have FB := finB (us := us) (goal := goal) (st := st) (rows := rows) hr rl stq sl (i := (m_l_mix f 12 % ((st.map fun _ => (1 : Rat)).length : Int)).toNat) (n := 1 + m_l_mix f 13 % 99) (by omega) (by omega)
    have isq : IsQ (-1) (1 + m_l_mix f 13 % 99) := ⟨by omega, by rw [Int.neg_gcd]; exact Int.one_gcd⟩
    refine ⟨⟨hc0, fun x _ _ => (p_row x).1, by omega, mix_ok _ _, ⟨by omega, by omega⟩, S1, lit, mix_ok _ _, gg, by omega, by omega, W0.1, fun _ => trivial, fun _ => ⟨(fun h => by cases h), fun _ => ⟨fun _ => ⟨mix_ok _ _, isq, mix_ok _ _, by omega, ⟨m0, m1⟩, trivial⟩, (fun h => by cases h), trivial⟩, FB.1, intB_rng _, trivial⟩⟩, ?_⟩
    rw [W0.2, decide_eq_true rfl]
    exact decide_eq_true FB.2
  | false =>
    cases c6 : ((decide ((4 : Int) < way)) && ((decide (way < (7 : Int))) && (!deq rows ([] : List Row)))) with
    | true =>
      have r0 : 0 < rows.length := by
        rw [Bool.and_eq_true, Bool.and_eq_true] at c6
        exact ne_nilL c6.2.2
      have m0 := Int.emod_nonneg (m_l_mix f 14) (show (rows.length : Int) ≠ 0 by omega)
      have m1 := Int.emod_lt_of_pos (m_l_mix f 14) (show 0 < (rows.length : Int) by omega)
      generalize m_l_mix f 14 % (rows.length : Int) = at' at *
      have Rr := hr _ (getD_mem (d := default) (show at'.toNat < rows.length by omega))
      obtain ⟨k1, k2⟩ := p_roomk _ goal st Rr sl
      obtain ⟨n1, n2⟩ := cnt_nn (.inl (rows.getD at'.toNat default).d) goal st
      obtain ⟨o1, o2, o3⟩ := p_priced (x := m_l_mix f 15) Rr n1 (by omega) g1
      rw [k2]
      have FC := finC (us := us) (goal := goal) (st := st) hr rl stq sl (i := at'.toNat) (by omega) o2 o3
      refine ⟨⟨hc0, fun x _ _ => (p_row x).1, by omega, mix_ok _ _, ⟨by omega, by omega⟩, S1, lit, mix_ok _ _, gg, by omega, by omega, W0.1, fun _ => trivial, fun _ => ⟨(fun h => by cases h), fun _ => ⟨(fun h => by cases h), fun _ => ⟨fun _ => ⟨mix_ok _ _, by omega, ⟨m0, m1⟩, ⟨m0, m1⟩, k1, mix_ok _ _, o1, ⟨m0, by rw [pl]; exact m1⟩, trivial⟩, (fun h => by cases h), trivial⟩, trivial⟩, FC.1, intB_rng _, trivial⟩⟩, ?_⟩
      rw [W0.2, decide_eq_true rfl]
      exact decide_eq_true FC.2
    | false =>
      have hnm : us.getD (Int.toNat 0) (Str.ofString "") ∈ us := getD_mem u0
      have hu0 : (0 : Int) ≤ 0 ∧ (0 : Int) < (us.length : Int) := ⟨by decide, by omega⟩
      have fl : ((List.filter (fun (x138 : (Key × Rat)) => (decide (x138.1 = (Sum.inr (us.getD (Int.toNat 0) (Str.ofString "")) : Key)))) st).map (fun (x138 : (Key × Rat)) => x138)).length = (List.filter (fun (x138 : (Key × Rat)) => (decide (x138.1 = (Sum.inr (us.getD (Int.toNat 0) (Str.ofString "")) : Key)))) st).length := List.length_map _
      have ec : (((List.filter (fun (x138 : (Key × Rat)) => (decide (x138.1 = (Sum.inr (us.getD (Int.toNat 0) (Str.ofString "")) : Key)))) st).map (fun (x138 : (Key × Rat)) => x138)).length : Int) + intB (decide (goal = (Sum.inr (us.getD (Int.toNat 0) (Str.ofString "")) : Key))) = cntI (.inr (us.getD (Int.toNat 0) (Str.ofString ""))) goal st := by rw [fl]; rfl
      rw [ec]
      have FD := finD (us := us) (goal := goal) (st := st) (rows := rows) hr rl stq sl (b := m_l_mix f 16 % 2) hnm (by omega)
      have lo := (p_lowest (t := cntI (.inr (us.getD (Int.toNat 0) (Str.ofString ""))) goal st * 3 * 11 + m_l_mix f 16 % 2) (b := 11) (n := 4) (by decide) (by decide) (by decide)).1
      cases c7 : decide (way = 7) with
      | true =>
        refine ⟨⟨hc0, fun x _ _ => (p_row x).1, by omega, mix_ok _ _, ⟨by omega, by omega⟩, S1, lit, mix_ok _ _, gg, by omega, by omega, W0.1, fun _ => trivial, fun _ => ⟨(fun h => by cases h), fun _ => ⟨(fun h => by cases h), fun _ => ⟨(fun h => by cases h), fun _ => ⟨fun _ => ⟨fun _ _ => hu0, by omega, hu0, mix_ok _ _, hu0, by omega, lo, by omega, trivial⟩, fun _ => trivial, trivial⟩, trivial⟩, trivial⟩, FD.1, intB_rng _, trivial⟩⟩, ?_⟩
        rw [W0.2, decide_eq_true rfl]
        exact decide_eq_true FD.2
      | false =>
        refine ⟨⟨hc0, fun x _ _ => (p_row x).1, by omega, mix_ok _ _, ⟨by omega, by omega⟩, S1, lit, mix_ok _ _, gg, by omega, by omega, W0.1, fun _ => trivial, fun _ => ⟨(fun h => by cases h), fun _ => ⟨(fun h => by cases h), fun _ => ⟨(fun h => by cases h), fun _ => ⟨(fun h => by cases h), fun _ => trivial, trivial⟩, trivial⟩, trivial⟩, W0.1, intB_rng _, trivial⟩⟩, ?_⟩
        rw [W0.2, decide_eq_true rfl]
        exact decide_eq_true W0.2
end G
set_option pp.maxSteps 400
set_option maxHeartbeats 40000000
set_option autoImplicit false
namespace G
open PySem PySem.Spec PyProof.Rows L2 R
theorem kit1 {K : PySem.W.Frag} {C D : Addr} {b : Bool} (y : PySem.W.hasDictIn K C = true) (t : PySem.W.typeIn K (.ref C) = some (.type "type")) (s0 : PySem.W.subIn K (.ref C) (.ref C) = some true) (s1 : PySem.W.subIn K (.ref D) (.ref C) = some b) : PySem.W.kitOne K (.ref D) (.ref C) = some b := by
  unfold PySem.W.kitOne
  by_cases h : D = C
  · subst h
    rw [s0] at s1
    rw [if_pos (by simp)]
    exact s1
  · rw [if_neg (by simpa using h)]
    obtain ⟨cd, hc, _⟩ := PySem.W.any_some y
    have e2 : ((PySem.W.clsIn K C).isSome && PySem.W.typeIn K (.ref C) == some (.type "type")) = true := by rw [hc, t] <;> rfl
    show (if ((PySem.W.clsIn K C).isSome && PySem.W.typeIn K (.ref C) == some (.type "type")) = true then PySem.W.subIn K (.ref D) (.ref C) else none) = some b
    rw [if_pos e2]
    exact s1
theorem all_mk {l : PySem.W.OpenLaw} {w : World} {K : PySem.W.Frag} {h : Heap} {mg : Str → Option Value} {fa f_divisor_of f_part f_plus f_minus f_times f_under f_room_of f_fits_kind f_in_room f_asked_of f_asked_in_all f_side_of f_bound f_l_cell_at f_l_mix f_l_divisor f_l_lowest f_l_row f_l_room f_l_word f_l_counts f_l_priced f_law C_Clash C_FrameError C_NoPaper C_NoPart C_NoRank : Addr} (X : K.In h) (G : h.Ns mainGlobals mg) (hfa : mg "law" = some (.ref fa))
    {od_0 an_0 : Option Addr} {sl_0 : Array (Option Value)} {oc_0 kV_0 dc_0 pm_0 cd_0 ct_0 : Value}
    (a_divisor_of : PySem.W.nsIn K mainGlobals "divisor_of" = some (some (.ref f_divisor_of))) (l_divisor_of : K.lookup f_divisor_of = some ⟨oc_0, od_0, .func (PySem.W.fnOf "divisor_of" "divisor_of" (defArgs s_divisor_of) (defBody s_divisor_of) (defScope s_divisor_of) .none kV_0 dc_0 pm_0 an_0 cd_0 ct_0), sl_0⟩) (c_divisor_of : PySem.W.codeIn K cd_0 "divisor_of" = true) (k_divisor_of : PySem.W.keepIn K (.ref f_divisor_of) = true)
    {od_1 an_1 : Option Addr} {sl_1 : Array (Option Value)} {oc_1 kV_1 dc_1 pm_1 cd_1 ct_1 : Value}
    (a_part : PySem.W.nsIn K mainGlobals "part" = some (some (.ref f_part))) (l_part : K.lookup f_part = some ⟨oc_1, od_1, .func (PySem.W.fnOf "part" "part" (defArgs s_part) (defBody s_part) (defScope s_part) .none kV_1 dc_1 pm_1 an_1 cd_1 ct_1), sl_1⟩) (c_part : PySem.W.codeIn K cd_1 "part" = true) (k_part : PySem.W.keepIn K (.ref f_part) = true)
    {od_2 an_2 : Option Addr} {sl_2 : Array (Option Value)} {oc_2 kV_2 dc_2 pm_2 cd_2 ct_2 : Value}
    (a_plus : PySem.W.nsIn K mainGlobals "plus" = some (some (.ref f_plus))) (l_plus : K.lookup f_plus = some ⟨oc_2, od_2, .func (PySem.W.fnOf "plus" "plus" (defArgs s_plus) (defBody s_plus) (defScope s_plus) .none kV_2 dc_2 pm_2 an_2 cd_2 ct_2), sl_2⟩) (c_plus : PySem.W.codeIn K cd_2 "plus" = true) (k_plus : PySem.W.keepIn K (.ref f_plus) = true)
    {od_3 an_3 : Option Addr} {sl_3 : Array (Option Value)} {oc_3 kV_3 dc_3 pm_3 cd_3 ct_3 : Value}
    (a_minus : PySem.W.nsIn K mainGlobals "minus" = some (some (.ref f_minus))) (l_minus : K.lookup f_minus = some ⟨oc_3, od_3, .func (PySem.W.fnOf "minus" "minus" (defArgs s_minus) (defBody s_minus) (defScope s_minus) .none kV_3 dc_3 pm_3 an_3 cd_3 ct_3), sl_3⟩) (c_minus : PySem.W.codeIn K cd_3 "minus" = true) (k_minus : PySem.W.keepIn K (.ref f_minus) = true)
    {od_4 an_4 : Option Addr} {sl_4 : Array (Option Value)} {oc_4 kV_4 dc_4 pm_4 cd_4 ct_4 : Value}
    (a_times : PySem.W.nsIn K mainGlobals "times" = some (some (.ref f_times))) (l_times : K.lookup f_times = some ⟨oc_4, od_4, .func (PySem.W.fnOf "times" "times" (defArgs s_times) (defBody s_times) (defScope s_times) .none kV_4 dc_4 pm_4 an_4 cd_4 ct_4), sl_4⟩) (c_times : PySem.W.codeIn K cd_4 "times" = true) (k_times : PySem.W.keepIn K (.ref f_times) = true)
    {od_5 an_5 : Option Addr} {sl_5 : Array (Option Value)} {oc_5 kV_5 dc_5 pm_5 cd_5 ct_5 : Value}
    (a_under : PySem.W.nsIn K mainGlobals "under" = some (some (.ref f_under))) (l_under : K.lookup f_under = some ⟨oc_5, od_5, .func (PySem.W.fnOf "under" "under" (defArgs s_under) (defBody s_under) (defScope s_under) .none kV_5 dc_5 pm_5 an_5 cd_5 ct_5), sl_5⟩) (c_under : PySem.W.codeIn K cd_5 "under" = true) (k_under : PySem.W.keepIn K (.ref f_under) = true)
    {od_6 an_6 : Option Addr} {sl_6 : Array (Option Value)} {oc_6 kV_6 dc_6 pm_6 cd_6 ct_6 : Value}
    (a_room_of : PySem.W.nsIn K mainGlobals "room_of" = some (some (.ref f_room_of))) (l_room_of : K.lookup f_room_of = some ⟨oc_6, od_6, .func (PySem.W.fnOf "room_of" "room_of" (defArgs s_room_of) (defBody s_room_of) (defScope s_room_of) .none kV_6 dc_6 pm_6 an_6 cd_6 ct_6), sl_6⟩) (c_room_of : PySem.W.codeIn K cd_6 "room_of" = true) (k_room_of : PySem.W.keepIn K (.ref f_room_of) = true)
    {od_7 an_7 : Option Addr} {sl_7 : Array (Option Value)} {oc_7 kV_7 dc_7 pm_7 cd_7 ct_7 : Value}
    (a_fits_kind : PySem.W.nsIn K mainGlobals "fits_kind" = some (some (.ref f_fits_kind))) (l_fits_kind : K.lookup f_fits_kind = some ⟨oc_7, od_7, .func (PySem.W.fnOf "fits_kind" "fits_kind" (defArgs s_fits_kind) (defBody s_fits_kind) (defScope s_fits_kind) .none kV_7 dc_7 pm_7 an_7 cd_7 ct_7), sl_7⟩) (c_fits_kind : PySem.W.codeIn K cd_7 "fits_kind" = true) (k_fits_kind : PySem.W.keepIn K (.ref f_fits_kind) = true)
    {od_8 an_8 : Option Addr} {sl_8 : Array (Option Value)} {oc_8 kV_8 dc_8 pm_8 cd_8 ct_8 : Value}
    (a_in_room : PySem.W.nsIn K mainGlobals "in_room" = some (some (.ref f_in_room))) (l_in_room : K.lookup f_in_room = some ⟨oc_8, od_8, .func (PySem.W.fnOf "in_room" "in_room" (defArgs s_in_room) (defBody s_in_room) (defScope s_in_room) .none kV_8 dc_8 pm_8 an_8 cd_8 ct_8), sl_8⟩) (c_in_room : PySem.W.codeIn K cd_8 "in_room" = true) (k_in_room : PySem.W.keepIn K (.ref f_in_room) = true)
    {od_9 an_9 : Option Addr} {sl_9 : Array (Option Value)} {oc_9 kV_9 dc_9 pm_9 cd_9 ct_9 : Value}
    (a_asked_of : PySem.W.nsIn K mainGlobals "asked_of" = some (some (.ref f_asked_of))) (l_asked_of : K.lookup f_asked_of = some ⟨oc_9, od_9, .func (PySem.W.fnOf "asked_of" "asked_of" (defArgs s_asked_of) (defBody s_asked_of) (defScope s_asked_of) .none kV_9 dc_9 pm_9 an_9 cd_9 ct_9), sl_9⟩) (c_asked_of : PySem.W.codeIn K cd_9 "asked_of" = true) (k_asked_of : PySem.W.keepIn K (.ref f_asked_of) = true)
    {od_10 an_10 : Option Addr} {sl_10 : Array (Option Value)} {oc_10 kV_10 dc_10 pm_10 cd_10 ct_10 : Value}
    (a_asked_in_all : PySem.W.nsIn K mainGlobals "asked_in_all" = some (some (.ref f_asked_in_all))) (l_asked_in_all : K.lookup f_asked_in_all = some ⟨oc_10, od_10, .func (PySem.W.fnOf "asked_in_all" "asked_in_all" (defArgs s_asked_in_all) (defBody s_asked_in_all) (defScope s_asked_in_all) .none kV_10 dc_10 pm_10 an_10 cd_10 ct_10), sl_10⟩) (c_asked_in_all : PySem.W.codeIn K cd_10 "asked_in_all" = true) (k_asked_in_all : PySem.W.keepIn K (.ref f_asked_in_all) = true)
    {od_11 an_11 : Option Addr} {sl_11 : Array (Option Value)} {oc_11 kV_11 dc_11 pm_11 cd_11 ct_11 : Value}
    (a_side_of : PySem.W.nsIn K mainGlobals "side_of" = some (some (.ref f_side_of))) (l_side_of : K.lookup f_side_of = some ⟨oc_11, od_11, .func (PySem.W.fnOf "side_of" "side_of" (defArgs s_side_of) (defBody s_side_of) (defScope s_side_of) .none kV_11 dc_11 pm_11 an_11 cd_11 ct_11), sl_11⟩) (c_side_of : PySem.W.codeIn K cd_11 "side_of" = true) (k_side_of : PySem.W.keepIn K (.ref f_side_of) = true)
    {od_12 an_12 : Option Addr} {sl_12 : Array (Option Value)} {oc_12 kV_12 dc_12 pm_12 cd_12 ct_12 : Value}
    (a_bound : PySem.W.nsIn K mainGlobals "bound" = some (some (.ref f_bound))) (l_bound : K.lookup f_bound = some ⟨oc_12, od_12, .func (PySem.W.fnOf "bound" "bound" (defArgs s_bound) (defBody s_bound) (defScope s_bound) .none kV_12 dc_12 pm_12 an_12 cd_12 ct_12), sl_12⟩) (c_bound : PySem.W.codeIn K cd_12 "bound" = true) (k_bound : PySem.W.keepIn K (.ref f_bound) = true)
    {od_13 an_13 : Option Addr} {sl_13 : Array (Option Value)} {oc_13 kV_13 dc_13 pm_13 cd_13 ct_13 : Value}
    (a_l_cell_at : PySem.W.nsIn K mainGlobals "_law_cell_at" = some (some (.ref f_l_cell_at))) (l_l_cell_at : K.lookup f_l_cell_at = some ⟨oc_13, od_13, .func (PySem.W.fnOf "_law_cell_at" "_law_cell_at" (defArgs s_l_cell_at) (defBody s_l_cell_at) (defScope s_l_cell_at) .none kV_13 dc_13 pm_13 an_13 cd_13 ct_13), sl_13⟩) (c_l_cell_at : PySem.W.codeIn K cd_13 "_law_cell_at" = true) (k_l_cell_at : PySem.W.keepIn K (.ref f_l_cell_at) = true)
    {od_14 an_14 : Option Addr} {sl_14 : Array (Option Value)} {oc_14 kV_14 dc_14 pm_14 cd_14 ct_14 : Value}
    (a_l_mix : PySem.W.nsIn K mainGlobals "_law_mix" = some (some (.ref f_l_mix))) (l_l_mix : K.lookup f_l_mix = some ⟨oc_14, od_14, .func (PySem.W.fnOf "_law_mix" "_law_mix" (defArgs s_l_mix) (defBody s_l_mix) (defScope s_l_mix) .none kV_14 dc_14 pm_14 an_14 cd_14 ct_14), sl_14⟩) (c_l_mix : PySem.W.codeIn K cd_14 "_law_mix" = true) (k_l_mix : PySem.W.keepIn K (.ref f_l_mix) = true)
    {od_15 an_15 : Option Addr} {sl_15 : Array (Option Value)} {oc_15 kV_15 dc_15 pm_15 cd_15 ct_15 : Value}
    (a_l_divisor : PySem.W.nsIn K mainGlobals "_law_divisor" = some (some (.ref f_l_divisor))) (l_l_divisor : K.lookup f_l_divisor = some ⟨oc_15, od_15, .func (PySem.W.fnOf "_law_divisor" "_law_divisor" (defArgs s_l_divisor) (defBody s_l_divisor) (defScope s_l_divisor) .none kV_15 dc_15 pm_15 an_15 cd_15 ct_15), sl_15⟩) (c_l_divisor : PySem.W.codeIn K cd_15 "_law_divisor" = true) (k_l_divisor : PySem.W.keepIn K (.ref f_l_divisor) = true)
    {od_16 an_16 : Option Addr} {sl_16 : Array (Option Value)} {oc_16 kV_16 dc_16 pm_16 cd_16 ct_16 : Value}
    (a_l_lowest : PySem.W.nsIn K mainGlobals "_law_lowest" = some (some (.ref f_l_lowest))) (l_l_lowest : K.lookup f_l_lowest = some ⟨oc_16, od_16, .func (PySem.W.fnOf "_law_lowest" "_law_lowest" (defArgs s_l_lowest) (defBody s_l_lowest) (defScope s_l_lowest) .none kV_16 dc_16 pm_16 an_16 cd_16 ct_16), sl_16⟩) (c_l_lowest : PySem.W.codeIn K cd_16 "_law_lowest" = true) (k_l_lowest : PySem.W.keepIn K (.ref f_l_lowest) = true)
    {od_17 an_17 : Option Addr} {sl_17 : Array (Option Value)} {oc_17 kV_17 dc_17 pm_17 cd_17 ct_17 : Value}
    (a_l_row : PySem.W.nsIn K mainGlobals "_law_row" = some (some (.ref f_l_row))) (l_l_row : K.lookup f_l_row = some ⟨oc_17, od_17, .func (PySem.W.fnOf "_law_row" "_law_row" (defArgs s_l_row) (defBody s_l_row) (defScope s_l_row) .none kV_17 dc_17 pm_17 an_17 cd_17 ct_17), sl_17⟩) (c_l_row : PySem.W.codeIn K cd_17 "_law_row" = true) (k_l_row : PySem.W.keepIn K (.ref f_l_row) = true)
    {od_18 an_18 : Option Addr} {sl_18 : Array (Option Value)} {oc_18 kV_18 dc_18 pm_18 cd_18 ct_18 : Value}
    (a_l_room : PySem.W.nsIn K mainGlobals "_law_room" = some (some (.ref f_l_room))) (l_l_room : K.lookup f_l_room = some ⟨oc_18, od_18, .func (PySem.W.fnOf "_law_room" "_law_room" (defArgs s_l_room) (defBody s_l_room) (defScope s_l_room) .none kV_18 dc_18 pm_18 an_18 cd_18 ct_18), sl_18⟩) (c_l_room : PySem.W.codeIn K cd_18 "_law_room" = true) (k_l_room : PySem.W.keepIn K (.ref f_l_room) = true)
    {od_19 an_19 : Option Addr} {sl_19 : Array (Option Value)} {oc_19 kV_19 dc_19 pm_19 cd_19 ct_19 : Value}
    (a_l_word : PySem.W.nsIn K mainGlobals "_law_word" = some (some (.ref f_l_word))) (l_l_word : K.lookup f_l_word = some ⟨oc_19, od_19, .func (PySem.W.fnOf "_law_word" "_law_word" (defArgs s_l_word) (defBody s_l_word) (defScope s_l_word) .none kV_19 dc_19 pm_19 an_19 cd_19 ct_19), sl_19⟩) (c_l_word : PySem.W.codeIn K cd_19 "_law_word" = true) (k_l_word : PySem.W.keepIn K (.ref f_l_word) = true)
    {od_20 an_20 : Option Addr} {sl_20 : Array (Option Value)} {oc_20 kV_20 dc_20 pm_20 cd_20 ct_20 : Value}
    (a_l_counts : PySem.W.nsIn K mainGlobals "_law_counts" = some (some (.ref f_l_counts))) (l_l_counts : K.lookup f_l_counts = some ⟨oc_20, od_20, .func (PySem.W.fnOf "_law_counts" "_law_counts" (defArgs s_l_counts) (defBody s_l_counts) (defScope s_l_counts) .none kV_20 dc_20 pm_20 an_20 cd_20 ct_20), sl_20⟩) (c_l_counts : PySem.W.codeIn K cd_20 "_law_counts" = true) (k_l_counts : PySem.W.keepIn K (.ref f_l_counts) = true)
    {od_21 an_21 : Option Addr} {sl_21 : Array (Option Value)} {oc_21 kV_21 dc_21 pm_21 cd_21 ct_21 : Value}
    (a_l_priced : PySem.W.nsIn K mainGlobals "_law_priced" = some (some (.ref f_l_priced))) (l_l_priced : K.lookup f_l_priced = some ⟨oc_21, od_21, .func (PySem.W.fnOf "_law_priced" "_law_priced" (defArgs s_l_priced) (defBody s_l_priced) (defScope s_l_priced) .none kV_21 dc_21 pm_21 an_21 cd_21 ct_21), sl_21⟩) (c_l_priced : PySem.W.codeIn K cd_21 "_law_priced" = true) (k_l_priced : PySem.W.keepIn K (.ref f_l_priced) = true)
    {od_22 an_22 : Option Addr} {sl_22 : Array (Option Value)} {oc_22 kV_22 dc_22 pm_22 cd_22 ct_22 : Value}
    (a_law : PySem.W.nsIn K mainGlobals "law" = some (some (.ref f_law))) (l_law : K.lookup f_law = some ⟨oc_22, od_22, .func (PySem.W.fnOf "law" "law" (defArgs s_law) (defBody s_law) (defScope s_law) .none kV_22 dc_22 pm_22 an_22 cd_22 ct_22), sl_22⟩) (c_law : PySem.W.codeIn K cd_22 "law" = true) (k_law : PySem.W.keepIn K (.ref f_law) = true)
    (z_abs : PySem.W.nsIn K mainGlobals "abs" = some none)
    (z_any : PySem.W.nsIn K mainGlobals "any" = some none)
    (z_int : PySem.W.nsIn K mainGlobals "int" = some none)
    (z_isinstance : PySem.W.nsIn K mainGlobals "isinstance" = some none)
    (z_len : PySem.W.nsIn K mainGlobals "len" = some none)
    (z_list : PySem.W.nsIn K mainGlobals "list" = some none)
    (z_range : PySem.W.nsIn K mainGlobals "range" = some none)
    (z_zip : PySem.W.nsIn K mainGlobals "zip" = some none)
    {t0_NOUGHT t1_NOUGHT : Tok}
    {a_gNOUGHT : Addr} {d_gNOUGHT : Option Addr} {z_gNOUGHT : Nat} {sl_gNOUGHT : Array (Option Value)}
    (g1_NOUGHT : PySem.W.nsIn K mainGlobals "NOUGHT" = some (some (.ref a_gNOUGHT))) (g2_NOUGHT : K.lookup a_gNOUGHT = some ⟨.type "tuple", d_gNOUGHT, .seq (List.toArray [.int 0 t0_NOUGHT, .int 1 t1_NOUGHT]) z_gNOUGHT, sl_gNOUGHT⟩)
    (e_Clash : PySem.W.nsIn K mainGlobals "Clash" = some (some (.ref C_Clash)))
    (e_FrameError : PySem.W.nsIn K mainGlobals "FrameError" = some (some (.ref C_FrameError)))
    (e_NoPaper : PySem.W.nsIn K mainGlobals "NoPaper" = some (some (.ref C_NoPaper)))
    (e_NoPart : PySem.W.nsIn K mainGlobals "NoPart" = some (some (.ref C_NoPart)))
    (e_NoRank : PySem.W.nsIn K mainGlobals "NoRank" = some (some (.ref C_NoRank)))
    (x1_NoPaper : PySem.W.excIn K C_NoPaper [.type "ValueError", .type "Exception", .type "BaseException", .type "object"] "ValueError.__new__" = true) (x2_NoPaper : PySem.W.keepIn K (.ref C_NoPaper) = true)
    (x1_NoPart : PySem.W.excIn K C_NoPart [.type "ValueError", .type "Exception", .type "BaseException", .type "object"] "ValueError.__new__" = true) (x2_NoPart : PySem.W.keepIn K (.ref C_NoPart) = true)
    (x3_Clash : PySem.W.subIn K (.ref C_Clash) (.type "BaseException") = some true) (x4_Clash : PySem.W.typeIn K (.ref C_Clash) = some (.type "type"))
    (x3_FrameError : PySem.W.subIn K (.ref C_FrameError) (.type "BaseException") = some true) (x4_FrameError : PySem.W.typeIn K (.ref C_FrameError) = some (.type "type"))
    (x3_NoPaper : PySem.W.subIn K (.ref C_NoPaper) (.type "BaseException") = some true) (x4_NoPaper : PySem.W.typeIn K (.ref C_NoPaper) = some (.type "type"))
    (x3_NoPart : PySem.W.subIn K (.ref C_NoPart) (.type "BaseException") = some true) (x4_NoPart : PySem.W.typeIn K (.ref C_NoPart) = some (.type "type"))
    (x3_NoRank : PySem.W.subIn K (.ref C_NoRank) (.type "BaseException") = some true) (x4_NoRank : PySem.W.typeIn K (.ref C_NoRank) = some (.type "type"))
    (y_Clash : PySem.W.hasDictIn K C_Clash = true)
    (y_Clash_FrameError : PySem.W.subIn K (.ref C_FrameError) (.ref C_Clash) = some false)
    (y_Clash_NoPart : PySem.W.subIn K (.ref C_NoPart) (.ref C_Clash) = some false)
    (y_Clash_NoRank : PySem.W.subIn K (.ref C_NoRank) (.ref C_Clash) = some false)
    (y_Clash_NoPaper : PySem.W.subIn K (.ref C_NoPaper) (.ref C_Clash) = some false)
    (y_Clash_Clash : PySem.W.subIn K (.ref C_Clash) (.ref C_Clash) = some true)
    (y_FrameError : PySem.W.hasDictIn K C_FrameError = true)
    (y_FrameError_FrameError : PySem.W.subIn K (.ref C_FrameError) (.ref C_FrameError) = some true)
    (y_FrameError_NoPart : PySem.W.subIn K (.ref C_NoPart) (.ref C_FrameError) = some true)
    (y_FrameError_NoRank : PySem.W.subIn K (.ref C_NoRank) (.ref C_FrameError) = some true)
    (y_FrameError_NoPaper : PySem.W.subIn K (.ref C_NoPaper) (.ref C_FrameError) = some true)
    (y_FrameError_Clash : PySem.W.subIn K (.ref C_Clash) (.ref C_FrameError) = some true)
    (y_NoPaper : PySem.W.hasDictIn K C_NoPaper = true)
    (y_NoPaper_FrameError : PySem.W.subIn K (.ref C_FrameError) (.ref C_NoPaper) = some false)
    (y_NoPaper_NoPart : PySem.W.subIn K (.ref C_NoPart) (.ref C_NoPaper) = some false)
    (y_NoPaper_NoRank : PySem.W.subIn K (.ref C_NoRank) (.ref C_NoPaper) = some false)
    (y_NoPaper_NoPaper : PySem.W.subIn K (.ref C_NoPaper) (.ref C_NoPaper) = some true)
    (y_NoPaper_Clash : PySem.W.subIn K (.ref C_Clash) (.ref C_NoPaper) = some false)
    (y_NoRank : PySem.W.hasDictIn K C_NoRank = true)
    (y_NoRank_FrameError : PySem.W.subIn K (.ref C_FrameError) (.ref C_NoRank) = some false)
    (y_NoRank_NoPart : PySem.W.subIn K (.ref C_NoPart) (.ref C_NoRank) = some false)
    (y_NoRank_NoRank : PySem.W.subIn K (.ref C_NoRank) (.ref C_NoRank) = some true)
    (y_NoRank_NoPaper : PySem.W.subIn K (.ref C_NoPaper) (.ref C_NoRank) = some false)
    (y_NoRank_Clash : PySem.W.subIn K (.ref C_Clash) (.ref C_NoRank) = some false)
    (qn_ : PySem.W.specialIn K (.builtin "object.__class__") "__get__" = some (some (.builtin "getset_descriptor.__get__"))) (qt_ : PySem.W.takesIn K (.builtin "object.__class__") = some true)
    (q1_FrameError : PySem.W.findIn K (.ref C_FrameError) "__getattribute__" = some (some (.builtin "BaseException.__getattribute__"))) (q2_FrameError : PySem.W.findIn K (.ref C_FrameError) "__getattr__" = some none) (q3_FrameError : PySem.W.subIn K (.ref C_FrameError) (.type "BaseException") = some true) (q4_FrameError : PySem.W.hasDictIn K C_FrameError = true) (q5_FrameError : PySem.W.findIn K (.ref C_FrameError) "__class__" = some (some (.builtin "object.__class__"))) (q6_FrameError : PySem.W.mroIn K C_FrameError (.type "object") = some true)
    (q1_NoPart : PySem.W.findIn K (.ref C_NoPart) "__getattribute__" = some (some (.builtin "BaseException.__getattribute__"))) (q2_NoPart : PySem.W.findIn K (.ref C_NoPart) "__getattr__" = some none) (q3_NoPart : PySem.W.subIn K (.ref C_NoPart) (.type "BaseException") = some true) (q4_NoPart : PySem.W.hasDictIn K C_NoPart = true) (q5_NoPart : PySem.W.findIn K (.ref C_NoPart) "__class__" = some (some (.builtin "object.__class__"))) (q6_NoPart : PySem.W.mroIn K C_NoPart (.type "object") = some true)
    (q1_NoRank : PySem.W.findIn K (.ref C_NoRank) "__getattribute__" = some (some (.builtin "BaseException.__getattribute__"))) (q2_NoRank : PySem.W.findIn K (.ref C_NoRank) "__getattr__" = some none) (q3_NoRank : PySem.W.subIn K (.ref C_NoRank) (.type "BaseException") = some true) (q4_NoRank : PySem.W.hasDictIn K C_NoRank = true) (q5_NoRank : PySem.W.findIn K (.ref C_NoRank) "__class__" = some (some (.builtin "object.__class__"))) (q6_NoRank : PySem.W.mroIn K C_NoRank (.type "object") = some true)
    (q1_NoPaper : PySem.W.findIn K (.ref C_NoPaper) "__getattribute__" = some (some (.builtin "BaseException.__getattribute__"))) (q2_NoPaper : PySem.W.findIn K (.ref C_NoPaper) "__getattr__" = some none) (q3_NoPaper : PySem.W.subIn K (.ref C_NoPaper) (.type "BaseException") = some true) (q4_NoPaper : PySem.W.hasDictIn K C_NoPaper = true) (q5_NoPaper : PySem.W.findIn K (.ref C_NoPaper) "__class__" = some (some (.builtin "object.__class__"))) (q6_NoPaper : PySem.W.mroIn K C_NoPaper (.type "object") = some true)
    (q1_Clash : PySem.W.findIn K (.ref C_Clash) "__getattribute__" = some (some (.builtin "BaseException.__getattribute__"))) (q2_Clash : PySem.W.findIn K (.ref C_Clash) "__getattr__" = some none) (q3_Clash : PySem.W.subIn K (.ref C_Clash) (.type "BaseException") = some true) (q4_Clash : PySem.W.hasDictIn K C_Clash = true) (q5_Clash : PySem.W.findIn K (.ref C_Clash) "__class__" = some (some (.builtin "object.__class__"))) (q6_Clash : PySem.W.mroIn K C_Clash (.type "object") = some true)
    : ∃ fd : FuncData, (∀ (s : Shared) (v : Value), BindsTo s fd ⟨[v], []⟩ [("_law_script", v)]) ∧ ∀ base : Heap, K.In base → base.Ns mainGlobals mg → FnOk l.prog w K mg base (L2.CX l.prog w) 7 fa fd ["_law_script"] (spLaw K) := by
  have e := hfa.symm.trans (PySem.W.mg_of X G a_law)
  cases e
  have T : Top K mg := {
    here := trivial
    b_abs := PySem.W.mg_none_of X G z_abs
    b_any := PySem.W.mg_none_of X G z_any
    b_int := PySem.W.mg_none_of X G z_int
    b_isinstance := PySem.W.mg_none_of X G z_isinstance
    b_len := PySem.W.mg_none_of X G z_len
    b_list := PySem.W.mg_none_of X G z_list
    b_range := PySem.W.mg_none_of X G z_range
    b_zip := PySem.W.mg_none_of X G z_zip
    x_NoPaper := ⟨C_NoPaper, PySem.W.mg_of X G e_NoPaper, x1_NoPaper, x2_NoPaper, x3_NoPaper, x4_NoPaper⟩
    x_NoPart := ⟨C_NoPart, PySem.W.mg_of X G e_NoPart, x1_NoPart, x2_NoPart, x3_NoPart, x4_NoPart⟩
    g_NOUGHT := gc_rat (PySem.W.mg_of X G g1_NOUGHT) g2_NOUGHT (by decide) (by decide)
    c_FrameError := catc_mk (PySem.W.mg_of X G e_FrameError) x3_FrameError y_FrameError x4_FrameError (by
      intro n hn
      simp only [List.mem_cons, List.not_mem_nil, or_false] at hn
      rcases hn with rfl | rfl | rfl | rfl | rfl
      · exact ⟨C_FrameError, PySem.W.mg_of X G e_FrameError, y_FrameError_FrameError⟩
      · exact ⟨C_NoPart, PySem.W.mg_of X G e_NoPart, y_FrameError_NoPart⟩
      · exact ⟨C_NoRank, PySem.W.mg_of X G e_NoRank, y_FrameError_NoRank⟩
      · exact ⟨C_NoPaper, PySem.W.mg_of X G e_NoPaper, y_FrameError_NoPaper⟩
      · exact ⟨C_Clash, PySem.W.mg_of X G e_Clash, y_FrameError_Clash⟩)
    c_NoPaper := catc_mk (PySem.W.mg_of X G e_NoPaper) x3_NoPaper y_NoPaper x4_NoPaper (by
      intro n hn
      simp only [List.mem_cons, List.not_mem_nil, or_false] at hn
      rcases hn with rfl | rfl | rfl | rfl | rfl
      · exact ⟨C_FrameError, PySem.W.mg_of X G e_FrameError, y_NoPaper_FrameError⟩
      · exact ⟨C_NoPart, PySem.W.mg_of X G e_NoPart, y_NoPaper_NoPart⟩
      · exact ⟨C_NoRank, PySem.W.mg_of X G e_NoRank, y_NoPaper_NoRank⟩
      · exact ⟨C_NoPaper, PySem.W.mg_of X G e_NoPaper, y_NoPaper_NoPaper⟩
      · exact ⟨C_Clash, PySem.W.mg_of X G e_Clash, y_NoPaper_Clash⟩)
    i_Clash := ⟨C_Clash, PySem.W.mg_of X G e_Clash, by
      intro n hn
      simp only [List.mem_cons, List.not_mem_nil, or_false] at hn
      rcases hn with rfl | rfl | rfl | rfl | rfl
      · exact ⟨C_FrameError, PySem.W.mg_of X G e_FrameError, ⟨q1_FrameError, q2_FrameError, q3_FrameError, q4_FrameError, q5_FrameError, qn_, qt_, q6_FrameError⟩, kit1 y_Clash x4_Clash y_Clash_Clash y_Clash_FrameError⟩
      · exact ⟨C_NoPart, PySem.W.mg_of X G e_NoPart, ⟨q1_NoPart, q2_NoPart, q3_NoPart, q4_NoPart, q5_NoPart, qn_, qt_, q6_NoPart⟩, kit1 y_Clash x4_Clash y_Clash_Clash y_Clash_NoPart⟩
      · exact ⟨C_NoRank, PySem.W.mg_of X G e_NoRank, ⟨q1_NoRank, q2_NoRank, q3_NoRank, q4_NoRank, q5_NoRank, qn_, qt_, q6_NoRank⟩, kit1 y_Clash x4_Clash y_Clash_Clash y_Clash_NoRank⟩
      · exact ⟨C_NoPaper, PySem.W.mg_of X G e_NoPaper, ⟨q1_NoPaper, q2_NoPaper, q3_NoPaper, q4_NoPaper, q5_NoPaper, qn_, qt_, q6_NoPaper⟩, kit1 y_Clash x4_Clash y_Clash_Clash y_Clash_NoPaper⟩
      · exact ⟨C_Clash, PySem.W.mg_of X G e_Clash, ⟨q1_Clash, q2_Clash, q3_Clash, q4_Clash, q5_Clash, qn_, qt_, q6_Clash⟩, kit1 y_Clash x4_Clash y_Clash_Clash y_Clash_Clash⟩⟩
    i_NoPaper := ⟨C_NoPaper, PySem.W.mg_of X G e_NoPaper, by
      intro n hn
      simp only [List.mem_cons, List.not_mem_nil, or_false] at hn
      rcases hn with rfl | rfl | rfl | rfl | rfl
      · exact ⟨C_FrameError, PySem.W.mg_of X G e_FrameError, ⟨q1_FrameError, q2_FrameError, q3_FrameError, q4_FrameError, q5_FrameError, qn_, qt_, q6_FrameError⟩, kit1 y_NoPaper x4_NoPaper y_NoPaper_NoPaper y_NoPaper_FrameError⟩
      · exact ⟨C_NoPart, PySem.W.mg_of X G e_NoPart, ⟨q1_NoPart, q2_NoPart, q3_NoPart, q4_NoPart, q5_NoPart, qn_, qt_, q6_NoPart⟩, kit1 y_NoPaper x4_NoPaper y_NoPaper_NoPaper y_NoPaper_NoPart⟩
      · exact ⟨C_NoRank, PySem.W.mg_of X G e_NoRank, ⟨q1_NoRank, q2_NoRank, q3_NoRank, q4_NoRank, q5_NoRank, qn_, qt_, q6_NoRank⟩, kit1 y_NoPaper x4_NoPaper y_NoPaper_NoPaper y_NoPaper_NoRank⟩
      · exact ⟨C_NoPaper, PySem.W.mg_of X G e_NoPaper, ⟨q1_NoPaper, q2_NoPaper, q3_NoPaper, q4_NoPaper, q5_NoPaper, qn_, qt_, q6_NoPaper⟩, kit1 y_NoPaper x4_NoPaper y_NoPaper_NoPaper y_NoPaper_NoPaper⟩
      · exact ⟨C_Clash, PySem.W.mg_of X G e_Clash, ⟨q1_Clash, q2_Clash, q3_Clash, q4_Clash, q5_Clash, qn_, qt_, q6_Clash⟩, kit1 y_NoPaper x4_NoPaper y_NoPaper_NoPaper y_NoPaper_Clash⟩⟩
    i_NoRank := ⟨C_NoRank, PySem.W.mg_of X G e_NoRank, by
      intro n hn
      simp only [List.mem_cons, List.not_mem_nil, or_false] at hn
      rcases hn with rfl | rfl | rfl | rfl | rfl
      · exact ⟨C_FrameError, PySem.W.mg_of X G e_FrameError, ⟨q1_FrameError, q2_FrameError, q3_FrameError, q4_FrameError, q5_FrameError, qn_, qt_, q6_FrameError⟩, kit1 y_NoRank x4_NoRank y_NoRank_NoRank y_NoRank_FrameError⟩
      · exact ⟨C_NoPart, PySem.W.mg_of X G e_NoPart, ⟨q1_NoPart, q2_NoPart, q3_NoPart, q4_NoPart, q5_NoPart, qn_, qt_, q6_NoPart⟩, kit1 y_NoRank x4_NoRank y_NoRank_NoRank y_NoRank_NoPart⟩
      · exact ⟨C_NoRank, PySem.W.mg_of X G e_NoRank, ⟨q1_NoRank, q2_NoRank, q3_NoRank, q4_NoRank, q5_NoRank, qn_, qt_, q6_NoRank⟩, kit1 y_NoRank x4_NoRank y_NoRank_NoRank y_NoRank_NoRank⟩
      · exact ⟨C_NoPaper, PySem.W.mg_of X G e_NoPaper, ⟨q1_NoPaper, q2_NoPaper, q3_NoPaper, q4_NoPaper, q5_NoPaper, qn_, qt_, q6_NoPaper⟩, kit1 y_NoRank x4_NoRank y_NoRank_NoRank y_NoRank_NoPaper⟩
      · exact ⟨C_Clash, PySem.W.mg_of X G e_Clash, ⟨q1_Clash, q2_Clash, q3_Clash, q4_Clash, q5_Clash, qn_, qt_, q6_Clash⟩, kit1 y_NoRank x4_NoRank y_NoRank_NoRank y_NoRank_Clash⟩⟩
  }
  have F_divisor_of := fun_mk (st := s_divisor_of) l_divisor_of c_divisor_of k_divisor_of
  have b_divisor_of := F_divisor_of.binds (ps := ["one", "other"]) fun _ _ _ _ _ _ us hl => match us, hl with | [_, _], _ => rfl
  have F_part := fun_mk (st := s_part) l_part c_part k_part
  have b_part := F_part.binds (ps := ["top", "bottom"]) fun _ _ _ _ _ _ us hl => match us, hl with | [_, _], _ => rfl
  have F_plus := fun_mk (st := s_plus) l_plus c_plus k_plus
  have b_plus := F_plus.binds (ps := ["one", "other"]) fun _ _ _ _ _ _ us hl => match us, hl with | [_, _], _ => rfl
  have F_minus := fun_mk (st := s_minus) l_minus c_minus k_minus
  have b_minus := F_minus.binds (ps := ["one", "other"]) fun _ _ _ _ _ _ us hl => match us, hl with | [_, _], _ => rfl
  have F_times := fun_mk (st := s_times) l_times c_times k_times
  have b_times := F_times.binds (ps := ["one", "other"]) fun _ _ _ _ _ _ us hl => match us, hl with | [_, _], _ => rfl
  have F_under := fun_mk (st := s_under) l_under c_under k_under
  have b_under := F_under.binds (ps := ["one", "other"]) fun _ _ _ _ _ _ us hl => match us, hl with | [_, _], _ => rfl
  have F_room_of := fun_mk (st := s_room_of) l_room_of c_room_of k_room_of
  have b_room_of := F_room_of.binds (ps := ["one", "settled", "goal", "shares"]) fun _ _ _ _ _ _ us hl => match us, hl with | [_, _, _, _], _ => rfl
  have F_fits_kind := fun_mk (st := s_fits_kind) l_fits_kind c_fits_kind k_fits_kind
  have b_fits_kind := F_fits_kind.binds (ps := ["kind", "price"]) fun _ _ _ _ _ _ us hl => match us, hl with | [_, _], _ => rfl
  have F_in_room := fun_mk (st := s_in_room) l_in_room c_in_room k_in_room
  have b_in_room := F_in_room.binds (ps := ["price", "room"]) fun _ _ _ _ _ _ us hl => match us, hl with | [_, _], _ => rfl
  have F_asked_of := fun_mk (st := s_asked_of) l_asked_of c_asked_of k_asked_of
  have b_asked_of := F_asked_of.binds (ps := ["rows", "prices", "unknown"]) fun _ _ _ _ _ _ us hl => match us, hl with | [_, _, _], _ => rfl
  have F_asked_in_all := fun_mk (st := s_asked_in_all) l_asked_in_all c_asked_in_all k_asked_in_all
  have b_asked_in_all := F_asked_in_all.binds (ps := ["rows", "prices"]) fun _ _ _ _ _ _ us hl => match us, hl with | [_, _], _ => rfl
  have F_side_of := fun_mk (st := s_side_of) l_side_of c_side_of k_side_of
  have b_side_of := F_side_of.binds (ps := ["unknown", "settled", "goal", "shares"]) fun _ _ _ _ _ _ us hl => match us, hl with | [_, _, _, _], _ => rfl
  have F_bound := fun_mk (st := s_bound) l_bound c_bound k_bound
  have b_bound := F_bound.binds (ps := ["rows", "unknowns", "settled", "goal", "paper"]) fun _ _ _ _ _ _ us hl => match us, hl with | [_, _, _, _, _], _ => rfl
  have F_l_cell_at := fun_mk (st := s_l_cell_at) l_l_cell_at c_l_cell_at k_l_cell_at
  have b_l_cell_at := F_l_cell_at.binds (ps := ["_law_script", "_law_k"]) fun _ _ _ _ _ _ us hl => match us, hl with | [_, _], _ => rfl
  have F_l_mix := fun_mk (st := s_l_mix) l_l_mix c_l_mix k_l_mix
  have b_l_mix := F_l_mix.binds (ps := ["_law_cell", "_law_k"]) fun _ _ _ _ _ _ us hl => match us, hl with | [_, _], _ => rfl
  have F_l_divisor := fun_mk (st := s_l_divisor) l_l_divisor c_l_divisor k_l_divisor
  have b_l_divisor := F_l_divisor.binds (ps := ["_law_one", "_law_other"]) fun _ _ _ _ _ _ us hl => match us, hl with | [_, _], _ => rfl
  have F_l_lowest := fun_mk (st := s_l_lowest) l_l_lowest c_l_lowest k_l_lowest
  have b_l_lowest := F_l_lowest.binds (ps := ["_law_top", "_law_bottom"]) fun _ _ _ _ _ _ us hl => match us, hl with | [_, _], _ => rfl
  have F_l_row := fun_mk (st := s_l_row) l_l_row c_l_row k_l_row
  have b_l_row := F_l_row.binds (ps := ["_law_cell"]) fun _ _ _ _ _ _ us hl => match us, hl with | [_], _ => rfl
  have F_l_room := fun_mk (st := s_l_room) l_l_room c_l_room k_l_room
  have b_l_room := F_l_room.binds (ps := ["_law_one", "_law_goal", "_law_settled"]) fun _ _ _ _ _ _ us hl => match us, hl with | [_, _, _], _ => rfl
  have F_l_word := fun_mk (st := s_l_word) l_l_word c_l_word k_l_word
  have b_l_word := F_l_word.binds (ps := ["_law_rows", "_law_some", "_law_settled", "_law_goal", "_law_prices", "_law_shares"]) fun _ _ _ _ _ _ us hl => match us, hl with | [_, _, _, _, _, _], _ => rfl
  have F_l_counts := fun_mk (st := s_l_counts) l_l_counts c_l_counts k_l_counts
  have b_l_counts := F_l_counts.binds (ps := ["_law_prices", "_law_shares", "_law_way"]) fun _ _ _ _ _ _ us hl => match us, hl with | [_, _, _], _ => rfl
  have F_l_priced := fun_mk (st := s_l_priced) l_l_priced c_l_priced k_l_priced
  have b_l_priced := F_l_priced.binds (ps := ["_law_one", "_law_room_here", "_law_mixed"]) fun _ _ _ _ _ _ us hl => match us, hl with | [_, _, _], _ => rfl
  have F_law := fun_mk (st := s_law) l_law c_law k_law
  refine ⟨PySem.W.fnOf "law" "law" (defArgs s_law) (defBody s_law) (defScope s_law) .none kV_22 dc_22 pm_22 an_22 cd_22 ct_22, fun s v => .of_eq rfl, fun base _ _ => ?_⟩
  have d_divisor_of : DefOk l.prog w K mg base "divisor_of" 1 ["one", "other"] [] (spP K mg 2 ph_divisor_of) := ⟨_, _, [], w_divisor_of F_divisor_of T, PySem.W.mg_of X G a_divisor_of, k_divisor_of, b_divisor_of, .nil⟩
  have d_under : DefOk l.prog w K mg base "under" 1 ["one", "other"] [] (spP K mg 2 ph_under) := ⟨_, _, [], w_under F_under T, PySem.W.mg_of X G a_under, k_under, b_under, .nil⟩
  have d_fits_kind : DefOk l.prog w K mg base "fits_kind" 1 ["kind", "price"] [] (spP K mg 2 ph_fits_kind) := ⟨_, _, [], w_fits_kind F_fits_kind T, PySem.W.mg_of X G a_fits_kind, k_fits_kind, b_fits_kind, .nil⟩
  have d_l_cell_at : DefOk l.prog w K mg base "_law_cell_at" 1 ["_law_script", "_law_k"] [] (spP K mg 2 ph_l_cell_at) := ⟨_, _, [], w_l_cell_at F_l_cell_at T, PySem.W.mg_of X G a_l_cell_at, k_l_cell_at, b_l_cell_at, .nil⟩
  have d_l_mix : DefOk l.prog w K mg base "_law_mix" 1 ["_law_cell", "_law_k"] [] (spP K mg 2 ph_l_mix) := ⟨_, _, [], w_l_mix F_l_mix T, PySem.W.mg_of X G a_l_mix, k_l_mix, b_l_mix, .nil⟩
  have d_l_divisor : DefOk l.prog w K mg base "_law_divisor" 1 ["_law_one", "_law_other"] [] (spP K mg 2 ph_l_divisor) := ⟨_, _, [], w_l_divisor F_l_divisor T, PySem.W.mg_of X G a_l_divisor, k_l_divisor, b_l_divisor, .nil⟩
  have d_l_room : DefOk l.prog w K mg base "_law_room" 1 ["_law_one", "_law_goal", "_law_settled"] [] (spP K mg 3 ph_l_room) := ⟨_, _, [], w_l_room F_l_room T, PySem.W.mg_of X G a_l_room, k_l_room, b_l_room, .nil⟩
  have d_l_counts : DefOk l.prog w K mg base "_law_counts" 1 ["_law_prices", "_law_shares", "_law_way"] [] (spP K mg 3 ph_l_counts) := ⟨_, _, [], w_l_counts F_l_counts T, PySem.W.mg_of X G a_l_counts, k_l_counts, b_l_counts, .nil⟩
  have d_part : DefOk l.prog w K mg base "part" 2 ["top", "bottom"] [] (spP K mg 2 ph_part) := ⟨_, _, [], w_part F_part T d_divisor_of, PySem.W.mg_of X G a_part, k_part, b_part, .nil⟩
  have d_in_room : DefOk l.prog w K mg base "in_room" 2 ["price", "room"] [] (spP K mg 2 ph_in_room) := ⟨_, _, [], w_in_room F_in_room T d_under, PySem.W.mg_of X G a_in_room, k_in_room, b_in_room, .nil⟩
  have d_l_lowest : DefOk l.prog w K mg base "_law_lowest" 2 ["_law_top", "_law_bottom"] [] (spP K mg 2 ph_l_lowest) := ⟨_, _, [], w_l_lowest F_l_lowest T d_l_divisor, PySem.W.mg_of X G a_l_lowest, k_l_lowest, b_l_lowest, .nil⟩
  have d_plus : DefOk l.prog w K mg base "plus" 3 ["one", "other"] [] (spP K mg 2 ph_plus) := ⟨_, _, [], w_plus F_plus T d_part, PySem.W.mg_of X G a_plus, k_plus, b_plus, .nil⟩
  have d_minus : DefOk l.prog w K mg base "minus" 3 ["one", "other"] [] (spP K mg 2 ph_minus) := ⟨_, _, [], w_minus F_minus T d_part, PySem.W.mg_of X G a_minus, k_minus, b_minus, .nil⟩
  have d_times : DefOk l.prog w K mg base "times" 3 ["one", "other"] [] (spP K mg 2 ph_times) := ⟨_, _, [], w_times F_times T d_part, PySem.W.mg_of X G a_times, k_times, b_times, .nil⟩
  have d_l_row : DefOk l.prog w K mg base "_law_row" 3 ["_law_cell"] [] (spP K mg 1 ph_l_row) := ⟨_, _, [], w_l_row F_l_row T d_l_lowest d_l_mix, PySem.W.mg_of X G a_l_row, k_l_row, b_l_row, .nil⟩
  have d_l_priced : DefOk l.prog w K mg base "_law_priced" 3 ["_law_one", "_law_room_here", "_law_mixed"] [] (spP K mg 3 ph_l_priced) := ⟨_, _, [], w_l_priced F_l_priced T d_l_lowest, PySem.W.mg_of X G a_l_priced, k_l_priced, b_l_priced, .nil⟩
  have d_room_of : DefOk l.prog w K mg base "room_of" 4 ["one", "settled", "goal", "shares"] [] (spP K mg 4 ph_room_of) := ⟨_, _, [], w_room_of F_room_of T d_times d_plus, PySem.W.mg_of X G a_room_of, k_room_of, b_room_of, .nil⟩
  have d_asked_of : DefOk l.prog w K mg base "asked_of" 4 ["rows", "prices", "unknown"] [] (spP K mg 3 ph_asked_of) := ⟨_, _, [], w_asked_of F_asked_of T d_plus d_times, PySem.W.mg_of X G a_asked_of, k_asked_of, b_asked_of, .nil⟩
  have d_asked_in_all : DefOk l.prog w K mg base "asked_in_all" 4 ["rows", "prices"] [] (spP K mg 2 ph_asked_in_all) := ⟨_, _, [], w_asked_in_all F_asked_in_all T d_plus d_times, PySem.W.mg_of X G a_asked_in_all, k_asked_in_all, b_asked_in_all, .nil⟩
  have d_side_of : DefOk l.prog w K mg base "side_of" 4 ["unknown", "settled", "goal", "shares"] [] (spP K mg 4 ph_side_of) := ⟨_, _, [], w_side_of F_side_of T d_plus, PySem.W.mg_of X G a_side_of, k_side_of, b_side_of, .nil⟩
  have d_bound : DefOk l.prog w K mg base "bound" 5 ["rows", "unknowns", "settled", "goal", "paper"] [] (spP K mg 5 ph_bound) := ⟨_, _, [], w_bound F_bound T d_asked_in_all d_under d_minus d_fits_kind d_side_of d_asked_of d_times d_in_room d_room_of, PySem.W.mg_of X G a_bound, k_bound, b_bound, .nil⟩
  have d_l_word : DefOk l.prog w K mg base "_law_word" 6 ["_law_rows", "_law_some", "_law_settled", "_law_goal", "_law_prices", "_law_shares"] [] (spP K mg 6 ph_l_word) := ⟨_, _, [], w_l_word F_l_word T d_bound, PySem.W.mg_of X G a_l_word, k_l_word, b_l_word, .nil⟩
  exact (w_law (P := l.prog) (w := w) (base := base) F_law T d_l_cell_at d_l_row d_l_word d_l_counts d_l_mix d_l_priced d_l_room d_l_lowest).imp (law_end fun ns hn => ⟨ns, rfl, (plain_law ns hn).1, (plain_law ns hn).2⟩)
end G
open PySem PySem.W PyProof.Rows
set_option maxRecDepth 100000 in
set_option maxHeartbeats 0 in
theorem PySem.Challenge.cw_springframe_k32_no_paper_holds : PySem.Challenge.rw_springframe_k32_no_paper.Holds := by
  w_on; o_law; k_head; (case hw => w_witness2)
  k_fill
  refine L2.walk_of (l := PySem.Challenge.rw_springframe_k32_no_paper) (n := 63) (k := 7) (x := "_law_script") (CX := fun w => L2.CX PySem.Challenge.rw_springframe_k32_no_paper.prog w) (sp := fun w => R.spLaw _) rfl (by decide) rfl ⟨rfl, by decide, by decide⟩ (fun w h Y => PySem.W.kIn_of Y) ?F (fun _ _ a ns hl _ hS => ⟨a, ns, rfl, hS, hl, fun _ _ e => e⟩) (fun _ _ _ _ _ h => R.cx_end h)
  case F =>
    intro w mg fa h KX GG hmg
    refine' _root_.G.all_mk KX GG hmg ?a_divisor_of ?l_divisor_of ?c_divisor_of ?k_divisor_of ?a_part ?l_part ?c_part ?k_part ?a_plus ?l_plus ?c_plus ?k_plus ?a_minus ?l_minus ?c_minus ?k_minus ?a_times ?l_times ?c_times ?k_times ?a_under ?l_under ?c_under ?k_under ?a_room_of ?l_room_of ?c_room_of ?k_room_of ?a_fits_kind ?l_fits_kind ?c_fits_kind ?k_fits_kind ?a_in_room ?l_in_room ?c_in_room ?k_in_room ?a_asked_of ?l_asked_of ?c_asked_of ?k_asked_of ?a_asked_in_all ?l_asked_in_all ?c_asked_in_all ?k_asked_in_all ?a_side_of ?l_side_of ?c_side_of ?k_side_of ?a_bound ?l_bound ?c_bound ?k_bound ?a_l_cell_at ?l_l_cell_at ?c_l_cell_at ?k_l_cell_at ?a_l_mix ?l_l_mix ?c_l_mix ?k_l_mix ?a_l_divisor ?l_l_divisor ?c_l_divisor ?k_l_divisor ?a_l_lowest ?l_l_lowest ?c_l_lowest ?k_l_lowest ?a_l_row ?l_l_row ?c_l_row ?k_l_row ?a_l_room ?l_l_room ?c_l_room ?k_l_room ?a_l_word ?l_l_word ?c_l_word ?k_l_word ?a_l_counts ?l_l_counts ?c_l_counts ?k_l_counts ?a_l_priced ?l_l_priced ?c_l_priced ?k_l_priced ?a_law ?l_law ?c_law ?k_law ?z_abs ?z_any ?z_int ?z_isinstance ?z_len ?z_list ?z_range ?z_zip ?g1_NOUGHT ?g2_NOUGHT ?e_Clash ?e_FrameError ?e_NoPaper ?e_NoPart ?e_NoRank ?x1_NoPaper ?x2_NoPaper ?x1_NoPart ?x2_NoPart ?x3_Clash ?x4_Clash ?x3_FrameError ?x4_FrameError ?x3_NoPaper ?x4_NoPaper ?x3_NoPart ?x4_NoPart ?x3_NoRank ?x4_NoRank ?y_Clash ?y_Clash_FrameError ?y_Clash_NoPart ?y_Clash_NoRank ?y_Clash_NoPaper ?y_Clash_Clash ?y_FrameError ?y_FrameError_FrameError ?y_FrameError_NoPart ?y_FrameError_NoRank ?y_FrameError_NoPaper ?y_FrameError_Clash ?y_NoPaper ?y_NoPaper_FrameError ?y_NoPaper_NoPart ?y_NoPaper_NoRank ?y_NoPaper_NoPaper ?y_NoPaper_Clash ?y_NoRank ?y_NoRank_FrameError ?y_NoRank_NoPart ?y_NoRank_NoRank ?y_NoRank_NoPaper ?y_NoRank_Clash ?qn_ ?qt_ ?q1_FrameError ?q2_FrameError ?q3_FrameError ?q4_FrameError ?q5_FrameError ?q6_FrameError ?q1_NoPart ?q2_NoPart ?q3_NoPart ?q4_NoPart ?q5_NoPart ?q6_NoPart ?q1_NoRank ?q2_NoRank ?q3_NoRank ?q4_NoRank ?q5_NoRank ?q6_NoRank ?q1_NoPaper ?q2_NoPaper ?q3_NoPaper ?q4_NoPaper ?q5_NoPaper ?q6_NoPaper ?q1_Clash ?q2_Clash ?q3_Clash ?q4_Clash ?q5_Clash ?q6_Clash
    (case a_divisor_of => k_is)
    (case l_divisor_of => k_is)
    (case c_divisor_of => k_is)
    (case k_divisor_of => k_is)
    (case a_part => k_is)
    (case l_part => k_is)
    (case c_part => k_is)
    (case k_part => k_is)
    (case a_plus => k_is)
    (case l_plus => k_is)
    (case c_plus => k_is)
    (case k_plus => k_is)
    (case a_minus => k_is)
    (case l_minus => k_is)
    (case c_minus => k_is)
    (case k_minus => k_is)
    (case a_times => k_is)
    (case l_times => k_is)
    (case c_times => k_is)
    (case k_times => k_is)
    (case a_under => k_is)
    (case l_under => k_is)
    (case c_under => k_is)
    (case k_under => k_is)
    (case a_room_of => k_is)
    (case l_room_of => k_is)
    (case c_room_of => k_is)
    (case k_room_of => k_is)
    (case a_fits_kind => k_is)
    (case l_fits_kind => k_is)
    (case c_fits_kind => k_is)
    (case k_fits_kind => k_is)
    (case a_in_room => k_is)
    (case l_in_room => k_is)
    (case c_in_room => k_is)
    (case k_in_room => k_is)
    (case a_asked_of => k_is)
    (case l_asked_of => k_is)
    (case c_asked_of => k_is)
    (case k_asked_of => k_is)
    (case a_asked_in_all => k_is)
    (case l_asked_in_all => k_is)
    (case c_asked_in_all => k_is)
    (case k_asked_in_all => k_is)
    (case a_side_of => k_is)
    (case l_side_of => k_is)
    (case c_side_of => k_is)
    (case k_side_of => k_is)
    (case a_bound => k_is)
    (case l_bound => k_is)
    (case c_bound => k_is)
    (case k_bound => k_is)
    (case a_l_cell_at => k_is)
    (case l_l_cell_at => k_is)
    (case c_l_cell_at => k_is)
    (case k_l_cell_at => k_is)
    (case a_l_mix => k_is)
    (case l_l_mix => k_is)
    (case c_l_mix => k_is)
    (case k_l_mix => k_is)
    (case a_l_divisor => k_is)
    (case l_l_divisor => k_is)
    (case c_l_divisor => k_is)
    (case k_l_divisor => k_is)
    (case a_l_lowest => k_is)
    (case l_l_lowest => k_is)
    (case c_l_lowest => k_is)
    (case k_l_lowest => k_is)
    (case a_l_row => k_is)
    (case l_l_row => k_is)
    (case c_l_row => k_is)
    (case k_l_row => k_is)
    (case a_l_room => k_is)
    (case l_l_room => k_is)
    (case c_l_room => k_is)
    (case k_l_room => k_is)
    (case a_l_word => k_is)
    (case l_l_word => k_is)
    (case c_l_word => k_is)
    (case k_l_word => k_is)
    (case a_l_counts => k_is)
    (case l_l_counts => k_is)
    (case c_l_counts => k_is)
    (case k_l_counts => k_is)
    (case a_l_priced => k_is)
    (case l_l_priced => k_is)
    (case c_l_priced => k_is)
    (case k_l_priced => k_is)
    (case a_law => k_is)
    (case l_law => k_is)
    (case c_law => k_is)
    (case k_law => k_is)
    (case z_abs => k_is)
    (case z_any => k_is)
    (case z_int => k_is)
    (case z_isinstance => k_is)
    (case z_len => k_is)
    (case z_list => k_is)
    (case z_range => k_is)
    (case z_zip => k_is)
    (case g1_NOUGHT => k_is)
    (case g2_NOUGHT => k_is)
    (case e_Clash => k_is)
    (case e_FrameError => k_is)
    (case e_NoPaper => k_is)
    (case e_NoPart => k_is)
    (case e_NoRank => k_is)
    (case x1_NoPaper => k_exc)
    (case x2_NoPaper => k_is)
    (case x1_NoPart => k_exc)
    (case x2_NoPart => k_is)
    (case x3_Clash => k_is)
    (case x4_Clash => k_is)
    (case x3_FrameError => k_is)
    (case x4_FrameError => k_is)
    (case x3_NoPaper => k_is)
    (case x4_NoPaper => k_is)
    (case x3_NoPart => k_is)
    (case x4_NoPart => k_is)
    (case x3_NoRank => k_is)
    (case x4_NoRank => k_is)
    (case y_Clash => k_is)
    (case y_Clash_FrameError => k_is)
    (case y_Clash_NoPart => k_is)
    (case y_Clash_NoRank => k_is)
    (case y_Clash_NoPaper => k_is)
    (case y_Clash_Clash => (first | rfl | k_is))
    (case y_FrameError => k_is)
    (case y_FrameError_FrameError => (first | rfl | k_is))
    (case y_FrameError_NoPart => k_is)
    (case y_FrameError_NoRank => k_is)
    (case y_FrameError_NoPaper => k_is)
    (case y_FrameError_Clash => k_is)
    (case y_NoPaper => k_is)
    (case y_NoPaper_FrameError => k_is)
    (case y_NoPaper_NoPart => k_is)
    (case y_NoPaper_NoRank => k_is)
    (case y_NoPaper_NoPaper => (first | rfl | k_is))
    (case y_NoPaper_Clash => k_is)
    (case y_NoRank => k_is)
    (case y_NoRank_FrameError => k_is)
    (case y_NoRank_NoPart => k_is)
    (case y_NoRank_NoRank => (first | rfl | k_is))
    (case y_NoRank_NoPaper => k_is)
    (case y_NoRank_Clash => k_is)
    (case qn_ => k_is)
    (case qt_ => k_is)
    (case q1_FrameError => k_is)
    (case q2_FrameError => k_is)
    (case q3_FrameError => k_is)
    (case q4_FrameError => k_is)
    (case q5_FrameError => k_is)
    (case q6_FrameError => k_is)
    (case q1_NoPart => k_is)
    (case q2_NoPart => k_is)
    (case q3_NoPart => k_is)
    (case q4_NoPart => k_is)
    (case q5_NoPart => k_is)
    (case q6_NoPart => k_is)
    (case q1_NoRank => k_is)
    (case q2_NoRank => k_is)
    (case q3_NoRank => k_is)
    (case q4_NoRank => k_is)
    (case q5_NoRank => k_is)
    (case q6_NoRank => k_is)
    (case q1_NoPaper => k_is)
    (case q2_NoPaper => k_is)
    (case q3_NoPaper => k_is)
    (case q4_NoPaper => k_is)
    (case q5_NoPaper => k_is)
    (case q6_NoPaper => k_is)
    (case q1_Clash => k_is)
    (case q2_Clash => k_is)
    (case q3_Clash => k_is)
    (case q4_Clash => k_is)
    (case q5_Clash => k_is)
    (case q6_Clash => k_is)
