import PyProof.Rows.All
import Wide.All
import OpenK.AllK
import Wide.FinOn
import HandS.ForMost
import HandS.ForExc
import HandS.IsInst
import HandS.Wide
import HandS.Style
import KE.KExcSuper
import HandS.ExcInit
import HandS.ExcField
import HandS.TryOnly
import HandS.CallSlots
import HandS.Deep
import PySem.Challenge.RW_bendwright_k30_whole_two_round_arcs
set_option Elab.async false
set_option linter.all false
set_option maxRecDepth 100000
namespace L2.Mir
open PySem PySem.Spec PyProof.Rows
noncomputable section

/-- data: what a Python value is, without addresses. `st` is the draws' state -/
inductive D where
  | non | bl (b : Bool) | int (i : Int) | str (x : Str) | tup (xs : List D) | lst (xs : List D) | st | fn (x : Str)
  | dic (ks : List Key) (vs : List D) | dicT (ks : List (List Key)) (vs : List D)

/-- the draws' state: the place, the cells -/
abbrev DS := Option (Int × List Int)
/-- an exception: its kind (a number of one's own), its fields -/
structure Xc where
  kind : Nat
  args : List D
inductive Res (α : Type) where
  | ok (a : α) (s : DS) | exc (x : Xc) (s : DS) | no
abbrev M (α : Type) := DS → Res α
def Res.bind {α β : Type} (r : Res α) (f : α → DS → Res β) : Res β := match r with
  | .ok a s => f a s
  | .exc x s => .exc x s
  | .no => .no
@[simp] theorem bind_ok {α β : Type} (a : α) (s : DS) (f : α → DS → Res β) : (Res.ok a s).bind f = f a s := rfl
@[simp] theorem bind_exc {α β : Type} (x : Xc) (s : DS) (f : α → DS → Res β) : (Res.exc x s : Res α).bind f = .exc x s := rfl
@[simp] theorem bind_no {α β : Type} (f : α → DS → Res β) : (Res.no : Res α).bind f = .no := rfl

/-! ### bounds that a computation asks (kept shut: simp does not look in) -/
def LenOk (n : Nat) : Prop := n ≤ sizeLine
instance (n : Nat) : Decidable (LenOk n) := Classical.propDecidable _
@[simp] theorem LenOk.small {n : Nat} (h : n ≤ 16777216) : LenOk n := by unfold LenOk; rw [sizeLine_eq]; exact h
theorem LenOk.le {n : Nat} (h : LenOk n) : n ≤ sizeLine := h
def DivOk (j : Int) : Prop := 0 < j ∧ j.natAbs.log2 < 9000
instance (n : Int) : Decidable (DivOk n) := Classical.propDecidable _
theorem log2_lt_of_pow {n k : Nat} (h : n < 2 ^ k) (hk : 0 < k) : n.log2 < k := by
  by_cases e : n = 0
  · subst e; simpa using hk
  · exact (Nat.log2_lt e).mpr h
theorem DivOk.of {j : Int} {k : Nat} (h0 : 0 < j) (h : j.natAbs < 2 ^ k) (hk : k ≤ 9000) : DivOk j := by
  refine ⟨h0, ?_⟩
  have hk0 : 0 < k := by
    rcases Nat.eq_zero_or_pos k with e | e
    · subst e; simp at h; omega
    · exact e
  have := log2_lt_of_pow h hk0
  omega
@[simp] theorem DivOk.small {j : Int} (h0 : 0 < j) (h1 : j < 9223372036854775808) : DivOk j := DivOk.of (k := 63) h0 (by omega) (by decide)
def RngOk (j : Int) : Prop := -4611686018427387904 ≤ j ∧ j < 4611686018427387904
instance (n : Int) : Decidable (RngOk n) := Classical.propDecidable _
@[simp] theorem RngOk.small {j : Int} (h0 : -4611686018427387904 ≤ j) (h1 : j < 4611686018427387904) : RngOk j := ⟨by omega, by omega⟩
@[simp] theorem RngOk.len {n : Nat} (h : n ≤ 16777216) : RngOk (n : Int) := ⟨by omega, by omega⟩
def TakeOk (j : Int) : Prop := j < 2 ∨ j.natAbs.log2 < 9000
instance (n : Int) : Decidable (TakeOk n) := Classical.propDecidable _
theorem TakeOk.of {j : Int} {k : Nat} (h : j.natAbs < 2 ^ k) (hk : k ≤ 9000) : TakeOk j := by
  by_cases h0 : 0 < j
  · exact .inr (DivOk.of h0 h hk).2
  · exact .inl (by omega)
@[simp] theorem TakeOk.small {j : Int} (h1 : j < 9223372036854775808) : TakeOk j := by
  by_cases h0 : 0 < j
  · exact .inr (DivOk.small h0 h1).2
  · exact .inl (by omega)

/-- what is frozen, where the draws' state lies -/
structure Wd where
  F : Addr → Prop
  S : Option (Addr × Addr)
def Wd.isS (W : Wd) (a : Addr) : Prop := ∃ p, W.S = some p ∧ (a = p.1 ∨ a = p.2)

mutual
def Rep (K : PySem.W.Frag) (W : Wd) (H : Hp) : D → V → Prop
  | .non, v => v = .non
  | .bl b, v => v = .bl b
  | .int i, v => v = .int i
  | .str x, v => v = .str x
  | .tup ds, v => ∃ a vs, v = .ref a ∧ SqT K H a vs ∧ Reps K W H ds vs
  | .lst ds, v => ∃ a vs, v = .ref a ∧ H a = some (.lst vs) ∧ W.F a ∧ Reps K W H ds vs
  | .st, v => ∃ p, W.S = some p ∧ v = .ref p.1
  | .fn x, v => ∃ a, v = .ref a ∧ PySem.W.nsIn K mainGlobals x = some (some (.ref a))
  | .dic ks ds, v => ∃ a vs, v = .ref a ∧ H a = some (.dK (ks.zip vs)) ∧ W.F a ∧ ks.length = ds.length ∧ Reps K W H ds vs
  | .dicT ks ds, v => ∃ a vs, v = .ref a ∧ H a = some (.dT (ks.zip vs)) ∧ W.F a ∧ ks.length = ds.length ∧ Reps K W H ds vs
def Reps (K : PySem.W.Frag) (W : Wd) (H : Hp) : List D → List V → Prop
  | [], vs => vs = []
  | d :: ds, vs => ∃ v r, vs = v :: r ∧ Rep K W H d v ∧ Reps K W H ds r
end

structure Ext (W : Wd) (H : Hp) (W' : Wd) (H' : Hp) : Prop where
  keep : ∀ a o, H a = some o → ¬ W.isS a → H' a = some o
  tups : ∀ a xs, Rd H a (.tup xs) → Rd H' a (.tup xs)
  frs : ∀ a o, W.F a → H a = some o → H' a = some o
  dom : ∀ a, H' a = none → H a = none
  fsub : ∀ a, W.F a → W'.F a
  fnew : ∀ a, W'.F a → W.F a ∨ H a = none
  ssub : ∀ p, W.S = some p → W'.S = some p
  snew : ∀ p, W'.S = some p → W.S = some p ∨ (H p.1 = none ∧ H p.2 = none)

theorem Ext.refl (W : Wd) (H : Hp) : Ext W H W H :=
  ⟨fun _ _ h _ => h, fun _ _ h => h, fun _ _ _ h => h, fun _ h => h, fun _ h => h, fun _ h => .inl h, fun _ h => h, fun _ h => .inl h⟩
theorem none_of_dom {H H' : Hp} (d : ∀ a, H' a = none → H a = none) {a : Addr} {o : HO} (h : H a = some o) : ∃ u, H' a = some u := by
  cases q : H' a with
  | none => rw [d a q] at h; cases h
  | some u => exact ⟨u, rfl⟩
theorem Ext.isS {W W' : Wd} {H H' : Hp} (e : Ext W H W' H') {a : Addr} {o : HO} (h : H a = some o) (n : ¬ W.isS a) : ¬ W'.isS a := by
  rintro ⟨p, hp, ha⟩
  rcases e.snew p hp with q | ⟨q1, q2⟩
  · exact n ⟨p, q, ha⟩
  · rcases ha with rfl | rfl
    · rw [q1] at h; cases h
    · rw [q2] at h; cases h
theorem Ext.trans {W W1 W2 : Wd} {H H1 H2 : Hp} (a : Ext W H W1 H1) (b : Ext W1 H1 W2 H2) : Ext W H W2 H2 where
  keep := fun x o h n => b.keep x o (a.keep x o h n) (a.isS h n)
  tups := fun x xs h => b.tups x xs (a.tups x xs h)
  frs := fun x o f h => b.frs x o (a.fsub x f) (a.frs x o f h)
  dom := fun x h => a.dom x (b.dom x h)
  fsub := fun x h => b.fsub x (a.fsub x h)
  fnew := fun x h => by
    rcases b.fnew x h with q | q
    · exact a.fnew x q
    · exact .inr (a.dom x q)
  ssub := fun p h => b.ssub p (a.ssub p h)
  snew := fun p h => by
    rcases b.snew p h with q | ⟨q1, q2⟩
    · exact a.snew p q
    · exact .inr ⟨a.dom _ q1, a.dom _ q2⟩

theorem Ext.seqT {K : PySem.W.Frag} {W W' : Wd} {H H' : Hp} (e : Ext W H W' H') {a : Addr} {xs : List V} (h : SqT K H a xs) : SqT K H' a xs := by
  rcases h with h | h
  · exact .inl (e.tups _ _ h)
  · exact .inr h

/-- what a representation leans on -/
structure Mn (W : Wd) (H : Hp) (W' : Wd) (H' : Hp) : Prop where
  tups : ∀ a xs, Rd H a (.tup xs) → Rd H' a (.tup xs)
  frs : ∀ a o, W.F a → H a = some o → H' a = some o
  fsub : ∀ a, W.F a → W'.F a
  ssub : ∀ p, W.S = some p → W'.S = some p
theorem Ext.mn {W W' : Wd} {H H' : Hp} (e : Ext W H W' H') : Mn W H W' H' := ⟨e.tups, e.frs, e.fsub, e.ssub⟩
theorem Mn.seqT {K : PySem.W.Frag} {W W' : Wd} {H H' : Hp} (e : Mn W H W' H') {a : Addr} {xs : List V} (h : SqT K H a xs) : SqT K H' a xs := by
  rcases h with h | h
  · exact .inl (e.tups _ _ h)
  · exact .inr h
mutual
theorem Rep.mn {K : PySem.W.Frag} {W W' : Wd} {H H' : Hp} (e : Mn W H W' H') : ∀ (d : D) (v : V), Rep K W H d v → Rep K W' H' d v
  | .non, _, h => by simpa [Rep] using h
  | .bl _, _, h => by simpa [Rep] using h
  | .int _, _, h => by simpa [Rep] using h
  | .str _, _, h => by simpa [Rep] using h
  | .tup ds, _, h => by
    simp only [Rep] at h ⊢
    obtain ⟨a, vs, rfl, hs, hr⟩ := h
    exact ⟨a, vs, rfl, e.seqT hs, Reps.mn e ds vs hr⟩
  | .lst ds, _, h => by
    simp only [Rep] at h ⊢
    obtain ⟨a, vs, rfl, hs, f, hr⟩ := h
    exact ⟨a, vs, rfl, e.frs _ _ f hs, e.fsub _ f, Reps.mn e ds vs hr⟩
  | .fn _, _, h => by simpa [Rep] using h
  | .st, _, h => by
    simp only [Rep] at h ⊢
    obtain ⟨p, hp, rfl⟩ := h
    exact ⟨p, e.ssub _ hp, rfl⟩
  | .dic ks ds, _, h => by
    simp only [Rep] at h ⊢
    obtain ⟨a, vs, rfl, hs, f, hl, hr⟩ := h
    exact ⟨a, vs, rfl, e.frs _ _ f hs, e.fsub _ f, hl, Reps.mn e ds vs hr⟩
  | .dicT ks ds, _, h => by
    simp only [Rep] at h ⊢
    obtain ⟨a, vs, rfl, hs, f, hl, hr⟩ := h
    exact ⟨a, vs, rfl, e.frs _ _ f hs, e.fsub _ f, hl, Reps.mn e ds vs hr⟩
theorem Reps.mn {K : PySem.W.Frag} {W W' : Wd} {H H' : Hp} (e : Mn W H W' H') : ∀ (ds : List D) (vs : List V), Reps K W H ds vs → Reps K W' H' ds vs
  | [], _, h => by simpa [Reps] using h
  | d :: ds, _, h => by
    simp only [Reps] at h ⊢
    obtain ⟨v, r, rfl, h1, h2⟩ := h
    exact ⟨v, r, rfl, Rep.mn e d v h1, Reps.mn e ds r h2⟩
end
theorem Rep.ext {K : PySem.W.Frag} {W W' : Wd} {H H' : Hp} (e : Ext W H W' H') (d : D) (v : V) (h : Rep K W H d v) : Rep K W' H' d v := Rep.mn e.mn d v h
theorem Reps.ext {K : PySem.W.Frag} {W W' : Wd} {H H' : Hp} (e : Ext W H W' H') (ds : List D) (vs : List V) (h : Reps K W H ds vs) : Reps K W' H' ds vs := Reps.mn e.mn ds vs h

/-- the draws' state is held -/
def WS (W : Wd) (s : DS) (H : Hp) : Prop := (∀ a, W.F a → ∃ o, H a = some o) ∧ ((W.S = none ∧ s = none) ∨ ∃ (sa ca : Addr) (i : Int) (cells : List Int), W.S = some (sa, ca) ∧ s = some (i, cells) ∧
  H sa = some (.lst [.int i, .ref ca]) ∧ H ca = some (.lst (cells.map V.int)) ∧ sa ≠ ca ∧ ¬ W.F sa ∧ ¬ W.F ca)

abbrev VE := List (Option D)
def EnvR (K : PySem.W.Frag) (W : Wd) (H : Hp) (σ : St) (env : VE) : Prop :=
  σ.length = env.length ∧ ∀ (i : Nat) (d : D), env[i]? = some (some d) → ∃ v, σ[i]? = some (some v) ∧ Rep K W H d v
theorem EnvR.ext {K : PySem.W.Frag} {W W' : Wd} {H H' : Hp} {σ : St} {env : VE} (h : EnvR K W H σ env) (e : Ext W H W' H') : EnvR K W' H' σ env :=
  ⟨h.1, fun i d q => let ⟨v, h1, h2⟩ := h.2 i d q; ⟨v, h1, h2.ext e d v⟩⟩

/-- what an exception is, by value: kind, fields (filled in where a text raises) -/
abbrev XR := PySem.W.Frag → Xc → Value → Option Addr → Hp → Prop
/-- the context's own: what stands written, the exceptions' form, the wish -/
structure Gx where
  K : PySem.W.Frag
  xr : XR
  E : XK
def Aft (G : Gx) (W : Wd) (H : Hp) (r : Res D) (Q : VK) : Prop := match r with
  | .ok d s' => ∀ W' H' v, Ext W H W' H' → WS W' s' H' → Rep G.K W' H' d v → Q v H'
  | .exc x s' => ∀ W' H' c dd, Ext W H W' H' → WS W' s' H' → G.xr G.K x c dd H' → G.E c dd H'
  | .no => False
theorem Aft.ext {G : Gx} {W W' : Wd} {H H' : Hp} {r : Res D} {Q : VK} (e : Ext W H W' H') (h : Aft G W H r Q) : Aft G W' H' r Q := by
  cases r with
  | ok d s => exact fun W2 H2 v e2 ws rp => h W2 H2 v (e.trans e2) ws rp
  | exc x s => exact fun W2 H2 c dd e2 ws rp => h W2 H2 c dd (e.trans e2) ws rp
  | no => exact h
/-- the reading by a mirror -/
def tM (G : Gx) (m : VE → M D) : TE := fun σ H Q => ∃ W env s, EnvR G.K W H σ env ∧ WS W s H ∧ Aft G W H (m env s) Q
/-- an expression and its mirror -/
abbrev EE (X : Cx) (G : Gx) (e : Expr) (m : VE → M D) : Prop := PE X e (tM G m)
theorem pe_imp {X : Cx} {e : Expr} {t t' : TE} (h : PE X e t) (i : ∀ σ H Q, t' σ H Q → t σ H Q) : PE X e t' := ⟨fun pins s σ H Q I q => h.run pins s σ H Q I (i σ H Q q)⟩
theorem pt_imp {X : Cx} {e : Expr} {t t' : TT} (h : PT X e t) (i : ∀ σ H Q, t' σ H Q → t σ H Q) : PT X e t' := ⟨fun pins s σ H Q I q => h.run pins s σ H Q I (i σ H Q q)⟩
theorem pa_imp {X : Cx} {e : List Expr} {t t' : TA} (h : PA X e t) (i : ∀ σ H Q, t' σ H Q → t σ H Q) : PA X e t' := ⟨fun pos pins s σ H Q I q => h.run pos pins s σ H Q I (i σ H Q q)⟩

/-- lists of values -/
def AftL (G : Gx) (W : Wd) (H : Hp) (r : Res (List D)) (Q : List V → Hp → Prop) : Prop := match r with
  | .ok ds s' => ∀ W' H' vs, Ext W H W' H' → WS W' s' H' → Reps G.K W' H' ds vs → Q vs H'
  | .exc x s' => ∀ W' H' c dd, Ext W H W' H' → WS W' s' H' → G.xr G.K x c dd H' → G.E c dd H'
  | .no => False
theorem AftL.ext {G : Gx} {W W' : Wd} {H H' : Hp} {r : Res (List D)} {Q : List V → Hp → Prop} (e : Ext W H W' H') (h : AftL G W H r Q) : AftL G W' H' r Q := by
  cases r with
  | ok d s => exact fun W2 H2 v e2 ws rp => h W2 H2 v (e.trans e2) ws rp
  | exc x s => exact fun W2 H2 c dd e2 ws rp => h W2 H2 c dd (e.trans e2) ws rp
  | no => exact h
def tML (G : Gx) (m : VE → M (List D)) : TA := fun σ H Q => ∃ W env s, EnvR G.K W H σ env ∧ WS W s H ∧ AftL G W H (m env s) Q
abbrev EA (X : Cx) (G : Gx) (es : List Expr) (m : VE → M (List D)) : Prop := PA X es (tML G m)
/-- tests -/
def AftT (G : Gx) (W : Wd) (H : Hp) (r : Res Bool) (Q : Bool → Hp → Prop) : Prop := match r with
  | .ok b s' => ∀ W' H', Ext W H W' H' → WS W' s' H' → Q b H'
  | .exc x s' => ∀ W' H' c dd, Ext W H W' H' → WS W' s' H' → G.xr G.K x c dd H' → G.E c dd H'
  | .no => False
theorem AftT.ext {G : Gx} {W W' : Wd} {H H' : Hp} {r : Res Bool} {Q : Bool → Hp → Prop} (e : Ext W H W' H') (h : AftT G W H r Q) : AftT G W' H' r Q := by
  cases r with
  | ok d s => exact fun W2 H2 e2 ws => h W2 H2 (e.trans e2) ws
  | exc x s => exact fun W2 H2 c dd e2 ws rp => h W2 H2 c dd (e.trans e2) ws rp
  | no => exact h
def tMT (G : Gx) (m : VE → M Bool) : TT := fun σ H Q => ∃ W env s, EnvR G.K W H σ env ∧ WS W s H ∧ AftT G W H (m env s) Q
abbrev ET (X : Cx) (G : Gx) (e : Expr) (m : VE → M Bool) : Prop := PT X e (tMT G m)

section
variable {G : Gx} {W : Wd} {H : Hp} {σ : St} {env : VE} {s : DS}
/-- the reading of a first part, and then -/
theorem tM_bind {m : VE → M D} {f : D → DS → Res D} {Q : VK} {R : VK} (he : EnvR G.K W H σ env) (hs : WS W s H) (h : Aft G W H ((m env s).bind f) Q)
    (k : ∀ W' H' v d s', Ext W H W' H' → EnvR G.K W' H' σ env → WS W' s' H' → Rep G.K W' H' d v → m env s = .ok d s' → Aft G W' H' (f d s') Q → R v H') : tM G m σ H R := by
  refine ⟨W, env, s, he, hs, ?_⟩
  cases q : m env s with
  | ok d s' =>
    rw [q] at h
    exact fun W' H' v e ws rp => k W' H' v d s' e (he.ext e) ws rp q (Aft.ext e h)
  | exc x s' => rw [q] at h; exact h
  | no => rw [q] at h; exact h
theorem tM_bindL {m : VE → M D} {f : D → DS → Res (List D)} {Q : List V → Hp → Prop} {R : VK} (he : EnvR G.K W H σ env) (hs : WS W s H) (h : AftL G W H ((m env s).bind f) Q)
    (k : ∀ W' H' v d s', Ext W H W' H' → EnvR G.K W' H' σ env → WS W' s' H' → Rep G.K W' H' d v → m env s = .ok d s' → AftL G W' H' (f d s') Q → R v H') : tM G m σ H R := by
  refine ⟨W, env, s, he, hs, ?_⟩
  cases q : m env s with
  | ok d s' =>
    rw [q] at h
    exact fun W' H' v e ws rp => k W' H' v d s' e (he.ext e) ws rp q (AftL.ext e h)
  | exc x s' => rw [q] at h; exact h
  | no => rw [q] at h; exact h
theorem tM_bindT {m : VE → M D} {f : D → DS → Res Bool} {Q : Bool → Hp → Prop} {R : VK} (he : EnvR G.K W H σ env) (hs : WS W s H) (h : AftT G W H ((m env s).bind f) Q)
    (k : ∀ W' H' v d s', Ext W H W' H' → EnvR G.K W' H' σ env → WS W' s' H' → Rep G.K W' H' d v → m env s = .ok d s' → AftT G W' H' (f d s') Q → R v H') : tM G m σ H R := by
  refine ⟨W, env, s, he, hs, ?_⟩
  cases q : m env s with
  | ok d s' =>
    rw [q] at h
    exact fun W' H' v e ws rp => k W' H' v d s' e (he.ext e) ws rp q (AftT.ext e h)
  | exc x s' => rw [q] at h; exact h
  | no => rw [q] at h; exact h
theorem tML_bind {m : VE → M (List D)} {f : List D → DS → Res D} {Q : VK} {R : List V → Hp → Prop} (he : EnvR G.K W H σ env) (hs : WS W s H) (h : Aft G W H ((m env s).bind f) Q)
    (k : ∀ W' H' vs ds s', Ext W H W' H' → EnvR G.K W' H' σ env → WS W' s' H' → Reps G.K W' H' ds vs → m env s = .ok ds s' → Aft G W' H' (f ds s') Q → R vs H') : tML G m σ H R := by
  refine ⟨W, env, s, he, hs, ?_⟩
  cases q : m env s with
  | ok d s' =>
    rw [q] at h
    exact fun W' H' v e ws rp => k W' H' v d s' e (he.ext e) ws rp q (Aft.ext e h)
  | exc x s' => rw [q] at h; exact h
  | no => rw [q] at h; exact h
theorem tML_bindL {m : VE → M (List D)} {f : List D → DS → Res (List D)} {Q : List V → Hp → Prop} {R : List V → Hp → Prop} (he : EnvR G.K W H σ env) (hs : WS W s H) (h : AftL G W H ((m env s).bind f) Q)
    (k : ∀ W' H' vs ds s', Ext W H W' H' → EnvR G.K W' H' σ env → WS W' s' H' → Reps G.K W' H' ds vs → m env s = .ok ds s' → AftL G W' H' (f ds s') Q → R vs H') : tML G m σ H R := by
  refine ⟨W, env, s, he, hs, ?_⟩
  cases q : m env s with
  | ok d s' =>
    rw [q] at h
    exact fun W' H' v e ws rp => k W' H' v d s' e (he.ext e) ws rp q (AftL.ext e h)
  | exc x s' => rw [q] at h; exact h
  | no => rw [q] at h; exact h
theorem tMT_bind {m : VE → M Bool} {f : Bool → DS → Res D} {Q : VK} {R : Bool → Hp → Prop} (he : EnvR G.K W H σ env) (hs : WS W s H) (h : Aft G W H ((m env s).bind f) Q)
    (k : ∀ W' H' b s', Ext W H W' H' → EnvR G.K W' H' σ env → WS W' s' H' → m env s = .ok b s' → Aft G W' H' (f b s') Q → R b H') : tMT G m σ H R := by
  refine ⟨W, env, s, he, hs, ?_⟩
  cases q : m env s with
  | ok d s' =>
    rw [q] at h
    exact fun W' H' e ws => k W' H' d s' e (he.ext e) ws q (Aft.ext e h)
  | exc x s' => rw [q] at h; exact h
  | no => rw [q] at h; exact h
theorem tMT_bindT {m : VE → M Bool} {f : Bool → DS → Res Bool} {Q : Bool → Hp → Prop} {R : Bool → Hp → Prop} (he : EnvR G.K W H σ env) (hs : WS W s H) (h : AftT G W H ((m env s).bind f) Q)
    (k : ∀ W' H' b s', Ext W H W' H' → EnvR G.K W' H' σ env → WS W' s' H' → m env s = .ok b s' → AftT G W' H' (f b s') Q → R b H') : tMT G m σ H R := by
  refine ⟨W, env, s, he, hs, ?_⟩
  cases q : m env s with
  | ok d s' =>
    rw [q] at h
    exact fun W' H' e ws => k W' H' d s' e (he.ext e) ws q (AftT.ext e h)
  | exc x s' => rw [q] at h; exact h
  | no => rw [q] at h; exact h
/-- a value handed on as it is -/
theorem Aft.now {d : D} {v : V} {Q : VK} (h : Aft G W H (.ok d s) Q) (hs : WS W s H) (r : Rep G.K W H d v) : Q v H := h W H v (Ext.refl W H) hs r
end
end
end L2.Mir

set_option Elab.async false
set_option linter.all false
set_option maxRecDepth 100000
namespace L2.Mir
open PySem PySem.Spec PyProof.Rows
noncomputable section

section
variable {K : PySem.W.Frag} {W : Wd} {H : Hp} {s : DS}
theorem Reps.length : ∀ {ds : List D} {vs : List V}, Reps K W H ds vs → vs.length = ds.length
  | [], _, h => by simp only [Reps] at h; subst h; rfl
  | d :: ds, _, h => by
    simp only [Reps] at h
    obtain ⟨v, r, rfl, _, h2⟩ := h
    simp [Reps.length h2]
theorem Reps.get : ∀ {ds : List D} {vs : List V} {i : Nat} {d : D}, Reps K W H ds vs → ds[i]? = some d → ∃ v, vs[i]? = some v ∧ Rep K W H d v
  | [], _, _, _, _, e => by simp at e
  | d :: ds, _, 0, x, h, e => by
    simp only [Reps] at h
    obtain ⟨v, r, rfl, h1, _⟩ := h
    simp at e
    subst e
    exact ⟨v, rfl, h1⟩
  | d :: ds, _, i + 1, x, h, e => by
    simp only [Reps] at h
    obtain ⟨v, r, rfl, _, h2⟩ := h
    simp at e
    obtain ⟨w, e1, e2⟩ := Reps.get h2 e
    exact ⟨w, by simpa using e1, e2⟩
theorem Reps.append : ∀ {ds es : List D} {vs ws : List V}, Reps K W H ds vs → Reps K W H es ws → Reps K W H (ds ++ es) (vs ++ ws)
  | [], _, _, _, h, h2 => by simp only [Reps] at h; subst h; simpa using h2
  | d :: ds, es, _, ws, h, h2 => by
    simp only [Reps] at h
    obtain ⟨v, r, rfl, h1, h3⟩ := h
    simp only [List.cons_append, Reps]
    exact ⟨v, r ++ ws, rfl, h1, Reps.append h3 h2⟩
theorem Reps.set {x : D} {v : V} (hx : Rep K W H x v) : ∀ {ds : List D} {vs : List V} (i : Nat), Reps K W H ds vs → Reps K W H (ds.set i x) (vs.set i v)
  | [], _, _, h => by simp only [Reps] at h; subst h; simp [Reps]
  | d :: ds, _, 0, h => by
    simp only [Reps] at h
    obtain ⟨w, r, rfl, h1, h3⟩ := h
    simp only [List.set_cons_zero, Reps]
    exact ⟨v, r, rfl, hx, h3⟩
  | d :: ds, _, i + 1, h => by
    simp only [Reps] at h
    obtain ⟨w, r, rfl, h1, h3⟩ := h
    simp only [List.set_cons_succ, Reps]
    exact ⟨w, r.set i v, rfl, h1, Reps.set hx i h3⟩
theorem Reps.take : ∀ {ds : List D} {vs : List V} (n : Nat), Reps K W H ds vs → Reps K W H (ds.take n) (vs.take n)
  | _, _, 0, _ => by simp [Reps]
  | [], _, n + 1, h => by simp only [Reps] at h; subst h; simp [Reps]
  | d :: ds, _, n + 1, h => by
    simp only [Reps] at h
    obtain ⟨w, r, rfl, h1, h3⟩ := h
    simp only [List.take_succ_cons, Reps]
    exact ⟨w, _, rfl, h1, Reps.take n h3⟩
theorem Reps.drop : ∀ {ds : List D} {vs : List V} (n : Nat), Reps K W H ds vs → Reps K W H (ds.drop n) (vs.drop n)
  | _, _, 0, h => by simpa using h
  | [], _, n + 1, h => by simp only [Reps] at h; subst h; simp [Reps]
  | d :: ds, _, n + 1, h => by
    simp only [Reps] at h
    obtain ⟨w, r, rfl, h1, h3⟩ := h
    simpa using Reps.drop n h3
theorem Reps.reverse : ∀ {ds : List D} {vs : List V}, Reps K W H ds vs → Reps K W H ds.reverse vs.reverse
  | [], _, h => by simp only [Reps] at h; subst h; simp [Reps]
  | d :: ds, _, h => by
    simp only [Reps] at h
    obtain ⟨w, r, rfl, h1, h3⟩ := h
    simp only [List.reverse_cons]
    exact Reps.append (Reps.reverse h3) (by simp only [Reps]; exact ⟨w, [], rfl, h1, rfl⟩)

/-- a new object at a free place -/
def Wd.add (W : Wd) (p : Addr) : Wd := ⟨fun a => W.F a ∨ a = p, W.S⟩
theorem rd_upd {p a : Addr} {o u : HO} (n : H p = none) (h : Rd H a u) : Rd (upd H p o) a u := by
  rcases h with h | ⟨b, h⟩
  · exact .inl (by rw [upd_ne (ne_of_none h n)]; exact h)
  · exact .inr ⟨b, by rw [upd_ne (ne_of_none h n)]; exact h⟩
theorem Ext.new {p : Addr} {o : HO} (n : H p = none) : Ext W H W (upd H p o) where
  keep := fun a u h _ => by rw [upd_ne (ne_of_none h n)]; exact h
  tups := fun a xs h => rd_upd n h
  frs := fun a u _ h => by rw [upd_ne (ne_of_none h n)]; exact h
  dom := fun a h => by
    by_cases e : a = p
    · subst e; exact n
    · rwa [upd_ne e] at h
  fsub := fun _ h => h
  fnew := fun _ h => .inl h
  ssub := fun _ h => h
  snew := fun _ h => .inl h
theorem Ext.newF {p : Addr} {o : HO} (n : H p = none) : Ext W H (W.add p) (upd H p o) where
  keep := fun a u h _ => by rw [upd_ne (ne_of_none h n)]; exact h
  tups := fun a xs h => rd_upd n h
  frs := fun a u _ h => by rw [upd_ne (ne_of_none h n)]; exact h
  dom := fun a h => by
    by_cases e : a = p
    · subst e; exact n
    · rwa [upd_ne e] at h
  fsub := fun _ h => .inl h
  fnew := fun a h => by
    rcases h with h | rfl
    · exact .inl h
    · exact .inr n
  ssub := fun _ h => h
  snew := fun _ h => .inl h
theorem dom_upd {p a : Addr} {o : HO} (h : ∃ u, H a = some u) : ∃ u, upd H p o a = some u := by
  by_cases e : a = p
  · subst e; exact ⟨o, upd_same⟩
  · rw [upd_ne e]; exact h
theorem WS.new {p : Addr} {o : HO} (n : H p = none) (h : WS W s H) : WS W s (upd H p o) := by
  refine ⟨fun a f => dom_upd (h.1 a f), ?_⟩
  rcases h.2 with h | ⟨sa, ca, i, cells, h0, h00, h1, h2, h3, h4, h5⟩
  · exact .inl h
  · exact .inr ⟨sa, ca, i, cells, h0, h00, by rw [upd_ne (ne_of_none h1 n)]; exact h1, by rw [upd_ne (ne_of_none h2 n)]; exact h2, h3, h4, h5⟩
theorem WS.newF {p : Addr} {o : HO} (n : H p = none) (h : WS W s H) : WS (W.add p) s (upd H p o) := by
  refine ⟨fun a f => f.elim (fun f => dom_upd (h.1 a f)) fun e => ⟨o, by rw [e]; exact upd_same⟩, ?_⟩
  rcases h.2 with h | ⟨sa, ca, i, cells, h0, h00, h1, h2, h3, h4, h5⟩
  · exact .inl h
  · exact .inr ⟨sa, ca, i, cells, h0, h00, by rw [upd_ne (ne_of_none h1 n)]; exact h1, by rw [upd_ne (ne_of_none h2 n)]; exact h2, h3,
      fun z => z.elim h4 fun e => ne_of_none h1 n e, fun z => z.elim h5 fun e => ne_of_none h2 n e⟩
variable {G : Gx}
theorem Aft.tup {ds : List D} {vs : List V} {Q : VK} {p : Addr} (h : Aft G W H (.ok (.tup ds) s) Q) (hs : WS W s H) (r : Reps G.K W H ds vs) (n : H p = none) : Q (.ref p) (upd H p (.tup vs)) := by
  refine h W _ _ (Ext.new n) (WS.new n hs) ?_
  simp only [Rep]
  exact ⟨p, vs, rfl, .inl (.inl upd_same), Reps.ext (Ext.new n) ds vs r⟩
theorem Aft.lst {ds : List D} {vs : List V} {Q : VK} {p : Addr} (h : Aft G W H (.ok (.lst ds) s) Q) (hs : WS W s H) (r : Reps G.K W H ds vs) (n : H p = none) : Q (.ref p) (upd H p (.lst vs)) := by
  refine h (W.add p) _ _ (Ext.newF n) (WS.newF n hs) ?_
  simp only [Rep]
  exact ⟨p, vs, rfl, upd_same, .inr rfl, Reps.ext (Ext.newF n) ds vs r⟩
end

/-! ### names and constants -/
section
variable {X : Cx} {G : Gx}
@[simp] def mVar (i : Nat) : VE → M D := fun env s => match env[i]? with
  | some (some d) => .ok d s
  | _ => .no
theorem ee_var (i : Nat) {x : Str} {pos : Pos} (hN : X.N[i]? = some x := by rfl) (hv : Vis X.env.scope x := by first | exact Or.inl rfl | exact Or.inr (Or.inl rfl) | exact Or.inr (Or.inr rfl)) (hd : (x == ("__debug__" : Str)) = false := by decide)
    (hcd : (x == ("__classdict__" : Str)) = false := by decide) : EE X G (.Name x pos) (mVar i) := by
  refine pe_imp (pe_var hN hv hd hcd) fun σ H Q h => ?_
  obtain ⟨W, env, s, he, hs, h⟩ := h
  unfold mVar at h
  split at h
  · rename_i d q
    obtain ⟨v, h1, h2⟩ := he.2 i d q
    exact ⟨v, h1, h.now hs h2⟩
  · exact h.elim
@[simp] def mC (d : D) : VE → M D := fun _ s => .ok d s
theorem ee_int {i : Int} {j pos} : EE X G (.Constant (.int i) j pos) (mC (.int i)) := pe_imp pe_int fun σ H Q ⟨W, env, s, he, hs, h⟩ => h.now hs (by simp [Rep])
theorem ee_bl {b : Bool} {j pos} : EE X G (.Constant (.bool b) j pos) (mC (.bl b)) := pe_imp pe_bl fun σ H Q ⟨W, env, s, he, hs, h⟩ => h.now hs (by simp [Rep])
theorem ee_non {j pos} : EE X G (.Constant .none j pos) (mC .non) := pe_imp pe_non fun σ H Q ⟨W, env, s, he, hs, h⟩ => h.now hs (by simp [Rep])
theorem ee_str {x : Str} {j pos} : EE X G (.Constant (.str x) j pos) (mC (.str x)) := pe_imp pe_str fun σ H Q ⟨W, env, s, he, hs, h⟩ => h.now hs (by simp [Rep])
/-- a module's constant int -/
theorem ee_gint {x : Str} {i : Int} {t : Tok} {pos : Pos} (hg : Gl X x) (hm : X.mg x = some (.int i t)) (hd : (x == ("__debug__" : Str)) = false := by decide) : EE X G (.Name x pos) (mC (.int i)) :=
  pe_imp (pe_glob (v := .int i) hg hm ⟨t, rfl⟩ hd) fun σ H Q ⟨W, env, s, he, hs, h⟩ => h.now hs (by simp [Rep])

/-! ### two parts by an operator -/
/-- a rule by values is met by a mirror -/
def RB (G : Gx) (r : R2) (g : D → D → M D) : Prop := ∀ (W : Wd) (H : Hp) (s : DS) (x y : D) (v u : V) (Q : VK), WS W s H → Rep G.K W H x v → Rep G.K W H y u → Aft G W H (g x y s) Q → r v u H Q
@[simp] def mBin (g : D → D → M D) (a b : VE → M D) : VE → M D := fun env s => (a env s).bind fun x s => (b env s).bind (g x)
variable {a b c : Expr} {ma mb mc : VE → M D} {pos : Pos}
theorem tOp_of {r : R2} {g : D → D → M D} (hb : RB G r g) {σ : St} {H : Hp} {Q : VK} (h : tM G (mBin g ma mb) σ H Q) : tOp r (tM G ma) (tM G mb) σ H Q := by
  obtain ⟨W, env, s, he, hs, h⟩ := h
  refine tM_bind he hs h fun W1 H1 v x s1 e1 he1 hs1 rx _ h1 => ?_
  refine tM_bind he1 hs1 h1 fun W2 H2 u y s2 e2 he2 hs2 ry _ h2 => ?_
  exact hb W2 H2 s2 x y v u Q hs2 (Rep.ext e2 _ _ rx) ry h2
theorem ee_bin {op : Operator} {r : R2} {g : D → D → M D} (ho : OpR X (binaryOp op) r) (hr : RB G r g) (ha : EE X G a ma) (hb : EE X G b mb) : EE X G (.BinOp a op b pos) (mBin g ma mb) :=
  pe_imp (pe_op ho ha hb) fun _ _ _ h => tOp_of hr h
theorem ee_cmp {op : CmpOp} {r : R2} {g : D → D → M D} (ho : OpR X (compareOp op) r) (hr : RB G r g) (ha : EE X G a ma) (hb : EE X G b mb) (hm : behindInMarks op b = false := by first | exact nomark _ | rfl) : EE X G (.Compare a [op] [b] pos) (mBin g ma mb) :=
  pe_imp (pe_cmpR ho ha hb hm) fun _ _ _ h => tOp_of hr h
/-- a bool as a test -/
@[simp] def asB (r : Res D) : Res Bool := r.bind fun d s => match d with
  | .bl b => .ok b s
  | _ => .no
theorem Rep.bl_of {K : PySem.W.Frag} {W : Wd} {H : Hp} {b : Bool} {v : V} (h : Rep K W H (.bl b) v) : v = .bl b := by simpa [Rep] using h
theorem tTest_of {m : VE → M D} {t : TE} (i : ∀ σ H Q, tM G m σ H Q → t σ H Q) {σ : St} {H : Hp} {Q : Bool → Hp → Prop} (h : tMT G (fun env s => asB (m env s)) σ H Q) : tTest t σ H Q := by
  obtain ⟨W, env, s, he, hs, h⟩ := h
  refine i _ _ _ ?_
  refine tM_bindT he hs h fun W1 H1 v x s1 e1 he1 hs1 rx _ h1 => ?_
  cases x with
  | bl b => exact ⟨b, rx.bl_of, h1 W1 H1 (Ext.refl _ _) hs1⟩
  | _ => exact h1.elim
@[simp] def mCmpT (g : D → D → M D) (a b : VE → M D) : VE → M Bool := fun env s => asB (mBin g a b env s)
theorem et_cmp {op : CmpOp} {r : R2} {g : D → D → M D} (ho : OpR X (compareOp op) r) (hr : RB G r g) (ha : EE X G a ma) (hb : EE X G b mb) (hm : behindInMarks op b = false := by first | exact nomark _ | rfl) :
    ET X G (.Compare a [op] [b] pos) (mCmpT g ma mb) :=
  pt_imp (pt_cmpR ho ha hb hm) fun _ _ _ h => tTest_of (fun _ _ _ h => tOp_of hr h) h

/-! ### the operators -/
theorem rep_int {K : PySem.W.Frag} {W : Wd} {H : Hp} {i : Int} {v : V} (h : Rep K W H (.int i) v) : v = .int i := by simpa [Rep] using h
theorem rep_str {K : PySem.W.Frag} {W : Wd} {H : Hp} {i : Str} {v : V} (h : Rep K W H (.str i) v) : v = .str i := by simpa [Rep] using h
theorem rep_tup {K : PySem.W.Frag} {W : Wd} {H : Hp} {ds : List D} {v : V} (h : Rep K W H (.tup ds) v) : ∃ a vs, v = .ref a ∧ SqT K H a vs ∧ Reps K W H ds vs := by simpa only [Rep] using h
theorem rep_lst {K : PySem.W.Frag} {W : Wd} {H : Hp} {ds : List D} {v : V} (h : Rep K W H (.lst ds) v) : ∃ a vs, v = .ref a ∧ H a = some (.lst vs) ∧ W.F a ∧ Reps K W H ds vs := by simpa only [Rep] using h
@[simp] theorem rep_int_iff {K : PySem.W.Frag} {W : Wd} {H : Hp} {i : Int} {v : V} : Rep K W H (.int i) v ↔ v = .int i := by simp [Rep]
@[simp] theorem rep_bl_iff {K : PySem.W.Frag} {W : Wd} {H : Hp} {i : Bool} {v : V} : Rep K W H (.bl i) v ↔ v = .bl i := by simp [Rep]
@[simp] theorem rep_str_iff {K : PySem.W.Frag} {W : Wd} {H : Hp} {i : Str} {v : V} : Rep K W H (.str i) v ↔ v = .str i := by simp [Rep]
@[simp] theorem rep_non_iff {K : PySem.W.Frag} {W : Wd} {H : Hp} {v : V} : Rep K W H .non v ↔ v = .non := by simp [Rep]

@[simp] def opAdd (x y : D) : M D := fun s => match x, y with
  | .int i, .int j => .ok (.int (i + j)) s
  | .str i, .str j => if LenOk (i.length + j.length) then .ok (.str (i ++ j)) s else .no
  | .tup a, .tup b => if LenOk (a.length + b.length) then .ok (.tup (a ++ b)) s else .no
  | .lst a, .lst b => if LenOk (a.length + b.length) then .ok (.lst (a ++ b)) s else .no
  | _, _ => .no
/-- () + t is t -/
def rCatT0 (K : PySem.W.Frag) : R2 := fun x y H Q => ∃ a b ys, x = .ref a ∧ y = .ref b ∧ SqT K H a [] ∧ SqT K H b ys ∧ Q (.ref b) H
theorem op_catT0 : OpR X (binaryOp .Add) (rCatT0 X.K) := by
  intro pins s σ H x y v u Q I rx ry h
  obtain ⟨a, b, ys, rfl, rfl, ha, hb, q⟩ := h
  cases rx
  cases ry
  obtain ⟨its, r1, p1, _⟩ := I.tuple ha
  obtain ⟨its2, r2, p2, _⟩ := I.tuple hb
  cases r1
  obtain ⟨⟨cls, dd, data, sl⟩, ho, hc, n, hd⟩ := id p1
  obtain ⟨⟨cls2, dd2, data2, sl2⟩, ho2, hc2, n2, hd2⟩ := id p2
  simp only at hc hd hc2 hd2
  subst hc hd hc2 hd2
  exact concat_meets ⟨_, ho, rfl⟩ ⟨_, ho2, rfl⟩ noFill_tuple_add seq_tuple_add PySem.F.slot_tuple_add PySem.F.entry_tuple_add (PySem.F.args_tuple_add_2 _ _)
    (tuple_addW0 a b _ its2.toArray n n2 dd dd2 sl sl2 (by simp)) ⟨ho, ho2, ⟨.ref b, H, I, rfl, q⟩⟩
abbrev rAddAll (K : PySem.W.Frag) : R2 := fun x y H Q => (rI0 fun i j => V.int (i + j)) x y H Q ∨ (fun x y H Q => (fun x y H Q => ∃ i j, x = .str i ∧ y = .str j ∧ i.length + j.length ≤ sizeLine ∧ Q (.str (i ++ j)) H) x y H Q ∨ (fun x y H Q => rCatT K x y H Q ∨ (fun x y H Q => rCatT0 K x y H Q ∨ rCat x y H Q) x y H Q) x y H Q) x y H Q
theorem or_add : OpR X (binaryOp .Add) (rAddAll X.K) := op_add.or (op_add_str.or (op_catT.or (op_catT0.or op_cat)))
theorem rb_add : RB G (rAddAll G.K) opAdd := by
  intro W H s x y v u Q hs rx ry h
  unfold opAdd at h
  split at h
  · exact .inl ⟨_, _, rep_int rx, rep_int ry, h.now hs (by simp)⟩
  · split at h
    · rename_i hz; exact .inr (.inl ⟨_, _, rep_str rx, rep_str ry, hz, h.now hs (by simp)⟩)
    · exact h.elim
  · split at h
    · rename_i as bs hz
      have hz := hz.le
      obtain ⟨a, vs, rfl, h1, r1⟩ := rep_tup rx
      obtain ⟨b, us, rfl, h2, r2⟩ := rep_tup ry
      have l1 := r1.length
      have l2 := r2.length
      cases as with
      | nil =>
        have e : vs = [] := List.eq_nil_of_length_eq_zero (by rw [l1]; rfl)
        subst e
        exact .inr (.inr (.inr (.inl ⟨a, b, us, rfl, rfl, h1, h2, h.now hs ry⟩)))
      | cons d0 dr =>
        refine .inr (.inr (.inl ⟨a, b, vs, us, rfl, rfl, h1, h2, fun e => by rw [e] at l1; simp at l1, by omega, fun e => ?_, fun ne p hp => ?_⟩))
        · have e2 : bs = [] := List.eq_nil_of_length_eq_zero (by rw [← l2, e]; rfl)
          subst e2
          rw [List.append_nil] at h
          exact h.now hs rx
        · exact h.tup hs (r1.append r2) hp
    · exact h.elim
  · split at h
    · rename_i hz
      have hz := hz.le
      obtain ⟨a, vs, rfl, h1, f1, r1⟩ := rep_lst rx
      obtain ⟨b, us, rfl, h2, f2, r2⟩ := rep_lst ry
      have l1 := r1.length
      have l2 := r2.length
      exact .inr (.inr (.inr (.inr ⟨a, b, vs, us, rfl, rfl, h1, h2, by omega, fun p hp => h.lst hs (r1.append r2) hp⟩)))
    · exact h.elim
  · exact h.elim
@[simp] def opSub (x y : D) : M D := fun s => match x, y with
  | .int i, .int j => .ok (.int (i - j)) s
  | _, _ => .no
theorem rb_sub : RB G (rI0 fun i j => V.int (i - j)) opSub := by
  intro W H s x y v u Q hs rx ry h
  unfold opSub at h
  split at h
  · exact ⟨_, _, rep_int rx, rep_int ry, h.now hs (by simp)⟩
  · exact h.elim
/-- two factors of which one is small, or both together not too great -/
def mulOk (i j : Int) : Bool := @decide (i.natAbs < 2 ^ 64 ∨ j.natAbs < 2 ^ 64 ∨ i.natAbs.log2 + j.natAbs.log2 < 1000000) (Classical.propDecidable _)
def CMulM (i j : Int) : Prop := mulOk i j = true
theorem op_mulM {X : Cx} : OpR X (binaryOp .Mult) (rI CMulM fun i j => V.int (i * j)) := opI fun i j _ _ _ _ _ hc q => by
  unfold CMulM mulOk at hc
  have hc := @of_decide_eq_true _ (Classical.propDecidable _) hc
  refine mul_int q ?_
  rcases hc with h | h | h
  · exact CMul.ok (.inl ⟨by omega, by omega⟩)
  · exact CMul.ok (.inr ⟨by omega, by omega⟩)
  · exact CMulW.ok h
/-- list times int -/
@[simp] def opMul (x y : D) : M D := fun s => match x, y with
  | .int i, .int j => if mulOk i j = true then .ok (.int (i * j)) s else .no
  | .lst a, .int k => if RngOk k ∧ LenOk (a.length * k.toNat) then .ok (.lst (List.replicate k.toNat a).flatten) s else .no
  | _, _ => .no
theorem or_mul : OpR X (binaryOp .Mult) (fun x y H Q => (rI CMulM fun i j => V.int (i * j)) x y H Q ∨ rRep x y H Q) := op_mulM.or op_rep
theorem Reps.rep {K : PySem.W.Frag} {W : Wd} {H : Hp} {ds : List D} {vs : List V} (h : Reps K W H ds vs) : ∀ k : Nat, Reps K W H (List.replicate k ds).flatten (List.replicate k vs).flatten
  | 0 => by simp [Reps]
  | k + 1 => by
    rw [List.replicate_succ, List.replicate_succ, List.flatten_cons, List.flatten_cons]
    exact h.append (Reps.rep h k)
theorem rb_mul : RB G (fun x y H Q => (rI CMulM fun i j => V.int (i * j)) x y H Q ∨ rRep x y H Q) opMul := by
  intro W H s x y v u Q hs rx ry h
  unfold opMul at h
  split at h
  · split at h
    · rename_i hz; exact .inl ⟨_, _, rep_int rx, rep_int ry, hz, h.now hs (by simp)⟩
    · exact h.elim
  · split at h
    · rename_i hz
      obtain ⟨a, vs, rfl, h1, f1, r1⟩ := rep_lst rx
      have l1 := r1.length
      exact .inr ⟨a, _, vs, rfl, rep_int ry, h1, by have := hz.1.1; omega, by have := hz.1.2; omega, by rw [l1]; exact hz.2, fun p hp => h.lst hs (r1.rep _) hp⟩
    · exact h.elim
  · exact h.elim
@[simp] def opDiv (x y : D) : M D := fun s => match x, y with
  | .int i, .int j => if DivOk j then .ok (.int (i / j)) s else if DivOk (-j) then .ok (.int (-i / -j)) s else .no
  | _, _ => .no
def CDivA (_ j : Int) : Prop := j ≠ 0 ∧ j.natAbs.log2 < 9000
theorem op_divA {X : Cx} : OpR X (binaryOp .FloorDiv) (rI CDivA fun i j => V.int (i.fdiv j)) := opI fun i j _ _ _ _ _ hc q => floordiv_int hc.1 q (.inl (PyProof.noPylong_of_log2 hc.2))
theorem rb_div : RB G (rI CDivA fun i j => V.int (i.fdiv j)) opDiv := by
  intro W H s x y v u Q hs rx ry h
  unfold opDiv at h
  split at h
  · rename_i i j
    split at h
    · rename_i hz
      have h1 : (0 : Int) < j := hz.1
      refine ⟨i, j, rep_int rx, rep_int ry, ⟨by omega, hz.2⟩, ?_⟩
      show Q (V.int (i.fdiv j)) H
      rw [Int.fdiv_eq_ediv_of_nonneg i (by omega)]
      exact h.now hs (by simp)
    · split at h
      · rename_i hz
        have h1 : (0 : Int) < -j := hz.1
        have h2 : (-j).natAbs.log2 < 9000 := hz.2
        rw [Int.natAbs_neg] at h2
        refine ⟨i, j, rep_int rx, rep_int ry, ⟨by omega, h2⟩, ?_⟩
        show Q (V.int (i.fdiv j)) H
        rw [← Int.neg_fdiv_neg, Int.fdiv_eq_ediv_of_nonneg (-i) (by omega)]
        exact h.now hs (by simp)
      · exact h.elim
  · exact h.elim
@[simp] def opMod (x y : D) : M D := fun s => match x, y with
  | .int i, .int j => if 0 < j then .ok (.int (i % j)) s else .no
  | _, _ => .no
theorem rb_mod : RB G (rI (fun _ j => 0 < j) fun i j => V.int (i % j)) opMod := by
  intro W H s x y v u Q hs rx ry h
  unfold opMod at h
  split at h
  · split at h
    · rename_i hz; exact ⟨_, _, rep_int rx, rep_int ry, hz, h.now hs (by simp)⟩
    · exact h.elim
  · exact h.elim
@[simp] def opPow (x y : D) : M D := fun s => match x, y with
  | .int i, .int j => if 0 ≤ j ∧ j ≤ 1000000 ∧ i.natAbs < 2 ^ 64 then .ok (.int (i ^ j.toNat)) s else .no
  | _, _ => .no
theorem rb_pow : RB G (rI CPow fun i j => V.int (i ^ j.toNat)) opPow := by
  intro W H s x y v u Q hs rx ry h
  unfold opPow at h
  split at h
  · split at h
    · rename_i hz; exact ⟨_, _, rep_int rx, rep_int ry, hz, h.now hs (by simp)⟩
    · exact h.elim
  · exact h.elim
/-- order of ints (and texts, for <) -/
@[simp] def opCmp (p : Int → Int → Bool) (x y : D) : M D := fun s => match x, y with
  | .int i, .int j => .ok (.bl (p i j)) s
  | _, _ => .no
theorem rb_cmp {p : Int → Int → Bool} : RB G (rI0 fun i j => V.bl (p i j)) (opCmp p) := by
  intro W H s x y v u Q hs rx ry h
  unfold opCmp at h
  split at h
  · exact ⟨_, _, rep_int rx, rep_int ry, h.now hs (by simp)⟩
  · exact h.elim
@[simp] abbrev pLt (i j : Int) : Bool := decide (i < j)
@[simp] abbrev pLe (i j : Int) : Bool := decide (i ≤ j)
@[simp] abbrev pGt (i j : Int) : Bool := decide (j < i)
@[simp] abbrev pGe (i j : Int) : Bool := decide (j ≤ i)
/-- is None -/
def opIsN (x y : D) : M D := fun s => match y, x with
  | .non, .non => .ok (.bl true) s
  | .non, .bl _ => .ok (.bl false) s
  | .non, .int _ => .ok (.bl false) s
  | .non, .str _ => .ok (.bl false) s
  | .non, .tup _ => .ok (.bl false) s
  | .non, .lst _ => .ok (.bl false) s
  | .non, .dic _ _ => .ok (.bl false) s
  | .non, .dicT _ _ => .ok (.bl false) s
  | _, _ => .no
def isNonD : D → Option Bool
  | .non => some true
  | .st => none
  | .fn _ => none
  | _ => some false
@[simp] theorem isNonD_1 : isNonD .non = some true := rfl
@[simp] theorem isNonD_2 (b : Bool) : isNonD (.bl b) = some false := rfl
@[simp] theorem isNonD_3 (b : Int) : isNonD (.int b) = some false := rfl
@[simp] theorem isNonD_4 (b : Str) : isNonD (.str b) = some false := rfl
@[simp] theorem isNonD_5 (b : List D) : isNonD (.tup b) = some false := rfl
@[simp] theorem isNonD_6 (b : List D) : isNonD (.lst b) = some false := rfl
@[simp] theorem isNonD_7 (k : List Key) (b : List D) : isNonD (.dic k b) = some false := rfl
@[simp] theorem isNonD_8 (k : List (List Key)) (b : List D) : isNonD (.dicT k b) = some false := rfl
theorem isNonD_rep {K : PySem.W.Frag} {W : Wd} {H : Hp} {d : D} {v : V} {b : Bool} (h : isNonD d = some b) (r : Rep K W H d v) : decide (v = .non) = b := by
  cases d <;> simp only [isNonD, Option.some.injEq, reduceCtorEq] at h <;> subst h <;> simp only [Rep] at r
  · subst r; rfl
  · subst r; simp
  · subst r; simp
  · subst r; simp
  · obtain ⟨a, vs, rfl, _⟩ := r; simp
  · obtain ⟨a, vs, rfl, _⟩ := r; simp
  · obtain ⟨a, vs, rfl, _⟩ := r; simp
  · obtain ⟨a, vs, rfl, _⟩ := r; simp
@[simp] def opIs (neg : Bool) (x y : D) : M D := fun s => match y with
  | .non => (match isNonD x with
    | some b => .ok (.bl (if neg then !b else b)) s
    | none => .no)
  | .bl c => (match x with
    | .bl b => .ok (.bl (if neg then !decide (b = c) else decide (b = c))) s
    | _ => .no)
  | _ => .no
theorem or_is : OpR X (compareOp .Is) (fun x y H Q => (y = .non ∧ Q (.bl (decide (x = .non))) H) ∨ rIsB x y H Q) := op_isN.or op_isBl
theorem or_isnot : OpR X (compareOp .IsNot) (fun x y H Q => (y = .non ∧ Q (.bl (!decide (x = .non))) H) ∨ rNotB x y H Q) := op_notN.or op_notBl
theorem rb_is : RB G (fun x y H Q => (y = .non ∧ Q (.bl (decide (x = .non))) H) ∨ rIsB x y H Q) (opIs false) := by
  intro W H s x y v u Q hs rx ry h
  unfold opIs at h
  split at h
  · split at h
    · rename_i b hb
      refine .inl ⟨by simpa using ry, ?_⟩
      rw [isNonD_rep hb rx]
      exact h.now hs (by simp)
    · exact h.elim
  · split at h
    · exact .inr ⟨_, _, by simpa using rx, by simpa using ry, h.now hs (by simp)⟩
    · exact h.elim
  · exact h.elim
theorem rb_isnot : RB G (fun x y H Q => (y = .non ∧ Q (.bl (!decide (x = .non))) H) ∨ rNotB x y H Q) (opIs true) := by
  intro W H s x y v u Q hs rx ry h
  unfold opIs at h
  split at h
  · split at h
    · rename_i b hb
      refine .inl ⟨by simpa using ry, ?_⟩
      rw [isNonD_rep hb rx]
      exact h.now hs (by simp)
    · exact h.elim
  · split at h
    · exact .inr ⟨_, _, by simpa using rx, by simpa using ry, h.now hs (by simp)⟩
    · exact h.elim
  · exact h.elim

/-! ### == of data -/
mutual
def toPy : D → PyData
  | .non => .none
  | .bl b => .bool b
  | .int i => .int i
  | .str x => .str x
  | .tup ds => .tuple (toPys ds)
  | .lst ds => .list (toPys ds)
  | .st => .none
  | .fn _ => .none
  | .dic _ _ => .none
  | .dicT _ _ => .none
def toPys : List D → List PyData
  | [] => []
  | d :: ds => toPy d :: toPys ds
end
mutual
/-- data that may be compared: no state, no dict; texts of signs; at most so deep -/
@[simp] def okD : Nat → D → Bool
  | _, .non => true
  | _, .bl _ => true
  | _, .int _ => true
  | _, .str x => PyData.strOk x
  | 0, .tup _ => false
  | 0, .lst _ => false
  | n + 1, .tup ds => okDs n ds
  | n + 1, .lst ds => okDs n ds
  | _, .st => false
  | _, .fn _ => false
  | _, .dic _ _ => false
  | _, .dicT _ _ => false
@[simp] def okDs : Nat → List D → Bool
  | _, [] => true
  | n, d :: ds => okD n d && okDs n ds
end
end
end
end L2.Mir

set_option Elab.async false
set_option linter.all false
set_option maxRecDepth 100000
namespace L2.Mir
open PySem PySem.Spec PyProof.Rows
noncomputable section

/-! ### == -/
mutual
theorem Rep.dp {K : PySem.W.Frag} {W : Wd} {H : Hp} : ∀ (n : Nat) (d : D) (v : V), okD n d = true → Rep K W H d v → Dp K H v (toPy d) ∧ (toPy d).canLay0 = true ∧ (toPy d).depth ≤ n
  | n, .non, v, _, r => by simp only [rep_non_iff] at r; subst r; exact ⟨.non, by simp [toPy, PyData.canLay0], by simp [toPy, PyData.depth]⟩
  | n, .bl b, v, _, r => by simp only [rep_bl_iff] at r; subst r; exact ⟨.bl b, by simp [toPy, PyData.canLay0], by simp [toPy, PyData.depth]⟩
  | n, .int b, v, _, r => by simp only [rep_int_iff] at r; subst r; exact ⟨.int b, by simp [toPy, PyData.canLay0], by simp [toPy, PyData.depth]⟩
  | n, .str x, v, h, r => by
    simp only [rep_str_iff] at r; subst r
    exact ⟨.str x, by simpa [toPy, PyData.canLay0, okD] using h, by simp [toPy, PyData.depth]⟩
  | n + 1, .tup ds, v, h, r => by
    obtain ⟨a, vs, rfl, hs, hr⟩ := rep_tup r
    obtain ⟨h1, h2, h3⟩ := Reps.dp n ds vs (by simpa [okD] using h) hr
    exact ⟨.tup hs h1, by simpa [toPy, PyData.canLay0] using h2, by simpa [toPy, PyData.depth] using h3⟩
  | n + 1, .lst ds, v, h, r => by
    obtain ⟨a, vs, rfl, hs, _, hr⟩ := rep_lst r
    obtain ⟨h1, h2, h3⟩ := Reps.dp n ds vs (by simpa [okD] using h) hr
    exact ⟨.lst (.inl (.inl hs)) h1, by simpa [toPy, PyData.canLay0] using h2, by simpa [toPy, PyData.depth] using h3⟩
  | 0, .tup _, _, h, _ => by simp [okD] at h
  | 0, .lst _, _, h, _ => by simp [okD] at h
  | _, .st, _, h, _ => by simp [okD] at h
  | _, .fn _, _, h, _ => by simp [okD] at h
  | _, .dic _ _, _, h, _ => by simp [okD] at h
  | _, .dicT _ _, _, h, _ => by simp [okD] at h
theorem Reps.dp {K : PySem.W.Frag} {W : Wd} {H : Hp} : ∀ (n : Nat) (ds : List D) (vs : List V), okDs n ds = true → Reps K W H ds vs → DpAll K H vs (toPys ds) ∧ PyData.canLayAll0 (toPys ds) = true ∧ PyData.depthAll (toPys ds) ≤ n
  | n, [], vs, _, r => by simp only [Reps] at r; subst r; exact ⟨.nil, by simp [toPys, PyData.canLayAll0], by simp [toPys, PyData.depthAll]⟩
  | n, d :: ds, vs, h, r => by
    simp only [Reps] at r
    obtain ⟨v, w, rfl, h1, h2⟩ := r
    simp only [okDs, Bool.and_eq_true] at h
    obtain ⟨a1, a2, a3⟩ := Rep.dp n d v h.1 h1
    obtain ⟨b1, b2, b3⟩ := Reps.dp n ds w h.2 h2
    exact ⟨.cons a1 b1, by simp [toPys, PyData.canLayAll0, a2, b2], by simp only [toPys, PyData.depthAll]; omega⟩
end
theorem shaped_of {d : D} (h : (toPy d).canLay0 = true) (h2 : (toPy d).depth ≤ 60) : SeqAt.shaped (toPy d) = true := by
  unfold SeqAt.shaped
  rw [h, Bool.true_and]
  exact decide_eq_true (by omega)
/-- == of data, as Python has it -/
def deq (x y : D) : Bool := PyData.eqv (toPy x) (toPy y)
@[simp] def opEq (x y : D) : M D := fun s => if okD 60 x && okD 60 y then .ok (.bl (deq x y)) s else .no
@[simp] def opNe (x y : D) : M D := fun s => if okD 60 x && okD 60 y then .ok (.bl (!deq x y)) s else .no
section
variable {X : Cx} {G : Gx}
theorem rb_eq : RB G (rEqD G.K) opEq := by
  intro W H s x y v u Q hs rx ry h
  unfold opEq at h
  split at h
  · rename_i hz
    rw [Bool.and_eq_true] at hz
    obtain ⟨a1, a2, a3⟩ := Rep.dp 60 x v hz.1 rx
    obtain ⟨b1, b2, b3⟩ := Rep.dp 60 y u hz.2 ry
    exact ⟨_, _, a1, b1, shaped_of a2 a3, shaped_of b2 b3, h.now hs (by simp [deq])⟩
  · exact h.elim
theorem rb_ne : RB G (rNeD G.K) opNe := by
  intro W H s x y v u Q hs rx ry h
  unfold opNe at h
  split at h
  · rename_i hz
    rw [Bool.and_eq_true] at hz
    obtain ⟨a1, a2, a3⟩ := Rep.dp 60 x v hz.1 rx
    obtain ⟨b1, b2, b3⟩ := Rep.dp 60 y u hz.2 ry
    exact ⟨_, _, a1, b1, shaped_of a2 a3, shaped_of b2 b3, h.now hs (by simp [deq])⟩
  · exact h.elim

/-! ### tests -/
variable {a b c e : Expr} {ma mb mc : VE → M D} {ta tb : VE → M Bool} {pos : Pos} {rest : List Expr}
def truD (d : D) : M Bool := fun s => match d with
  | .non => .ok false s
  | .bl b => .ok b s
  | .int i => .ok (i != 0) s
  | .str x => if LenOk x.length then .ok ((x.length : Int) != 0) s else .no
  | .tup ds => .ok (!ds.isEmpty) s
  | .lst ds => .ok (!ds.isEmpty) s
  | _ => .no
@[simp] theorem truD_1 (s : DS) : truD .non s = .ok false s := rfl
@[simp] theorem truD_2 (b : Bool) (s : DS) : truD (.bl b) s = .ok b s := rfl
@[simp] theorem truD_3 (b : Int) (s : DS) : truD (.int b) s = .ok (b != 0) s := rfl
@[simp] theorem truD_4 (x : Str) (s : DS) : truD (.str x) s = if LenOk x.length then .ok ((x.length : Int) != 0) s else .no := rfl
@[simp] theorem truD_5 (ds : List D) (s : DS) : truD (.tup ds) s = .ok (!ds.isEmpty) s := rfl
@[simp] theorem truD_6 (ds : List D) (s : DS) : truD (.lst ds) s = .ok (!ds.isEmpty) s := rfl
theorem empty_len {α β : Type} {xs : List α} {ys : List β} (h : xs.length = ys.length) : xs.isEmpty = ys.isEmpty := by
  cases xs <;> cases ys <;> simp at h ⊢
theorem truD_ok {W : Wd} {H : Hp} {s s' : DS} {d : D} {v : V} {k : Bool} (r : Rep G.K W H d v) (h : truD d s = .ok k s') : TruV G.K v H k ∧ s' = s := by
  unfold truD at h
  split at h
  · simp only [Res.ok.injEq] at h; obtain ⟨rfl, rfl⟩ := h; simp only [rep_non_iff] at r; subst r; exact ⟨rfl, rfl⟩
  · simp only [Res.ok.injEq] at h; obtain ⟨rfl, rfl⟩ := h; simp only [rep_bl_iff] at r; subst r; exact ⟨rfl, rfl⟩
  · simp only [Res.ok.injEq] at h; obtain ⟨rfl, rfl⟩ := h; simp only [rep_int_iff] at r; subst r; exact ⟨rfl, rfl⟩
  · split at h
    · rename_i hz
      simp only [Res.ok.injEq] at h; obtain ⟨rfl, rfl⟩ := h; simp only [rep_str_iff] at r; subst r; exact ⟨⟨hz, rfl⟩, rfl⟩
    · cases h
  · simp only [Res.ok.injEq] at h; obtain ⟨rfl, rfl⟩ := h
    obtain ⟨a, vs, rfl, h1, r1⟩ := rep_tup r
    have l := r1.length
    exact ⟨.inr (.inl ⟨vs, h1, by rw [empty_len l]⟩), rfl⟩
  · simp only [Res.ok.injEq] at h; obtain ⟨rfl, rfl⟩ := h
    obtain ⟨a, vs, rfl, h1, _, r1⟩ := rep_lst r
    have l := r1.length
    exact ⟨.inl ⟨vs, .inl (.inl h1), by rw [empty_len l]⟩, rfl⟩
  · cases h
@[simp] def mTru (m : VE → M D) : VE → M Bool := fun env s => (m env s).bind truD
theorem et_val (ha : EE X G a ma) (hK : X.K = G.K) (he : ∀ whole, isTrue a X.env whole = (do let v ← whole; standAt a.pos; holding [v] (truthy v)) := by intro _; rfl) : ET X G a (mTru ma) :=
  pt_imp (pt_truth ha he) fun σ H Q h => by
    obtain ⟨W, env, s, hen, hs, h⟩ := h
    refine tM_bindT hen hs h fun W1 H1 v x s1 e1 he1 hs1 rx _ h1 => ?_
    cases q : truD x s1 with
    | ok k s2 =>
      rw [q] at h1
      obtain ⟨t, rfl⟩ := truD_ok rx q
      exact ⟨k, hK ▸ t, h1 W1 H1 (Ext.refl _ _) hs1⟩
    | exc x' s2 =>
      exfalso
      unfold truD at q
      split at q <;> first | cases q | (split at q <;> cases q)
    | no => rw [q] at h1; exact h1.elim
/-- and, or, not -/
@[simp] def mAndT (a b : VE → M Bool) : VE → M Bool := fun env s => (a env s).bind fun c s => if c = true then b env s else .ok false s
@[simp] def mOrT (a b : VE → M Bool) : VE → M Bool := fun env s => (a env s).bind fun c s => if c = true then .ok true s else b env s
@[simp] def mNotT (a : VE → M Bool) : VE → M Bool := fun env s => (a env s).bind fun c s => .ok (!c) s
abbrev EW (X : Cx) (G : Gx) (e : Expr) (m : VE → M Bool) : Prop := PW X e (tMT G m)
theorem pw_imp {t t' : TT} (h : PW X e t) (i : ∀ σ H Q, t' σ H Q → t σ H Q) : PW X e t' := ⟨fun wh pins s σ H Q I q => h.run wh pins s σ H Q I (i σ H Q q)⟩
theorem ew_and1 (ha : ET X G a ta) : EW X G (.BoolOp .And [a] pos) ta := pw_and1 ha
theorem ew_or1 (ha : ET X G a ta) : EW X G (.BoolOp .Or [a] pos) ta := pw_or1 ha
theorem AftT.now {W : Wd} {H : Hp} {s : DS} {b : Bool} {Q : Bool → Hp → Prop} (h : AftT G W H (.ok b s) Q) (hs : WS W s H) : Q b H := h W H (Ext.refl W H) hs
theorem ew_and (ha : ET X G a ta) (hb : EW X G (.BoolOp .And (b :: rest) pos) tb) : EW X G (.BoolOp .And (a :: b :: rest) pos) (mAndT ta tb) :=
  pw_imp (pw_and ha hb) fun σ H Q h => by
    obtain ⟨W, env, s, hen, hs, h⟩ := h
    refine tMT_bindT hen hs h fun W1 H1 k s1 e1 he1 hs1 _ h1 => ?_
    cases k with
    | true => exact ⟨W1, env, s1, he1, hs1, h1⟩
    | false => exact h1.now hs1
theorem ew_or (ha : ET X G a ta) (hb : EW X G (.BoolOp .Or (b :: rest) pos) tb) : EW X G (.BoolOp .Or (a :: b :: rest) pos) (mOrT ta tb) :=
  pw_imp (pw_or ha hb) fun σ H Q h => by
    obtain ⟨W, env, s, hen, hs, h⟩ := h
    refine tMT_bindT hen hs h fun W1 H1 k s1 e1 he1 hs1 _ h1 => ?_
    cases k with
    | false => exact ⟨W1, env, s1, he1, hs1, h1⟩
    | true => exact h1.now hs1
theorem et_w (h : EW X G e ta) : ET X G e ta := h.pt
theorem et_not (ha : ET X G a ta) : ET X G (.UnaryOp .Not a pos) (mNotT ta) :=
  pt_imp (pt_not ha) fun σ H Q h => by
    obtain ⟨W, env, s, hen, hs, h⟩ := h
    refine tMT_bindT hen hs h fun W1 H1 k s1 e1 he1 hs1 _ h1 => ?_
    exact h1.now hs1
/-- .. as values -/
@[simp] def mAnd (a b : VE → M D) : VE → M D := fun env s => (a env s).bind fun d s => match d with
  | .bl true => b env s
  | .bl false => .ok (.bl false) s
  | _ => .no
@[simp] def mOr (a b : VE → M D) : VE → M D := fun env s => (a env s).bind fun d s => match d with
  | .bl false => b env s
  | .bl true => .ok (.bl true) s
  | _ => .no
@[simp] def mNot (a : VE → M D) : VE → M D := fun env s => (a env s).bind fun d s => match d with
  | .bl k => .ok (.bl (!k)) s
  | _ => .no
theorem ee_one {op} (ha : EE X G a ma) : EE X G (.BoolOp op [a] pos) ma := pe_one ha
theorem ee_and (ha : EE X G a ma) (hb : EE X G (.BoolOp .And (b :: rest) pos) mb) : EE X G (.BoolOp .And (a :: b :: rest) pos) (mAnd ma mb) :=
  pe_imp (pe_and ha hb) fun σ H Q h => by
    obtain ⟨W, env, s, hen, hs, h⟩ := h
    refine tM_bind hen hs h fun W1 H1 v x s1 e1 he1 hs1 rx _ h1 => ?_
    split at h1
    · exact ⟨true, rx.bl_of, iteT ⟨W1, env, s1, he1, hs1, h1⟩⟩
    · exact ⟨false, rx.bl_of, iteF (h1.now hs1 (by simp))⟩
    · exact h1.elim
theorem ee_or (ha : EE X G a ma) (hb : EE X G (.BoolOp .Or (b :: rest) pos) mb) : EE X G (.BoolOp .Or (a :: b :: rest) pos) (mOr ma mb) :=
  pe_imp (pe_or ha hb) fun σ H Q h => by
    obtain ⟨W, env, s, hen, hs, h⟩ := h
    refine tM_bind hen hs h fun W1 H1 v x s1 e1 he1 hs1 rx _ h1 => ?_
    split at h1
    · exact ⟨false, rx.bl_of, iteF ⟨W1, env, s1, he1, hs1, h1⟩⟩
    · exact ⟨true, rx.bl_of, iteT (h1.now hs1 (by simp))⟩
    · exact h1.elim
theorem ee_not (ha : EE X G a ma) : EE X G (.UnaryOp .Not a pos) (mNot ma) :=
  pe_imp (pe_not ha) fun σ H Q h => by
    obtain ⟨W, env, s, hen, hs, h⟩ := h
    refine tM_bind hen hs h fun W1 H1 v x s1 e1 he1 hs1 rx _ h1 => ?_
    split at h1
    · exact ⟨_, rx.bl_of, h1.now hs1 (by simp)⟩
    · exact h1.elim
@[simp] def mIf (t : VE → M Bool) (a b : VE → M D) : VE → M D := fun env s => (t env s).bind fun k s => if k = true then a env s else b env s
theorem ee_if (hc : ET X G c ta) (ha : EE X G a ma) (hb : EE X G b mb) : EE X G (.IfExp c a b pos) (mIf ta ma mb) :=
  pe_imp (pe_ifExp hc ha hb) fun σ H Q h => by
    obtain ⟨W, env, s, hen, hs, h⟩ := h
    refine tMT_bind hen hs h fun W1 H1 k s1 e1 he1 hs1 _ h1 => ?_
    cases k with
    | true => exact iteT ⟨W1, env, s1, he1, hs1, h1⟩
    | false => exact iteF ⟨W1, env, s1, he1, hs1, h1⟩
/-- a < b < c -/
@[simp] def mChain (g g' : D → D → M D) (a b c : VE → M D) : VE → M D := fun env s => (a env s).bind fun x s => (b env s).bind fun y s => (g x y s).bind fun z s => match z with
  | .bl true => (c env s).bind fun w s => g' y w s
  | .bl false => .ok (.bl false) s
  | _ => .no
@[simp] def mChainT (g g' : D → D → M D) (a b c : VE → M D) : VE → M Bool := fun env s => asB (mChain g g' a b c env s)

/-! ### - a -/
@[simp] def mNeg (a : VE → M D) : VE → M D := fun env s => (a env s).bind fun d s => match d with
  | .int i => .ok (.int (-i)) s
  | _ => .no
theorem ee_neg (ha : EE X G a ma) : EE X G (.UnaryOp .USub a pos) (mNeg ma) :=
  pe_imp (pe_un un_neg ha) fun σ H Q h => by
    obtain ⟨W, env, s, hen, hs, h⟩ := h
    refine tM_bind hen hs h fun W1 H1 v x s1 e1 he1 hs1 rx _ h1 => ?_
    split at h1
    · exact ⟨_, rep_int rx, h1.now hs1 (by simp)⟩
    · exact h1.elim

/-! ### argument lists, displays -/
variable {es : List Expr} {ml : VE → M (List D)}
@[simp] def mNil : VE → M (List D) := fun _ s => .ok [] s
@[simp] def mCons (a : VE → M D) (l : VE → M (List D)) : VE → M (List D) := fun env s => (a env s).bind fun d s => (l env s).bind fun ds s => .ok (d :: ds) s
def LenM (m : VE → M (List D)) (n : Nat) : Prop := ∀ env s ds s', m env s = .ok ds s' → ds.length = n
theorem ln : LenM mNil 0 := fun env s ds s' h => by simp only [mNil, Res.ok.injEq] at h; rw [← h.1]; rfl
theorem lc {n : Nat} (h : LenM ml n) : LenM (mCons ma ml) (n + 1) := fun env s ds s' q => by
  unfold mCons at q
  cases q1 : ma env s with
  | ok d s1 =>
    rw [q1] at q
    simp only [bind_ok] at q
    cases q2 : ml env s1 with
    | ok es s2 =>
      rw [q2] at q
      simp only [bind_ok, Res.ok.injEq] at q
      rw [← q.1, List.length_cons, h env s1 es s2 q2]
    | exc _ _ => rw [q2] at q; cases q
    | no => rw [q2] at q; cases q
  | exc _ _ => rw [q1] at q; cases q
  | no => rw [q1] at q; cases q
theorem ea_nil : EA X G [] mNil := pa_imp pa_nil fun σ H Q h => by
  obtain ⟨W, env, s, hen, hs, h⟩ := h
  exact h W H [] (Ext.refl _ _) hs (by simp [Reps])
theorem ea_cons (ha : EE X G e ma) (hr : EA X G es ml) (hs : starEach (e :: es) X.env = (false, eval e X.env) :: starEach es X.env := by rfl) : EA X G (e :: es) (mCons ma ml) :=
  pa_imp (pa_cons ha hr hs) fun σ H Q h => by
    obtain ⟨W, env, s, hen, hs, h⟩ := h
    refine tM_bindL hen hs h fun W1 H1 v x s1 e1 he1 hs1 rx _ h1 => ?_
    refine tML_bindL he1 hs1 h1 fun W2 H2 vs ds s2 e2 he2 hs2 rs _ h2 => ?_
    exact h2 W2 H2 (v :: vs) (Ext.refl _ _) hs2 (by simp only [Reps]; exact ⟨v, vs, rfl, Rep.ext e2 _ _ rx, rs⟩)
@[simp] def mTup (l : VE → M (List D)) : VE → M D := fun env s => (l env s).bind fun ds s => .ok (.tup ds) s
@[simp] def mLst (l : VE → M (List D)) : VE → M D := fun env s => (l env s).bind fun ds s => .ok (.lst ds) s
theorem small {n : Nat} (h : n ≤ 1000) : n ≤ sizeLine := by rw [sizeLine_eq]; omega
theorem ee_tup {x1} {n : Nat} (h : EA X G es ml) (hl : LenM ml n) (hn : n ≤ 1000 := by decide) : EE X G (.Tuple es x1 pos) (mTup ml) :=
  pe_imp (pe_tup h) fun σ H Q h => by
    obtain ⟨W, env, s, hen, hs, h⟩ := h
    refine tML_bind hen hs h fun W1 H1 vs ds s1 e1 he1 hs1 rs q h1 => ⟨by rw [rs.length, hl _ _ _ _ q]; exact small hn, fun p hp => h1.tup hs1 rs hp⟩
theorem ee_lst {n : Nat} (h : EA X G es ml) (hl : LenM ml n) (hn : n ≤ 1000 := by decide) : EE X G (.List es pos) (mLst ml) :=
  pe_imp (pe_lst h) fun σ H Q h => by
    obtain ⟨W, env, s, hen, hs, h⟩ := h
    refine tML_bind hen hs h fun W1 H1 vs ds s1 e1 he1 hs1 rs q h1 => ⟨by rw [rs.length, hl _ _ _ _ q]; exact small hn, fun p hp => h1.lst hs1 rs hp⟩

/-! ### a[i] -/
@[simp] def opIx (x y : D) : M D := fun s => match x, y with
  | .tup ds, .int i => (match atI ds i with | some d => .ok d s | none => .no)
  | .lst ds, .int i => (match atI ds i with | some d => .ok d s | none => .no)
  | .str z, .int i => if LenOk z.length then (match atI z.cps.toList i with | some c => .ok (.str ⟨#[c]⟩) s | none => .no) else .no
  | _, _ => .no
theorem Reps.atI {K : PySem.W.Frag} {W : Wd} {H : Hp} {ds : List D} {vs : List V} {i : Int} {d : D} (r : Reps K W H ds vs) (h : L2.atI ds i = some d) : ∃ v, L2.atI vs i = some v ∧ Rep K W H d v := by
  unfold L2.atI at h ⊢
  rw [r.length]
  cases q : ixN ds.length i with
  | none => rw [q] at h; cases h
  | some j =>
    rw [q] at h
    exact r.get h
theorem rb_ix : RB G (rIx G.K) opIx := by
  intro W H s x y v u Q hs rx ry h
  unfold opIx at h
  split at h
  · split at h
    · rename_i d q
      obtain ⟨a, vs, rfl, h1, r1⟩ := rep_tup rx
      obtain ⟨w, e1, e2⟩ := r1.atI q
      exact .inr (.inl ⟨a, vs, _, w, rfl, rep_int ry, h1, e1, h.now hs e2⟩)
    · exact h.elim
  · split at h
    · rename_i d q
      obtain ⟨a, vs, rfl, h1, _, r1⟩ := rep_lst rx
      obtain ⟨w, e1, e2⟩ := r1.atI q
      exact .inl ⟨a, vs, _, w, rfl, rep_int ry, .inl (.inl h1), e1, h.now hs e2⟩
    · exact h.elim
  · split at h
    · rename_i hz
      split at h
      · rename_i c q
        exact .inr (.inr ⟨_, _, c, rep_str rx, rep_int ry, hz, q, h.now hs (by simp)⟩)
      · exact h.elim
    · exact h.elim
  · exact h.elim
theorem ee_ix (hK : X.K = G.K) (ha : EE X G a ma) (hb : EE X G b mb) (hs : PlainIx b := by intro _ _; rfl) : EE X G (.Subscript a b pos) (mBin opIx ma mb) :=
  pe_imp (pe_ix ix_seq ha hb hs) fun _ _ _ h => tOp_of (hK ▸ rb_ix) h

/-! ### calls -/
/-- a def's promise by its mirror -/
def spM (K : PySem.W.Frag) (xr : XR) (n : Nat) (f : List D → M D) : Sp := fun vs H Q E => vs.length = n ∧ ∃ W ds s, Reps K W H ds vs ∧ WS W s H ∧ Aft ⟨K, xr, E⟩ W H (f ds s) Q
def noX {α : Type} (r : Res α) : Res α := match r with
  | .exc _ _ => .no
  | r => r
@[simp] theorem noX_ok {α : Type} (a : α) (s : DS) : noX (Res.ok a s) = .ok a s := rfl
@[simp] theorem noX_no {α : Type} : noX (Res.no : Res α) = .no := rfl
@[simp] theorem noX_exc {α : Type} (x : Xc) (s : DS) : noX (Res.exc x s : Res α) = .no := rfl
/-- a call of a def that raises nothing -/
@[simp] def mCall (f : List D → M D) (l : VE → M (List D)) : VE → M D := fun env s => (l env s).bind fun ds s => noX (f ds s)
theorem ee_call {n k : Nat} {f : Addr} {fd : FuncData} {ps : List Str} {fm : List D → M D} {x : Str} {p : Pos} {xr : XR}
    (F : FnOk X.prog X.w X.K X.mg X.base CX0 k f fd ps (spM X.K xr n fm)) (hr : Room k X.A) (hm : X.mg x = some (.ref f)) (hk : PySem.W.keepIn X.K (.ref f) = true) (hb : Binds X.K fd ps [])
    (hK : X.K = G.K) (ha : EA X G (e :: es) ml) (hl : LenM ml n) (hg : Gl X x := by rfl) (hdb : (x == ("__debug__" : Str)) = false := by decide) (he : starEach (e :: es) X.env = (false, eval e X.env) :: starEach es X.env := by rfl)
    (hpl : (backTo pos (starEach es X.env)).any (·.1) = false := by rfl) : EE X G (.Call (.Name x p) (e :: es) [] pos) (mCall fm ml) :=
  pe_imp (pe_call (E := E0) F hr hg hm hk hb .nil pass0 ha hdb he hpl) fun σ H Q h => by
    obtain ⟨W, env, s, hen, hs, h⟩ := h
    refine tML_bind hen hs h fun W1 H1 vs ds s1 e1 he1 hs1 rs q h1 => ?_
    refine ⟨by rw [List.append_nil, rs.length, hl _ _ _ _ q], W1, ds, s1, by rw [List.append_nil, hK]; exact rs, hs1, ?_⟩
    cases q2 : fm ds s1 with
    | ok d s2 =>
      rw [q2] at h1
      intro W' H' v ex ws rp
      exact h1 W' H' v ex ws (hK ▸ rp)
    | exc _ _ => rw [q2] at h1; exact h1.elim
    | no => rw [q2] at h1; exact h1.elim
/-- built-ins -/
def RC (G : Gx) (r : List V → Hp → VK → Prop) (g : List D → M D) : Prop := ∀ (W : Wd) (H : Hp) (s : DS) (ds : List D) (vs : List V) (Q : VK), WS W s H → Reps G.K W H ds vs → Aft G W H (g ds s) Q → r vs H Q
@[simp] def mCB (g : List D → M D) (l : VE → M (List D)) : VE → M D := fun env s => (l env s).bind g
theorem ee_callB {x : Str} {p : Pos} {id : String} {r : List V → Hp → VK → Prop} {g : List D → M D} (hc : CallR X (.builtin id) r) (hr : RC G r g) (hm : X.mg x = none) (hv : bootBuiltins x = some (.builtin id)) (ha : EA X G (e :: es) ml) (hg : Gl X x := by rfl)
    (hn : x ≠ "__name__" := by decide) (hdb : (x == ("__debug__" : Str)) = false := by decide) (he : starEach (e :: es) X.env = (false, eval e X.env) :: starEach es X.env := by rfl) (hpl : (backTo pos (starEach es X.env)).any (·.1) = false := by rfl) :
    EE X G (.Call (.Name x p) (e :: es) [] pos) (mCB g ml) :=
  pe_imp (pe_callB hc hg hm hv ha hn hdb he hpl) fun σ H Q h => by
    obtain ⟨W, env, s, hen, hs, h⟩ := h
    refine tML_bind hen hs h fun W1 H1 vs ds s1 e1 he1 hs1 rs q h1 => ?_
    exact hr W1 H1 s1 ds vs Q hs1 rs h1
theorem ee_callTy {x : Str} {p : Pos} {T : String} {r : List V → Hp → VK → Prop} {g : List D → M D} (hc : CallR X (.type T) r) (hr : RC G r g) (hm : X.mg x = none) (hv : bootBuiltins x = some (.type T)) (ha : EA X G (e :: es) ml) (hg : Gl X x := by rfl)
    (hn : x ≠ "__name__" := by decide) (hdb : (x == ("__debug__" : Str)) = false := by decide) (he : starEach (e :: es) X.env = (false, eval e X.env) :: starEach es X.env := by rfl) (hpl : (backTo pos (starEach es X.env)).any (·.1) = false := by rfl) :
    EE X G (.Call (.Name x p) (e :: es) [] pos) (mCB g ml) :=
  pe_imp (pe_callTy hc hg hm hv ha hn hdb he hpl) fun σ H Q h => by
    obtain ⟨W, env, s, hen, hs, h⟩ := h
    refine tML_bind hen hs h fun W1 H1 vs ds s1 e1 he1 hs1 rs q h1 => ?_
    exact hr W1 H1 s1 ds vs Q hs1 rs h1
theorem Reps.one {K : PySem.W.Frag} {W : Wd} {H : Hp} {d : D} {vs : List V} (r : Reps K W H [d] vs) : ∃ v, vs = [v] ∧ Rep K W H d v := by
  simp only [Reps] at r
  obtain ⟨v, w, rfl, h, rfl⟩ := r
  exact ⟨v, rfl, h⟩
theorem Reps.two {K : PySem.W.Frag} {W : Wd} {H : Hp} {d d' : D} {vs : List V} (r : Reps K W H [d, d'] vs) : ∃ v v', vs = [v, v'] ∧ Rep K W H d v ∧ Rep K W H d' v' := by
  simp only [Reps] at r
  obtain ⟨v, w, rfl, h, v', w', rfl, h', rfl⟩ := r
  exact ⟨v, v', rfl, h, h'⟩
/-- |i| -/
def absI (i : Int) : Int := if i < 0 then -i else i
theorem absI_nonneg (i : Int) : 0 ≤ absI i := by unfold absI; split <;> omega
theorem absI_natAbs (i : Int) : (absI i).natAbs = i.natAbs := by unfold absI; split <;> omega
theorem absI_eq (i : Int) : absI i = (i.natAbs : Int) := by unfold absI; split <;> omega
@[simp] theorem gcd_absI_l (a b : Int) : Int.gcd (absI a) b = Int.gcd a b := by unfold absI; split <;> simp
@[simp] theorem gcd_absI_r (a b : Int) : Int.gcd a (absI b) = Int.gcd a b := by unfold absI; split <;> simp
@[simp] def bAbs (ds : List D) : M D := fun s => match ds with
  | [.int i] => .ok (.int (absI i)) s
  | _ => .no
theorem rc_abs : RC G (fun xs H Q => ∃ i, xs = [.int i] ∧ Q (.int (if i < 0 then -i else i)) H) bAbs := by
  intro W H s ds vs Q hs rs h
  unfold bAbs at h
  split at h
  · obtain ⟨v, rfl, r⟩ := rs.one
    exact ⟨_, by rw [rep_int r], h.now (v := .int (absI _)) hs (rep_int_iff.mpr rfl)⟩
  · exact h.elim
@[simp] def bInt (ds : List D) : M D := fun s => match ds with
  | [.int i] => .ok (.int i) s
  | [.bl k] => .ok (.int (if k then 1 else 0)) s
  | _ => .no
theorem rc_int : RC G (fun xs H Q => (∃ i, xs = [V.int i] ∧ Q (.int i) H) ∨ ∃ k, xs = [V.bl k] ∧ Q (.int (if k then 1 else 0)) H) bInt := by
  intro W H s ds vs Q hs rs h
  unfold bInt at h
  split at h
  · obtain ⟨v, rfl, r⟩ := rs.one
    exact .inl ⟨_, by rw [rep_int r], h.now hs (by simp)⟩
  · obtain ⟨v, rfl, r⟩ := rs.one
    exact .inr ⟨_, by rw [r.bl_of], h.now hs (by simp)⟩
  · exact h.elim
@[simp] def bLen (ds : List D) : M D := fun s => match ds with
  | [.tup xs] => .ok (.int xs.length) s
  | [.lst xs] => .ok (.int xs.length) s
  | [.str x] => if LenOk x.length then .ok (.int x.length) s else .no
  | _ => .no
theorem rc_len : RC G (fun xs H Q => ∃ x n, xs = [x] ∧ LenV G.K x H n ∧ Q (.int n) H) bLen := by
  intro W H s ds vs Q hs rs h
  unfold bLen at h
  split at h
  · obtain ⟨v, rfl, r⟩ := rs.one
    obtain ⟨a, us, rfl, h1, r1⟩ := rep_tup r
    exact ⟨_, us.length, rfl, .inr ⟨us, h1, rfl⟩, h.now hs (by simp [r1.length])⟩
  · obtain ⟨v, rfl, r⟩ := rs.one
    obtain ⟨a, us, rfl, h1, _, r1⟩ := rep_lst r
    exact ⟨_, us.length, rfl, .inl ⟨us, .inl (.inl h1), rfl⟩, h.now hs (by simp [r1.length])⟩
  · split at h
    · rename_i hz
      obtain ⟨v, rfl, r⟩ := rs.one
      exact ⟨_, _, rfl, by rw [rep_str r]; exact ⟨hz, rfl⟩, h.now hs (by simp)⟩
    · exact h.elim
  · exact h.elim
@[simp] def bList (ds : List D) : M D := fun s => match ds with
  | [.tup xs] => .ok (.lst xs) s
  | [.lst xs] => .ok (.lst xs) s
  | _ => .no
theorem rc_list : RC G (fun xs H Q => ∃ p ys, xs = [.ref p] ∧ (SqL G.K H p ys ∨ SqT G.K H p ys) ∧ ∀ l, H l = none → Q (.ref l) (upd H l (.lst ys))) bList := by
  intro W H s ds vs Q hs rs h
  unfold bList at h
  split at h
  · obtain ⟨v, rfl, r⟩ := rs.one
    obtain ⟨a, us, rfl, h1, r1⟩ := rep_tup r
    exact ⟨a, us, rfl, .inr h1, fun l hl => h.lst hs r1 hl⟩
  · obtain ⟨v, rfl, r⟩ := rs.one
    obtain ⟨a, us, rfl, h1, _, r1⟩ := rep_lst r
    exact ⟨a, us, rfl, .inl (.inl (.inl h1)), fun l hl => h.lst hs r1 hl⟩
  · exact h.elim
@[simp] def bTuple (ds : List D) : M D := fun s => match ds with
  | [.tup xs] => .ok (.tup xs) s
  | [.lst xs] => .ok (.tup xs) s
  | _ => .no
theorem rc_tuple : RC G (fun xs H Q => ∃ p ys, xs = [.ref p] ∧ ((SqL G.K H p ys ∧ ∀ l, H l = none → Q (.ref l) (upd H l (.tup ys))) ∨ (SqT G.K H p ys ∧ Q (.ref p) H))) bTuple := by
  intro W H s ds vs Q hs rs h
  unfold bTuple at h
  split at h
  · obtain ⟨v, rfl, r⟩ := rs.one
    obtain ⟨a, us, rfl, h1, r1⟩ := rep_tup r
    exact ⟨a, us, rfl, .inr ⟨h1, h.now hs r⟩⟩
  · obtain ⟨v, rfl, r⟩ := rs.one
    obtain ⟨a, us, rfl, h1, _, r1⟩ := rep_lst r
    exact ⟨a, us, rfl, .inl ⟨.inl (.inl h1), fun l hl => h.tup hs r1 hl⟩⟩
  · exact h.elim
/-- lists of numbers -/
@[simp] def intsD : List D → Option (List Int)
  | [] => some []
  | .int i :: r => (intsD r).map (i :: ·)
  | _ => none
@[simp] def boolsD : List D → Option (List Bool)
  | [] => some []
  | .bl i :: r => (boolsD r).map (i :: ·)
  | _ => none
theorem intsD_rep {K : PySem.W.Frag} {W : Wd} {H : Hp} : ∀ {ds : List D} {ns : List Int} {vs : List V}, intsD ds = some ns → Reps K W H ds vs → vs = ns.map V.int
  | [], ns, vs, h, r => by simp only [intsD, Option.some.injEq] at h; subst h; simpa [Reps] using r
  | d :: ds, ns, vs, h, r => by
    simp only [Reps] at r
    obtain ⟨v, w, rfl, h1, h2⟩ := r
    unfold intsD at h
    split at h
    · rename_i q; cases q
    · rename_i q
      cases q
      cases q2 : intsD ds with
      | none => rw [q2] at h; cases h
      | some ms =>
        rw [q2] at h
        simp only [Option.map_some, Option.some.injEq] at h
        subst h
        rw [rep_int h1, intsD_rep q2 h2]; rfl
    · cases h
theorem boolsD_rep {K : PySem.W.Frag} {W : Wd} {H : Hp} : ∀ {ds : List D} {ns : List Bool} {vs : List V}, boolsD ds = some ns → Reps K W H ds vs → vs = ns.map V.bl
  | [], ns, vs, h, r => by simp only [boolsD, Option.some.injEq] at h; subst h; simpa [Reps] using r
  | d :: ds, ns, vs, h, r => by
    simp only [Reps] at r
    obtain ⟨v, w, rfl, h1, h2⟩ := r
    unfold boolsD at h
    split at h
    · rename_i q; cases q
    · rename_i q
      cases q
      cases q2 : boolsD ds with
      | none => rw [q2] at h; cases h
      | some ms =>
        rw [q2] at h
        simp only [Option.map_some, Option.some.injEq] at h
        subst h
        rw [h1.bl_of, boolsD_rep q2 h2]; rfl
    · cases h
@[simp] def bAll (ds : List D) : M D := fun s => match ds with
  | [.lst xs] => (match boolsD xs with | some bs => .ok (.bl (bs.all id)) s | none => .no)
  | _ => .no
@[simp] def bAny (ds : List D) : M D := fun s => match ds with
  | [.lst xs] => (match boolsD xs with | some bs => .ok (.bl (bs.any id)) s | none => .no)
  | _ => .no
@[simp] def bSum (ds : List D) : M D := fun s => match ds with
  | [.lst xs] => (match intsD xs with | some bs => .ok (.int bs.sum) s | none => .no)
  | _ => .no
theorem rc_all : RC G (rAll G.K) bAll := by
  intro W H s ds vs Q hs rs h
  unfold bAll at h
  split at h
  · split at h
    · rename_i q
      obtain ⟨v, rfl, r⟩ := rs.one
      obtain ⟨a, us, rfl, h1, _, r1⟩ := rep_lst r
      exact ⟨a, _, rfl, .inl (.inl (by rw [h1, boolsD_rep q r1])), h.now hs (by simp)⟩
    · exact h.elim
  · exact h.elim
theorem rc_any : RC G (rAny G.K) bAny := by
  intro W H s ds vs Q hs rs h
  unfold bAny at h
  split at h
  · split at h
    · rename_i q
      obtain ⟨v, rfl, r⟩ := rs.one
      obtain ⟨a, us, rfl, h1, _, r1⟩ := rep_lst r
      exact ⟨a, _, rfl, .inl (.inl (by rw [h1, boolsD_rep q r1])), h.now hs (by simp)⟩
    · exact h.elim
  · exact h.elim
theorem rc_sum : RC G (rSum G.K) bSum := by
  intro W H s ds vs Q hs rs h
  unfold bSum at h
  split at h
  · split at h
    · rename_i q
      obtain ⟨v, rfl, r⟩ := rs.one
      obtain ⟨a, us, rfl, h1, _, r1⟩ := rep_lst r
      exact ⟨a, _, rfl, .inl (.inl (by rw [h1, intsD_rep q r1])), h.now hs (by simp)⟩
    · exact h.elim
  · exact h.elim
/-- the greatest, the least of a list -/
def maxL : List Int → Int
  | [] => 0
  | [x] => x
  | x :: y :: r => max x (maxL (y :: r))
def minL : List Int → Int
  | [] => 0
  | [x] => x
  | x :: y :: r => min x (minL (y :: r))
theorem maxL_spec : ∀ (l : List Int), l ≠ [] → maxL l ∈ l ∧ ∀ y ∈ l, y ≤ maxL l
  | [], h => absurd rfl h
  | [x], _ => ⟨by simp [maxL], by simp [maxL]⟩
  | x :: y :: r, _ => by
    obtain ⟨h1, h2⟩ := maxL_spec (y :: r) (by simp)
    simp only [maxL]
    by_cases c : x ≤ maxL (y :: r)
    · rw [Int.max_eq_right c]
      exact ⟨List.mem_cons_of_mem _ h1, fun z hz => (List.mem_cons.mp hz).elim (fun e => e ▸ c) (h2 z)⟩
    · rw [Int.max_eq_left (by omega)]
      exact ⟨List.mem_cons_self, fun z hz => (List.mem_cons.mp hz).elim (fun e => by omega) (fun q => by have := h2 z q; omega)⟩
theorem minL_spec : ∀ (l : List Int), l ≠ [] → minL l ∈ l ∧ ∀ y ∈ l, minL l ≤ y
  | [], h => absurd rfl h
  | [x], _ => ⟨by simp [minL], by simp [minL]⟩
  | x :: y :: r, _ => by
    obtain ⟨h1, h2⟩ := minL_spec (y :: r) (by simp)
    simp only [minL]
    by_cases c : minL (y :: r) ≤ x
    · rw [Int.min_eq_right c]
      exact ⟨List.mem_cons_of_mem _ h1, fun z hz => (List.mem_cons.mp hz).elim (fun e => e ▸ c) (h2 z)⟩
    · rw [Int.min_eq_left (by omega)]
      exact ⟨List.mem_cons_self, fun z hz => (List.mem_cons.mp hz).elim (fun e => by omega) (fun q => by have := h2 z q; omega)⟩
@[simp] def bMax (ds : List D) : M D := fun s => match ds with
  | [.lst xs] => (match intsD xs with | some [] => .no | some bs => .ok (.int (maxL bs)) s | none => .no)
  | [.int i, .int j] => .ok (.int (if j > i then j else i)) s
  | _ => .no
@[simp] def bMin (ds : List D) : M D := fun s => match ds with
  | [.lst xs] => (match intsD xs with | some [] => .no | some bs => .ok (.int (minL bs)) s | none => .no)
  | [.int i, .int j] => .ok (.int (if j < i then j else i)) s
  | _ => .no
theorem cr_maxAll (hc : X.calm = true) : CallR X (.builtin "max") (fun xs H Q => rMax X.K xs H Q ∨ ∃ i j, xs = [.int i, .int j] ∧ Q (.int (if j > i then j else i)) H) := (cr_max hc).or (call_max2 hc)
theorem cr_minAll (hc : X.calm = true) : CallR X (.builtin "min") (fun xs H Q => rMin X.K xs H Q ∨ ∃ i j, xs = [.int i, .int j] ∧ Q (.int (if j < i then j else i)) H) := (cr_min hc).or (call_min2 hc)
theorem rc_max : RC G (fun xs H Q => rMax G.K xs H Q ∨ ∃ i j, xs = [.int i, .int j] ∧ Q (.int (if j > i then j else i)) H) bMax := by
  intro W H s ds vs Q hs rs h
  unfold bMax at h
  split at h
  · split at h
    · exact h.elim
    · rename_i xs _ bs hne q
      obtain ⟨v, rfl, r⟩ := rs.one
      obtain ⟨a, us, rfl, h1, _, r1⟩ := rep_lst r
      have hn : bs ≠ [] := fun e => hne e
      refine .inl ⟨a, bs, rfl, .inl (.inl (by rw [h1, intsD_rep q r1])), List.length_pos_iff.mpr hn, fun m hm hy => ?_⟩
      obtain ⟨s1, s2⟩ := maxL_spec bs hn
      have e : m = maxL bs := Int.le_antisymm (s2 m hm) (hy _ s1)
      subst e
      exact h.now hs (by simp)
    · exact h.elim
  · obtain ⟨v, v', rfl, r1, r2⟩ := rs.two
    exact .inr ⟨_, _, by rw [rep_int r1, rep_int r2], h.now hs (by simp)⟩
  · exact h.elim
theorem rc_min : RC G (fun xs H Q => rMin G.K xs H Q ∨ ∃ i j, xs = [.int i, .int j] ∧ Q (.int (if j < i then j else i)) H) bMin := by
  intro W H s ds vs Q hs rs h
  unfold bMin at h
  split at h
  · split at h
    · exact h.elim
    · rename_i xs _ bs hne q
      obtain ⟨v, rfl, r⟩ := rs.one
      obtain ⟨a, us, rfl, h1, _, r1⟩ := rep_lst r
      have hn : bs ≠ [] := fun e => hne e
      refine .inl ⟨a, bs, rfl, .inl (.inl (by rw [h1, intsD_rep q r1])), List.length_pos_iff.mpr hn, fun m hm hy => ?_⟩
      obtain ⟨s1, s2⟩ := minL_spec bs hn
      have e : m = minL bs := Int.le_antisymm (hy _ s1) (s2 m hm)
      subst e
      exact h.now hs (by simp)
    · exact h.elim
  · obtain ⟨v, v', rfl, r1, r2⟩ := rs.two
    exact .inr ⟨_, _, by rw [rep_int r1, rep_int r2], h.now hs (by simp)⟩
  · exact h.elim
end
end
end L2.Mir

set_option Elab.async false
set_option linter.all false
set_option maxRecDepth 100000
namespace L2.Mir
open PySem PySem.Spec PyProof.Rows
noncomputable section

section
variable {X : Cx} {G : Gx} {a b c e : Expr} {ma mb mc : VE → M D} {pos : Pos}
/-! ### a < b < c -/
theorem tChain_of {r r' : R2} {g g' : D → D → M D} (hr : RB G r g) (hr' : RB G r' g') {σ : St} {H : Hp} {Q : VK} (h : tM G (mChain g g' ma mb mc) σ H Q) : tChain r r' (tM G ma) (tM G mb) (tM G mc) σ H Q := by
  obtain ⟨W, env, s, hen, hs, h⟩ := h
  refine tM_bind hen hs h fun W1 H1 v x s1 e1 he1 hs1 rx _ h1 => ?_
  refine tM_bind he1 hs1 h1 fun W2 H2 u y s2 e2 he2 hs2 ry _ h2 => ?_
  refine hr W2 H2 s2 x y v u _ hs2 (Rep.ext e2 _ _ rx) ry ?_
  cases q : g x y s2 with
  | ok d s3 =>
    rw [q] at h2
    simp only [bind_ok] at h2
    intro W' H' w ex ws rp
    split at h2
    · refine ⟨true, rp.bl_of, iteT ?_⟩
      have h3 := Aft.ext ex h2
      refine tM_bind (he2.ext ex) ws h3 fun W4 H4 z d4 s4 e4 he4 hs4 r4 _ h4 => ?_
      exact hr' W4 H4 s4 y d4 u z Q hs4 (Rep.ext e4 _ _ (Rep.ext ex _ _ ry)) r4 h4
    · exact ⟨false, rp.bl_of, iteF (h2 W' H' _ ex ws (by simp))⟩
    · exact h2.elim
  | exc x' s3 => rw [q] at h2; exact h2
  | no => rw [q] at h2; exact h2
theorem ee_chain {op op' : CmpOp} {r r' : R2} {g g' : D → D → M D} (ho : OpR X (compareOp op) r) (ho' : OpR X (compareOp op') r') (hr : RB G r g) (hr' : RB G r' g') (ha : EE X G a ma) (hb : EE X G b mb) (hc : EE X G c mc)
    (hm : lastMarks [op, op'] [b, c] = false := by with_unfolding_all rfl) : EE X G (.Compare a [op, op'] [b, c] pos) (mChain g g' ma mb mc) :=
  pe_imp (pe_chain ho ho' ha hb hc hm) fun _ _ _ h => tChain_of hr hr' h
theorem et_chain {op op' : CmpOp} {r r' : R2} {g g' : D → D → M D} (ho : OpR X (compareOp op) r) (ho' : OpR X (compareOp op') r') (hr : RB G r g) (hr' : RB G r' g') (ha : EE X G a ma) (hb : EE X G b mb) (hc : EE X G c mc)
    (hm : lastMarks [op, op'] [b, c] = false := by with_unfolding_all rfl) : ET X G (.Compare a [op, op'] [b, c] pos) (mChainT g g' ma mb mc) :=
  pt_imp (pt_chain ho ho' ha hb hc hm) fun _ _ _ h => tTest_of (fun _ _ _ h => tChain_of hr hr' h) h

/-! ### isinstance(x, T) -/
def tyN : D → Option String
  | .non => some "NoneType"
  | .bl _ => some "bool"
  | .int _ => some "int"
  | .str _ => some "str"
  | .tup _ => some "tuple"
  | .lst _ => some "list"
  | .st => none
  | .fn _ => none
  | .dic _ _ => some "dict"
  | .dicT _ _ => some "dict"
@[simp] theorem tyN_1 : tyN .non = some "NoneType" := rfl
@[simp] theorem tyN_2 (b : Bool) : tyN (.bl b) = some "bool" := rfl
@[simp] theorem tyN_3 (b : Int) : tyN (.int b) = some "int" := rfl
@[simp] theorem tyN_4 (b : Str) : tyN (.str b) = some "str" := rfl
@[simp] theorem tyN_5 (b : List D) : tyN (.tup b) = some "tuple" := rfl
@[simp] theorem tyN_6 (b : List D) : tyN (.lst b) = some "list" := rfl
@[simp] theorem tyN_7 (k : List Key) (b : List D) : tyN (.dic k b) = some "dict" := rfl
@[simp] theorem tyN_8 (k : List (List Key)) (b : List D) : tyN (.dicT k b) = some "dict" := rfl
theorem tyN_ok {K : PySem.W.Frag} {W : Wd} {H : Hp} {d : D} {v : V} {t : String} (h : tyN d = some t) (r : Rep K W H d v) : TyX K H v (.type t) := by
  cases d <;> simp only [tyN, Option.some.injEq, reduceCtorEq] at h <;> subst h
  · simp only [rep_non_iff] at r; subst r; exact .base .non
  · simp only [rep_bl_iff] at r; subst r; exact .base (.bl _)
  · simp only [rep_int_iff] at r; subst r; exact .base (.int _)
  · simp only [rep_str_iff] at r; subst r; exact .base (.str _)
  · obtain ⟨a, vs, rfl, h1, _⟩ := rep_tup r
    rcases h1 with (h1 | ⟨o, h1⟩) | ⟨o, its, n, h1, h2, _⟩
    · exact .base (.tup h1)
    · exact .fTuple h1
    · exact .kTuple h1 h2
  · obtain ⟨a, vs, rfl, h1, _⟩ := rep_lst r
    exact .base (.lst h1)
  · simp only [Rep] at r
    obtain ⟨a, vs, rfl, h1, _⟩ := r
    exact .base (.dK h1)
  · simp only [Rep] at r
    obtain ⟨a, vs, rfl, h1, _⟩ := r
    exact .base (.dT h1)
/-- the answer, by names of types -/
@[simp] def kitN (t T : String) : Option Bool := match T with
  | "int" => some (t == "int" || t == "bool")
  | "bool" => some (t == "bool")
  | "str" => some (t == "str")
  | "tuple" => some (t == "tuple")
  | "list" => some (t == "list")
  | "dict" => some (t == "dict")
  | _ => none
def tyNames : List String := ["NoneType", "bool", "int", "str", "tuple", "list", "dict"]
theorem kitN_all : (tyNames.all fun t => ["int", "bool", "str", "tuple", "list", "dict"].all fun T => decide (kitN t T = kitB t T)) = true := by decide +kernel
theorem tyN_mem {d : D} {t : String} (h : tyN d = some t) : t ∈ tyNames := by
  cases d <;> simp only [tyN, Option.some.injEq, reduceCtorEq] at h <;> subst h <;> decide
theorem kitN_ok {d : D} {t T : String} {b : Bool} (h : tyN d = some t) (hk : kitN t T = some b) : kitB t T = some b := by
  have h1 := List.all_eq_true.mp kitN_all t (tyN_mem h)
  have hT : T ∈ ["int", "bool", "str", "tuple", "list", "dict"] := by
    unfold kitN at hk
    split at hk <;> first | (cases hk; done) | simp
  have h2 := of_decide_eq_true (List.all_eq_true.mp h1 T hT)
  rw [← h2]; exact hk
@[simp] def mIsi (T : String) (m : VE → M D) : VE → M D := fun env s => (m env s).bind fun d s => match tyN d with
  | some t => (match kitN t T with
    | some b => .ok (.bl b) s
    | none => .no)
  | none => .no
theorem ee_isi {T : String} {x xT : Str} {p p2 : Pos} (hK : X.K = G.K) (ha : EE X G a ma) (hm : X.mg x = none) (hv : bootBuiltins x = some (.builtin "isinstance")) (hmT : X.mg xT = none) (hvT : bootBuiltins xT = some (.type T)) (hg : Gl X x := by rfl) (hgT : Gl X xT := by rfl)
    (hn : x ≠ "__name__" := by decide) (hdb : (x == ("__debug__" : Str)) = false := by decide) (hnT : xT ≠ "__name__" := by decide) (hdbT : (xT == ("__debug__" : Str)) = false := by decide)
    (he0 : starEach ([Expr.Name xT p2]) X.env = (false, eval (Expr.Name xT p2) X.env) :: starEach [] X.env := by rfl)
    (he : starEach (a :: [Expr.Name xT p2]) X.env = (false, eval a X.env) :: starEach [Expr.Name xT p2] X.env := by rfl) (hpl : (backTo pos (starEach [Expr.Name xT p2] X.env)).any (·.1) = false := by rfl) :
    EE X G (.Call (.Name x p) [a, .Name xT p2] [] pos) (mIsi T ma) :=
  pe_imp (pe_callB call_isi hg hm hv (pa_cons ha (pa_cons (pe_bltn (v := .ty T) hgT hmT hvT rfl hnT hdbT) pa_nil he0) he) hn hdb he hpl) fun σ H Q h => by
    obtain ⟨W, env, s, hen, hs, h⟩ := h
    refine tM_bind hen hs h fun W1 H1 v x s1 e1 he1 hs1 rx _ h1 => ?_
    split at h1
    · rename_i t q
      split at h1
      · rename_i b q2
        exact ⟨v, .ty T, .type t, .type T, b, rfl, .ty T, hK ▸ tyN_ok q rx, kit_ty (kitN_ok q q2), h1.now hs1 (by simp)⟩
      · exact h1.elim
    · exact h1.elim

/-! ### a[lo:hi] -/
def cutD {α : Type} (xs : List α) (lo hi : Option Int) : List α := (xs.drop (HT.sIx xs.length 0 lo)).take (HT.sIx xs.length xs.length hi - HT.sIx xs.length 0 lo)
abbrev MP := VE → M (Option Int)
def AftP (G : Gx) (W : Wd) (H : Hp) (r : Res (Option Int)) (Q : Option Int → Hp → Prop) : Prop := match r with
  | .ok b s' => ∀ W' H', Ext W H W' H' → WS W' s' H' → Q b H'
  | .exc x s' => ∀ W' H' c dd, Ext W H W' H' → WS W' s' H' → G.xr G.K x c dd H' → G.E c dd H'
  | .no => False
def tMP (G : Gx) (m : MP) : TO := fun σ H Q => ∃ W env s, EnvR G.K W H σ env ∧ WS W s H ∧ AftP G W H (m env s) Q
abbrev EP' (X : Cx) (G : Gx) (e : Option Expr) (m : MP) : Prop := PO X e (tMP G m)
theorem po_imp {e : Option Expr} {t t' : TO} (h : PO X e t) (i : ∀ σ H Q, t' σ H Q → t σ H Q) : PO X e t' := ⟨fun pins s σ H Q I q => h.run pins s σ H Q I (i σ H Q q)⟩
@[simp] def mNoP : MP := fun _ s => .ok none s
@[simp] def mPart (m : VE → M D) : MP := fun env s => (m env s).bind fun d s => match d with
  | .int i => .ok (some i) s
  | _ => .no
theorem ep_none : EP' X G none mNoP := po_imp po_none fun σ H Q h => by
  obtain ⟨W, env, s, hen, hs, h⟩ := h
  exact h W H (Ext.refl _ _) hs
theorem ep_some (ha : EE X G a ma) : EP' X G (some a) (mPart ma) := po_imp (po_some ha) fun σ H Q h => by
  obtain ⟨W, env, s, hen, hs, h⟩ := h
  refine ⟨W, env, s, hen, hs, ?_⟩
  unfold mPart at h
  cases q : ma env s with
  | ok d s' =>
    rw [q] at h
    simp only [bind_ok] at h
    intro W' H' v e ws rp
    split at h
    · exact ⟨_, rep_int rp, h W' H' e ws⟩
    · exact h.elim
  | exc x s' => rw [q] at h; exact h
  | no => rw [q] at h; exact h
@[simp] def opSl (x : D) (lo hi : Option Int) : M D := fun s => match x with
  | .lst ds => .ok (.lst (cutD ds lo hi)) s
  | .tup ds => if HT.sIx ds.length 0 lo = 0 ∧ HT.sIx ds.length ds.length hi = ds.length then .no else .ok (.tup (cutD ds lo hi)) s
  | .str z => if LenOk z.length then .ok (.str (cutS z lo hi)) s else .no
  | _ => .no
@[simp] def mSl (m : VE → M D) (lo hi : MP) : VE → M D := fun env s => (m env s).bind fun d s => (lo env s).bind fun l s => (hi env s).bind fun u s => opSl d l u s
theorem or_sl : SlR X (fun x lo hi H Q => rSlL X.K x lo hi H Q ∨ (fun x lo hi H Q => rSlT X.K x lo hi H Q ∨ rSlS x lo hi H Q) x lo hi H Q) := sl_list.or (sl_tup.or sl_str)
theorem Reps.cut {K : PySem.W.Frag} {W : Wd} {H : Hp} {ds : List D} {vs : List V} (r : Reps K W H ds vs) (lo hi : Option Int) : Reps K W H (cutD ds lo hi) (cutV vs lo hi) := by
  unfold cutD cutV
  rw [r.length]
  exact (r.drop _).take _
theorem ee_sl {lo hi : Option Expr} {ml mh : MP} {p2 : Pos} (hK : X.K = G.K) (ha : EE X G a ma) (hl : EP' X G lo ml) (hh : EP' X G hi mh) : EE X G (.Subscript a (.Slice lo hi none p2) pos) (mSl ma ml mh) :=
  pe_imp (pe_slice or_sl ha hl hh) fun σ H Q h => by
    obtain ⟨W, env, s, hen, hs, h⟩ := h
    refine tM_bind hen hs h fun W1 H1 v x s1 e1 he1 hs1 rx _ h1 => ?_
    refine ⟨W1, env, s1, he1, hs1, ?_⟩
    cases q : ml env s1 with
    | ok l s2 =>
      rw [q] at h1
      intro W2 H2 e2 ws2
      have h2 := Aft.ext e2 h1
      simp only [bind_ok] at h2
      refine ⟨W2, env, s2, he1.ext e2, ws2, ?_⟩
      cases q2 : mh env s2 with
      | ok u s3 =>
        rw [q2] at h2
        intro W3 H3 e3 ws3
        have h3 := Aft.ext e3 h2
        simp only [bind_ok] at h3
        have rx3 := Rep.ext e3 _ _ (Rep.ext e2 _ _ rx)
        unfold opSl at h3
        split at h3
        · obtain ⟨p, vs, rfl, g1, _, r1⟩ := rep_lst rx3
          exact .inl ⟨p, vs, rfl, .inl (.inl g1), fun p' hp => h3.lst ws3 (r1.cut l u) hp⟩
        · split at h3
          · exact h3.elim
          · rename_i hz
            obtain ⟨p, vs, rfl, g1, r1⟩ := rep_tup rx3
            exact .inr (.inl ⟨p, vs, rfl, hK ▸ g1, by rw [r1.length]; exact hz, fun p' hp => h3.tup ws3 (r1.cut l u) hp⟩)
        · split at h3
          · rename_i hz
            exact .inr (.inr ⟨_, rep_str rx3, hz, h3.now ws3 (by simp)⟩)
          · exact h3.elim
        · exact h3.elim
      | exc x s' => rw [q2] at h2; exact h2
      | no => rw [q2] at h2; exact h2
    | exc x s' => rw [q] at h1; exact h1
    | no => rw [q] at h1; exact h1
@[simp] def mRev (m : VE → M D) : VE → M D := fun env s => (m env s).bind fun d s => match d with
  | .lst ds => .ok (.lst ds.reverse) s
  | _ => .no
theorem ee_rev {k : Nat} {p1 p2 p3 : Pos} (ha : EE X G a ma) : EE X G (.Subscript a (.Slice none none (some (.UnaryOp .USub (.Constant (.int 1) k p1) p2)) p3) pos) (mRev ma) :=
  pe_imp (pe_revL ha) fun σ H Q h => by
    obtain ⟨W, env, s, hen, hs, h⟩ := h
    refine tM_bind hen hs h fun W1 H1 v x s1 e1 he1 hs1 rx _ h1 => ?_
    split at h1
    · obtain ⟨p, vs, rfl, g1, _, r1⟩ := rep_lst rx
      exact ⟨p, vs, rfl, .inl (.inl g1), fun p' hp => h1.lst hs1 r1.reverse hp⟩
    · exact h1.elim
end
end
end L2.Mir

set_option Elab.async false
set_option linter.all false
set_option maxRecDepth 100000
namespace L2.Mir
open PySem PySem.Spec PyProof.Rows
noncomputable section

/-! ### targets -/
inductive Pat where
  | n (i : Nat) | t (ps : List Pat)
mutual
@[simp] def Pat.run : Pat → D → Option (List (Nat × D))
  | .n i, d => some [(i, d)]
  | .t ps, .tup ds => Pat.runs ps ds
  | .t _, _ => none
@[simp] def Pat.runs : List Pat → List D → Option (List (Nat × D))
  | [], [] => some []
  | p :: ps, d :: ds => match Pat.run p d, Pat.runs ps ds with
    | some a, some b => some (a ++ b)
    | _, _ => none
  | _, _ => none
end
mutual
def Pat.slots : Pat → List Nat
  | .n i => [i]
  | .t ps => Pat.slotss ps
def Pat.slotss : List Pat → List Nat
  | [] => []
  | p :: ps => Pat.slots p ++ Pat.slotss ps
end
def AsR (K : PySem.W.Frag) (W : Wd) (H : Hp) : List (Nat × D) → List (Nat × V) → Prop
  | [], bs => bs = []
  | (i, d) :: r, bs => ∃ v q, bs = (i, v) :: q ∧ Rep K W H d v ∧ AsR K W H r q
def setA (σ : L2.St) : List (Nat × V) → L2.St
  | [] => σ
  | (i, v) :: r => setA (σ.set i (some v)) r
@[simp] def setE (env : VE) : List (Nat × D) → VE
  | [] => env
  | (i, d) :: r => setE (env.set i (some d)) r
theorem setA_append (σ : L2.St) : ∀ (a b : List (Nat × V)), setA σ (a ++ b) = setA (setA σ a) b
  | [], b => rfl
  | (i, v) :: r, b => by simp only [List.cons_append, setA]; exact setA_append _ r b
section
variable {K : PySem.W.Frag} {W : Wd} {H : Hp}
theorem AsR.split : ∀ {a b : List (Nat × D)} {cs : List (Nat × V)}, AsR K W H (a ++ b) cs → ∃ c1 c2, cs = c1 ++ c2 ∧ AsR K W H a c1 ∧ AsR K W H b c2
  | [], b, cs, h => ⟨[], cs, rfl, rfl, h⟩
  | (i, d) :: r, b, cs, h => by
    simp only [List.cons_append, AsR] at h
    obtain ⟨v, q, rfl, h1, h2⟩ := h
    obtain ⟨c1, c2, rfl, g1, g2⟩ := AsR.split h2
    exact ⟨(i, v) :: c1, c2, rfl, by simp only [AsR]; exact ⟨v, c1, rfl, h1, g1⟩, g2⟩
theorem AsR.append : ∀ {a b : List (Nat × D)} {c1 c2 : List (Nat × V)}, AsR K W H a c1 → AsR K W H b c2 → AsR K W H (a ++ b) (c1 ++ c2)
  | [], b, c1, c2, h, g => by simp only [AsR] at h; subst h; exact g
  | (i, d) :: r, b, c1, c2, h, g => by
    simp only [AsR] at h
    obtain ⟨v, q, rfl, h1, h2⟩ := h
    simp only [List.cons_append, AsR]
    exact ⟨v, q ++ c2, rfl, h1, h2.append g⟩
/-- a value's places: what a target stores -/
def gP (K : PySem.W.Frag) (p : Pat) : TG := fun v σ H Q => ∃ W d as, Rep K W H d v ∧ p.run d = some as ∧ ∀ bs, AsR K W H as bs → Q (setA σ bs) H
def gPs (K : PySem.W.Frag) (ps : List Pat) : TGs := fun vs σ H Q => ∃ W ds as, Reps K W H ds vs ∧ Pat.runs ps ds = some as ∧ ∀ bs, AsR K W H as bs → Q (setA σ bs) H
end
section
variable {X : Cx} {K : PySem.W.Frag} {pos : Pos}
abbrev EG (X : Cx) (K : PySem.W.Frag) (tg : Expr) (p : Pat) : Prop := PG X tg (gP K p)
abbrev EGs (X : Cx) (K : PySem.W.Frag) (ts : List Expr) (ps : List Pat) : Prop := PGs X ts (gPs K ps)
theorem pg_imp {tg : Expr} {t t' : TG} (h : PG X tg t) (i : ∀ v σ H Q, t' v σ H Q → t v σ H Q) : PG X tg t' := ⟨fun pins s σ H v u Q I r q => h.run pins s σ H v u Q I r (i v σ H Q q)⟩
theorem pgs_imp {tg : List Expr} {t t' : TGs} (h : PGs X tg t) (i : ∀ v σ H Q, t' v σ H Q → t v σ H Q) : PGs X tg t' := ⟨fun pins s σ H v u Q I r q => h.run pins s σ H v u Q I r (i v σ H Q q)⟩
theorem eg_name {i : Nat} {x : Str} (hN : X.N.Nodup) (hi : X.N[i]? = some x := by rfl) (hx : Loc X.env.scope x := by first | exact .inl rfl | exact .inr rfl) (hf : X.fn x = true ∨ X.env.scope.names.lookup x = some .local := by first | exact .inl rfl | exact .inr rfl | assumption) : EG X K (.Name x pos) (.n i) :=
  pg_imp (pg_name hN hi hx hf) fun v σ H Q h => by
    obtain ⟨W, d, as, r, e, h⟩ := h
    simp only [Pat.run, Option.some.injEq] at e
    subst e
    exact h [(i, v)] (by simp only [AsR]; exact ⟨v, [], rfl, r, rfl⟩)
theorem egs_nil : EGs X K [] [] := pgs_imp pgs_nil fun vs σ H Q h => by
  obtain ⟨W, ds, as, r, e, h⟩ := h
  cases ds with
  | nil =>
    simp only [Pat.runs, Option.some.injEq] at e
    subst e
    simp only [Reps] at r
    subst r
    exact ⟨rfl, h [] (by simp only [AsR])⟩
  | cons _ _ => simp [Pat.runs] at e
/-- representations of the two heaps agree under a store to slots: nothing of the heap changes -/
theorem egs_cons {e : Expr} {es : List Expr} {p : Pat} {ps : List Pat} (h1 : EG X K e p) (h2 : EGs X K es ps) (hs : (assignEach (e :: es) X.env).map (·.2) = assign e X.env :: (assignEach es X.env).map (·.2) := by rfl) : EGs X K (e :: es) (p :: ps) :=
  pgs_imp (pgs_cons h1 h2 hs) fun vs σ H Q h => by
    obtain ⟨W, ds, as, r, q, h⟩ := h
    cases ds with
    | nil => simp [Pat.runs] at q
    | cons d ds =>
      simp only [Reps] at r
      obtain ⟨v, w, rfl, r1, r2⟩ := r
      simp only [Pat.runs] at q
      split at q
      · rename_i a b qa qb
        simp only [Option.some.injEq] at q
        subst q
        exact ⟨v, w, rfl, W, d, a, r1, qa, fun c1 g1 => ⟨W, ds, b, r2, qb, fun c2 g2 => by rw [← setA_append]; exact h _ (g1.append g2)⟩⟩
      · cases q
theorem runs_len : ∀ {ps : List Pat} {ds : List D} {as : List (Nat × D)}, Pat.runs ps ds = some as → ds.length = ps.length
  | [], [], _, _ => rfl
  | [], _ :: _, _, h => by simp [Pat.runs] at h
  | _ :: _, [], _, h => by simp [Pat.runs] at h
  | p :: ps, d :: ds, _, h => by
    simp only [Pat.runs] at h
    split at h
    · rename_i a b qa qb
      simp [runs_len qb]
    · cases h
theorem eg_tup {es : List Expr} {k : Nat} {ps : List Pat} (hK : X.K = K) (hc : X.calm = true) (h : EGs X K es ps) (hn : (assignEach es X.env).length = ps.length := by rfl) (hst : (assignEach es X.env).findIdx? (·.1) = none := by rfl) : EG X K (.Tuple es k pos) (.t ps) :=
  pg_imp (pg_tup hc h hn hst) fun v σ H Q h => by
    obtain ⟨W, d, as, r, q, h⟩ := h
    cases d with
    | tup ds =>
      obtain ⟨a, vs, rfl, hs, rs⟩ := rep_tup r
      simp only [Pat.run] at q
      exact ⟨a, vs, rfl, hK ▸ hs, by rw [rs.length, runs_len q], W, ds, as, rs, q, h⟩
    | _ => simp [Pat.run] at q
end

/-! ### what is walked -/
/-- an iterator gives these data, one after another, as long as the pinned value stands -/
def Feed (K : PySem.W.Frag) (J : It) (d0 : D) (v0 : V) (ds : List D) : Prop := ∀ W H, Rep K W H d0 v0 →
  (∀ (i : Nat) (d : D), ds[i]? = some d → J.go i H ∧ ∀ x H', J.yld i H x H' → Ext W H W H' ∧ (∀ s, WS W s H → WS W s H') ∧ Rep K W H' d x) ∧ J.stop ds.length H
def AftI (G : Gx) (W : Wd) (H : Hp) (r : Res (List D)) (R : It → Hp → Prop) : Prop := match r with
  | .ok ds s' => ∀ W' H' J d0 v0, Ext W H W' H' → WS W' s' H' → Rep G.K W' H' d0 v0 → Feed G.K J d0 v0 ds → R J H'
  | .exc x s' => ∀ W' H' c dd, Ext W H W' H' → WS W' s' H' → G.xr G.K x c dd H' → G.E c dd H'
  | .no => False
theorem AftI.ext {G : Gx} {W W' : Wd} {H H' : Hp} {r : Res (List D)} {R : It → Hp → Prop} (e : Ext W H W' H') (h : AftI G W H r R) : AftI G W' H' r R := by
  cases r with
  | ok d s => exact fun W2 H2 J d0 v0 e2 ws rp f => h W2 H2 J d0 v0 (e.trans e2) ws rp f
  | exc x s => exact fun W2 H2 c dd e2 ws rp => h W2 H2 c dd (e.trans e2) ws rp
  | no => exact h
theorem AftI.now {G : Gx} {W : Wd} {H : Hp} {s : DS} {ds : List D} {R : It → Hp → Prop} {J : It} {d0 : D} {v0 : V} (h : AftI G W H (.ok ds s) R) (hs : WS W s H) (r : Rep G.K W H d0 v0) (f : Feed G.K J d0 v0 ds) : R J H := h W H J d0 v0 (Ext.refl W H) hs r f
def tMI (G : Gx) (m : VE → M (List D)) : TI := fun σ H R => ∃ W env s, EnvR G.K W H σ env ∧ WS W s H ∧ AftI G W H (m env s) R
theorem tML_bindI {G : Gx} {W : Wd} {H : Hp} {σ : L2.St} {env : VE} {s : DS} {m : VE → M (List D)} {f : List D → DS → Res (List D)} {R0 : It → Hp → Prop} {R : List V → Hp → Prop} (he : EnvR G.K W H σ env) (hs : WS W s H) (h : AftI G W H ((m env s).bind f) R0)
    (k : ∀ W' H' vs ds s', Ext W H W' H' → EnvR G.K W' H' σ env → WS W' s' H' → Reps G.K W' H' ds vs → m env s = .ok ds s' → AftI G W' H' (f ds s') R0 → R vs H') : tML G m σ H R := by
  refine ⟨W, env, s, he, hs, ?_⟩
  cases q : m env s with
  | ok d s' =>
    rw [q] at h
    exact fun W' H' v e ws rp => k W' H' v d s' e (he.ext e) ws rp q (AftI.ext e h)
  | exc x s' => rw [q] at h; exact h
  | no => rw [q] at h; exact h
theorem tM_bindI {G : Gx} {W : Wd} {H : Hp} {σ : L2.St} {env : VE} {s : DS} {m : VE → M D} {f : D → DS → Res (List D)} {R0 : It → Hp → Prop} {R : VK} (he : EnvR G.K W H σ env) (hs : WS W s H) (h : AftI G W H ((m env s).bind f) R0)
    (k : ∀ W' H' v d s', Ext W H W' H' → EnvR G.K W' H' σ env → WS W' s' H' → Rep G.K W' H' d v → m env s = .ok d s' → AftI G W' H' (f d s') R0 → R v H') : tM G m σ H R := by
  refine ⟨W, env, s, he, hs, ?_⟩
  cases q : m env s with
  | ok d s' =>
    rw [q] at h
    exact fun W' H' v e ws rp => k W' H' v d s' e (he.ext e) ws rp q (AftI.ext e h)
  | exc x s' => rw [q] at h; exact h
  | no => rw [q] at h; exact h
abbrev EI (X : Cx) (G : Gx) (tg iter : Expr) (m : VE → M (List D)) : Prop := PI X tg iter (tMI G m)
section
variable {X : Cx} {G : Gx} {tg l a b : Expr} {m ma mb : VE → M D} {pos p : Pos}
theorem pi_imp {iter : Expr} {t t' : TI} (h : PI X tg iter t) (i : ∀ σ H R, t' σ H R → t σ H R) : PI X tg iter t' := ⟨fun pins s σ H R I q => h.run pins s σ H R I (i σ H R q)⟩
theorem feed_tup {K : PySem.W.Frag} {a : Addr} {ds : List D} {vs0 : List V} : Feed K (Itt K a) (.tup ds) (.ref a) ds := fun W H r => by
  obtain ⟨a', vs, e, hs, rs⟩ := rep_tup r
  cases e
  refine ⟨fun i d hd => ?_, vs, hs, by rw [rs.length]; exact Nat.le_refl _⟩
  obtain ⟨v, hv, rv⟩ := rs.get hd
  refine ⟨⟨vs, v, hs, hv⟩, fun x H' hy => ?_⟩
  obtain ⟨rfl, f⟩ := hy
  have := (f vs hs).symm.trans hv
  cases this
  exact ⟨Ext.refl _ _, fun _ h => h, rv⟩
theorem feed_lst {K : PySem.W.Frag} {a : Addr} {ds : List D} : Feed K (Itl K a) (.lst ds) (.ref a) ds := fun W H r => by
  obtain ⟨a', vs, e, hs, _, rs⟩ := rep_lst r
  cases e
  have hs : SqL K H a vs := .inl (.inl hs)
  refine ⟨fun i d hd => ?_, vs, hs, by rw [rs.length]; exact Nat.le_refl _⟩
  obtain ⟨v, hv, rv⟩ := rs.get hd
  refine ⟨⟨vs, v, hs, hv⟩, fun x H' hy => ?_⟩
  obtain ⟨rfl, f⟩ := hy
  have := (f vs hs).symm.trans hv
  cases this
  exact ⟨Ext.refl _ _, fun _ h => h, rv⟩
theorem feed_rng {K : PySem.W.Frag} {lo : Int} {n : Nat} : Feed K (Itr lo n) .non .non ((List.range n).map fun (i : Nat) => .int (lo + i)) := fun W H r => by
  refine ⟨fun i d hd => ?_, by simp [Itr]⟩
  rw [List.getElem?_map] at hd
  cases q : (List.range n)[i]? with
  | none => rw [q] at hd; cases hd
  | some j =>
    rw [q] at hd
    obtain ⟨hi, hj⟩ := List.getElem?_eq_some_iff.mp q
    simp only [List.length_range] at hi
    simp only [List.getElem_range] at hj
    subst hj
    simp only [Option.map_some, Option.some.injEq] at hd
    subst hd
    refine ⟨hi, fun x H' hy => ?_⟩
    obtain ⟨rfl, rfl⟩ := hy
    exact ⟨Ext.refl _ _, fun _ h => h, by simp⟩
theorem feed_str {K : PySem.W.Frag} {x : Str} : Feed K (Its x) .non .non (x.cps.toList.map fun c => .str ⟨#[c]⟩) := fun W H r => by
  refine ⟨fun i d hd => ?_, by simp [Its]⟩
  rw [List.getElem?_map] at hd
  cases q : x.cps.toList[i]? with
  | none => rw [q] at hd; cases hd
  | some j =>
    rw [q] at hd
    simp only [Option.map_some, Option.some.injEq] at hd
    subst hd
    have q' : x.cps[i]? = some j := by simpa using q
    obtain ⟨hi, _⟩ := Array.getElem?_eq_some_iff.mp q'
    refine ⟨hi, fun v H' hy => ?_⟩
    obtain ⟨rfl, c, hc, rfl⟩ := hy
    rw [q'] at hc
    cases hc
    exact ⟨Ext.refl _ _, fun _ h => h, by simp⟩
/-- a list, a tuple, a text -/
@[simp] def mSeq (m : VE → M D) : VE → M (List D) := fun env s => (m env s).bind fun d s => match d with
  | .tup ds => .ok ds s
  | .lst ds => .ok ds s
  | .str x => .ok (x.cps.toList.map fun c => .str ⟨#[c]⟩) s
  | _ => .no
theorem pi_or {iter : Expr} {w1 w2 : TI} (h1 : PI X tg iter w1) (h2 : PI X tg iter w2) : PI X tg iter (fun σ H R => w1 σ H R ∨ w2 σ H R) := ⟨fun pins s σ H R I q => q.elim (h1.run pins s σ H R I) (h2.run pins s σ H R I)⟩
theorem ei_seq (hK : X.K = G.K) (h : EE X G l m) : EI X G tg l (mSeq m) :=
  pi_imp (pi_or (pi_list h) (pi_or (pi_tup h) (pi_str h))) fun σ H R h => by
    obtain ⟨W, env, s, hen, hs, h⟩ := h
    unfold mSeq at h
    cases q : m env s with
    | ok d s' =>
      have h0 := h
      rw [q] at h
      cases d with
      | tup ds =>
        refine .inr (.inl (tM_bindI hen hs h0 fun W1 H1 v x s1 e1 he1 hs1 rx q1 h1 => ?_))
        rw [q] at q1; cases q1
        obtain ⟨a, vs, rfl, hq, rs⟩ := rep_tup rx
        exact ⟨a, rfl, ⟨vs, hK ▸ hq⟩, h1.now hs1 rx (hK ▸ feed_tup (vs0 := vs))⟩
      | lst ds =>
        refine .inl (tM_bindI hen hs h0 fun W1 H1 v x s1 e1 he1 hs1 rx q1 h1 => ?_)
        rw [q] at q1; cases q1
        obtain ⟨a, vs, rfl, hq, _, rs⟩ := rep_lst rx
        exact ⟨a, rfl, ⟨vs, .inl (.inl hq)⟩, h1.now hs1 rx (hK ▸ feed_lst)⟩
      | str x =>
        refine .inr (.inr (tM_bindI hen hs h0 fun W1 H1 v x s1 e1 he1 hs1 rx q1 h1 => ?_))
        rw [q] at q1; cases q1
        exact ⟨_, rep_str rx, h1.now hs1 (d0 := .non) (v0 := .non) (by simp) feed_str⟩
      | _ => exact h.elim
    | exc x s' =>
      rw [q] at h
      exact .inl ⟨W, env, s, hen, hs, by rw [q]; exact h⟩
    | no => rw [q] at h; exact h.elim
/-- range -/
def rngD (lo hi : Int) : List D := (List.range (hi - lo).toNat).map fun (i : Nat) => .int (lo + i)
@[simp] def bRng1 (ds : List D) : M (List D) := fun s => match ds with
  | [.int j] => if RngOk j then .ok (rngD 0 j) s else .no
  | _ => .no
@[simp] def bRng2 (ds : List D) : M (List D) := fun s => match ds with
  | [.int i, .int j] => if RngOk i ∧ RngOk j then .ok (rngD i j) s else .no
  | _ => .no
@[simp] def mRng1 (l : VE → M (List D)) : VE → M (List D) := fun env s => (l env s).bind bRng1
@[simp] def mRng2 (l : VE → M (List D)) : VE → M (List D) := fun env s => (l env s).bind bRng2
theorem ei_rng1 {ml : VE → M (List D)} (hm : X.mg "range" = none) (ha : EA X G [a] ml) (hg : Gl X "range" := by rfl) (hs : starEach [a] X.env = [(false, eval a X.env)] := by rfl) : EI X G tg (.Call (.Name "range" p) [a] [] pos) (mRng1 ml) :=
  pi_imp (pi_range1 hg hm ha hs) fun σ H R h => by
    obtain ⟨W, env, s, hen, hs, h⟩ := h
    refine tML_bindI hen hs h fun W1 H1 vs ds s1 e1 he1 hs1 rs q h1 => ?_
    unfold bRng1 at h1
    split at h1
    · split at h1
      · rename_i j hz
        obtain ⟨v, rfl, r⟩ := rs.one
        refine ⟨j, by rw [rep_int r], by have := hz.1; omega, by have := hz.2; omega, h1.now hs1 (d0 := .non) (v0 := .non) (by simp) ?_⟩
        unfold rngD
        rw [Int.sub_zero]
        exact feed_rng
      · exact h1.elim
    · exact h1.elim
theorem ei_rng2 {ml : VE → M (List D)} (hm : X.mg "range" = none) (ha : EA X G [a, b] ml) (hg : Gl X "range" := by rfl) (hs : starEach [a, b] X.env = [(false, eval a X.env), (false, eval b X.env)] := by rfl) (hs2 : starEach [b] X.env = [(false, eval b X.env)] := by rfl) :
    EI X G tg (.Call (.Name "range" p) [a, b] [] pos) (mRng2 ml) :=
  pi_imp (pi_range2 hg hm ha hs hs2) fun σ H R h => by
    obtain ⟨W, env, s, hen, hs, h⟩ := h
    refine tML_bindI hen hs h fun W1 H1 vs ds s1 e1 he1 hs1 rs q h1 => ?_
    unfold bRng2 at h1
    split at h1
    · split at h1
      · rename_i i j hz
        obtain ⟨v, v', rfl, r, r'⟩ := rs.two
        exact ⟨i, j, by rw [rep_int r, rep_int r'], ⟨by have := hz.1.1; omega, by have := hz.1.2; omega, by have := hz.2.1; omega, by have := hz.2.2; omega⟩, h1.now hs1 (d0 := .non) (v0 := .non) (by simp) feed_rng⟩
      · exact h1.elim
    · exact h1.elim
end

/-! ### comprehensions -/
@[simp] def wipeE (env : VE) : List Nat → VE
  | [] => env
  | v :: vs => (wipeE env vs).set v none
@[simp] def tsYes : VE → M Bool := fun _ s => .ok true s
abbrev ETs (X : Cx) (G : Gx) (ifs : List Expr) (m : VE → M Bool) : Prop := PTs X ifs (tMT G m)
theorem pts_imp {X : Cx} {e : List Expr} {t t' : TT} (h : PTs X e t) (i : ∀ σ H Q, t' σ H Q → t σ H Q) : PTs X e t' := ⟨fun pins s σ H Q I q => h.run pins s σ H Q I (i σ H Q q)⟩
theorem ets_nil {X : Cx} {G : Gx} : ETs X G [] tsYes := pts_imp pts_nil fun σ H Q h => by
  obtain ⟨W, env, s, hen, hs, h⟩ := h
  exact h.now hs
theorem ets_one {X : Cx} {G : Gx} {c : Expr} {m : VE → M Bool} (h : ET X G c m) : ETs X G [c] m := pts_one h
/-- one turn -/
@[simp] def lcF (p : Pat) (tt : VE → M Bool) (te : VE → M D) (env : VE) (d : D) : M (Option D) := fun s => match p.run d with
  | none => .no
  | some as => (tt (setE env as) s).bind fun b s => if b = true then (te (setE env as) s).bind fun y s => .ok (some y) s else .ok none s
def lcGo (f : D → M (Option D)) : List D → M (List D)
  | [], s => .ok [] s
  | d :: r, s => (f d s).bind fun o s => (lcGo f r s).bind fun ys s => .ok (match o with | some y => y :: ys | none => ys) s
@[simp] def mLc (p : Pat) (vs : List Nat) (mi : VE → M (List D)) (tt : VE → M Bool) (te : VE → M D) : VE → M D := fun env s => (mi env s).bind fun ds s =>
  if LenOk ds.length then noX ((lcGo (lcF p tt te (wipeE env vs)) ds s).bind fun ys s => .ok (.lst ys) s) else .no

theorem getElem?_setNone {α : Type} (l : List (Option α)) (j i : Nat) (d : α) : (l.set j none)[i]? = some (some d) → l[i]? = some (some d) ∧ i ≠ j := fun h => by
  by_cases e : j = i
  · subst e
    by_cases hl : j < l.length
    · rw [List.getElem?_set_self hl] at h; cases h
    · rw [List.getElem?_eq_none (by simpa using hl)] at h; cases h
  · rw [List.getElem?_set_ne e] at h
    exact ⟨h, fun z => e z.symm⟩
theorem wipe_get {σ : L2.St} {i : Nat} : ∀ {vs : List Nat}, i ∉ vs → (wipe σ vs)[i]? = σ[i]?
  | [], _ => rfl
  | v :: vs, h => by
    simp only [List.mem_cons, not_or] at h
    unfold wipe
    rw [List.getElem?_set_ne (fun e => h.1 e.symm)]
    exact wipe_get h.2
section
variable {K : PySem.W.Frag} {W : Wd} {H : Hp} {σ : L2.St} {env : VE}
theorem wipeE_some {i : Nat} {d : D} : ∀ {vs : List Nat}, (wipeE env vs)[i]? = some (some d) → env[i]? = some (some d) ∧ i ∉ vs
  | [], h => ⟨h, by simp⟩
  | v :: vs, h => by
    unfold wipeE at h
    obtain ⟨h1, h2⟩ := getElem?_setNone _ _ _ _ h
    obtain ⟨h3, h4⟩ := wipeE_some h1
    exact ⟨h3, by simp only [List.mem_cons, not_or]; exact ⟨h2, h4⟩⟩
theorem wipeE_length : ∀ vs : List Nat, (wipeE env vs).length = env.length
  | [] => rfl
  | v :: vs => by unfold wipeE; rw [List.length_set, wipeE_length vs]
theorem EnvR.wipe (h : EnvR K W H σ env) (vs : List Nat) : EnvR K W H (wipe σ vs) (wipeE env vs) := by
  refine ⟨by rw [wipe_length, wipeE_length, h.1], fun i d q => ?_⟩
  obtain ⟨q1, q2⟩ := wipeE_some q
  obtain ⟨v, h1, h2⟩ := h.2 i d q1
  exact ⟨v, by rw [wipe_get q2]; exact h1, h2⟩
theorem EnvR.set {i : Nat} {d : D} {v : V} (h : EnvR K W H σ env) (r : Rep K W H d v) : EnvR K W H (σ.set i (some v)) (env.set i (some d)) := by
  refine ⟨by simp [h.1], fun j e q => ?_⟩
  by_cases hj : i = j
  · subst hj
    by_cases hl : i < env.length
    · rw [List.getElem?_set_self hl] at q
      cases q
      exact ⟨v, List.getElem?_set_self (by rw [h.1]; exact hl), r⟩
    · rw [List.getElem?_eq_none (by simpa using hl)] at q; cases q
  · rw [List.getElem?_set_ne hj] at q
    obtain ⟨w, h1, h2⟩ := h.2 j e q
    exact ⟨w, by rw [List.getElem?_set_ne hj]; exact h1, h2⟩
end
theorem EnvR.setA {K : PySem.W.Frag} {W : Wd} {H : Hp} : ∀ {as : List (Nat × D)} {bs : List (Nat × V)} {σ : L2.St} {env : VE}, EnvR K W H σ env → AsR K W H as bs → EnvR K W H (setA σ bs) (setE env as)
  | [], bs, σ, env, h, g => by simp only [AsR] at g; subst g; exact h
  | (i, d) :: r, bs, σ, env, h, g => by
    simp only [AsR] at g
    obtain ⟨v, q, rfl, h1, h2⟩ := g
    show EnvR K W H (L2.Mir.setA (σ.set i (some v)) q) (setE (env.set i (some d)) r)
    exact EnvR.setA (h.set h1) h2
theorem wipe_set {vs : List Nat} : ∀ {i : Nat} {σ : L2.St} {o : Option V}, i ∈ vs → wipe (σ.set i o) vs = wipe σ vs := by
  have comm : ∀ (vs : List Nat) (σ : L2.St) (i : Nat) (o : Option V), i ∉ vs → wipe (σ.set i o) vs = (wipe σ vs).set i o := by
    intro vs
    induction vs with
    | nil => intro σ i o _; rfl
    | cons v vs ih =>
      intro σ i o h
      simp only [List.mem_cons, not_or] at h
      simp only [wipe]
      rw [ih σ i o h.2, List.set_comm _ _ h.1]
  induction vs with
  | nil => intro i σ o h; cases h
  | cons v vs ih =>
    intro i σ o h
    simp only [wipe]
    by_cases hi : i ∈ vs
    · rw [ih hi]
    · have e : i = v := (List.mem_cons.mp h).elim id fun z => absurd z hi
      subst e
      rw [comm vs σ i o hi, List.set_set]
theorem wipe_wipe {vs : List Nat} {σ : L2.St} : wipe (wipe σ vs) vs = wipe σ vs := by
  have key : ∀ (us : List Nat) (σ : L2.St), (∀ u ∈ us, u ∈ vs) → wipe (wipe σ us) vs = wipe σ vs := by
    intro us
    induction us with
    | nil => intro σ _; rfl
    | cons u us ih =>
      intro σ h
      simp only [wipe]
      rw [wipe_set (h u List.mem_cons_self), ih σ fun x hx => h x (List.mem_cons_of_mem _ hx)]
  exact key vs σ fun _ h => h
theorem wipe_setA {vs : List Nat} : ∀ {bs : List (Nat × V)} {σ : L2.St}, (∀ q ∈ bs, q.1 ∈ vs) → wipe (setA σ bs) vs = wipe σ vs
  | [], σ, _ => rfl
  | (i, v) :: r, σ, h => by
    simp only [setA]
    rw [wipe_setA fun q hq => h q (List.mem_cons_of_mem _ hq), wipe_set (h (i, v) List.mem_cons_self)]
mutual
theorem run_slots : ∀ {p : Pat} {d : D} {as : List (Nat × D)}, p.run d = some as → as.map (·.1) = p.slots
  | .n i, d, as, h => by simp only [Pat.run, Option.some.injEq] at h; subst h; rfl
  | .t ps, .tup ds, as, h => by simp only [Pat.run] at h; simp only [Pat.slots]; exact runs_slots h
  | .t _, .non, _, h => by simp [Pat.run] at h
  | .t _, .bl _, _, h => by simp [Pat.run] at h
  | .t _, .int _, _, h => by simp [Pat.run] at h
  | .t _, .str _, _, h => by simp [Pat.run] at h
  | .t _, .lst _, _, h => by simp [Pat.run] at h
  | .t _, .st, _, h => by simp [Pat.run] at h
  | .t _, .fn _, _, h => by simp [Pat.run] at h
  | .t _, .dic _ _, _, h => by simp [Pat.run] at h
  | .t _, .dicT _ _, _, h => by simp [Pat.run] at h
theorem runs_slots : ∀ {ps : List Pat} {ds : List D} {as : List (Nat × D)}, Pat.runs ps ds = some as → as.map (·.1) = Pat.slotss ps
  | [], [], as, h => by simp only [Pat.runs, Option.some.injEq] at h; subst h; rfl
  | [], _ :: _, _, h => by simp [Pat.runs] at h
  | _ :: _, [], _, h => by simp [Pat.runs] at h
  | p :: ps, d :: ds, as, h => by
    simp only [Pat.runs] at h
    split at h
    · rename_i a b qa qb
      simp only [Option.some.injEq] at h
      subst h
      simp only [List.map_append, Pat.slotss]
      rw [run_slots qa, runs_slots qb]
    · cases h
end
theorem AsR.slots {K : PySem.W.Frag} {W : Wd} {H : Hp} : ∀ {as : List (Nat × D)} {bs : List (Nat × V)}, AsR K W H as bs → bs.map (·.1) = as.map (·.1)
  | [], bs, h => by simp only [AsR] at h; subst h; rfl
  | (i, d) :: r, bs, h => by
    simp only [AsR] at h
    obtain ⟨v, q, rfl, _, h2⟩ := h
    simp [AsR.slots h2]

/-- a fresh list that no value leans on may change -/
theorem Mn.updFree {W : Wd} {H : Hp} {p : Addr} {o : HO} {xs : List V} (hp : H p = some (.lst xs)) (nf : ¬ W.F p) : Mn W H W (upd H p o) where
  tups := fun a ys h => by
    have ne : a ≠ p := fun e => by
      subst e
      rcases h with h | ⟨b, h⟩ <;> (rw [hp] at h; cases h)
    rcases h with h | ⟨b, h⟩
    · exact .inl (by rw [upd_ne ne]; exact h)
    · exact .inr ⟨b, by rw [upd_ne ne]; exact h⟩
  frs := fun a u f h => by
    have ne : a ≠ p := fun e => nf (e ▸ f)
    rw [upd_ne ne]; exact h
  fsub := fun _ h => h
  ssub := fun _ h => h
theorem WS.updFree {W : Wd} {H : Hp} {s : DS} {p : Addr} {o : HO} (h : WS W s H) (n : ¬ W.isS p) : WS W s (upd H p o) := by
  refine ⟨fun a f => dom_upd (h.1 a f), ?_⟩
  rcases h.2 with h | ⟨sa, ca, i, cells, h0, h00, h1, h2, h3, h4, h5⟩
  · exact .inl h
  · exact .inr ⟨sa, ca, i, cells, h0, h00, by rw [upd_ne fun e => n ⟨_, h0, .inl e.symm⟩]; exact h1, by rw [upd_ne fun e => n ⟨_, h0, .inr e.symm⟩]; exact h2, h3, h4, h5⟩
/-- .. as seen from a heap in which it was not yet there -/
theorem Ext.updFree {W W' : Wd} {H H' : Hp} {p : Addr} {o : HO} {xs : List V} (e : Ext W H W' H') (n : H p = none) : Ext W H W' (upd H' p o) where
  keep := fun a u h ns => by rw [upd_ne (ne_of_none h n)]; exact e.keep a u h ns
  tups := fun a ys h => by
    have ne : a ≠ p := by rcases h with h | ⟨b, h⟩ <;> exact ne_of_none h n
    rcases e.tups a ys h with q | ⟨b, q⟩
    · exact .inl (by rw [upd_ne ne]; exact q)
    · exact .inr ⟨b, by rw [upd_ne ne]; exact q⟩
  frs := fun a u f h => by rw [upd_ne (ne_of_none h n)]; exact e.frs a u f h
  dom := fun a h => by
    by_cases q : a = p
    · subst q; exact n
    · rw [upd_ne q] at h; exact e.dom a h
  fsub := e.fsub
  fnew := e.fnew
  ssub := e.ssub
  snew := e.snew
theorem Ext.addF {W W' : Wd} {H H' : Hp} {p : Addr} (e : Ext W H W' H') (n : H p = none) : Ext W H (W'.add p) H' where
  keep := e.keep
  tups := e.tups
  frs := e.frs
  dom := e.dom
  fsub := fun a h => .inl (e.fsub a h)
  fnew := fun a h => h.elim (e.fnew a) fun q => .inr (q ▸ n)
  ssub := e.ssub
  snew := e.snew
theorem WS.addF {W : Wd} {H : Hp} {s : DS} {p : Addr} {o : HO} (h : WS W s H) (hp : H p = some o) (n : ¬ W.isS p) : WS (W.add p) s H := by
  refine ⟨fun a f => f.elim (h.1 a) fun e => ⟨o, by rw [e]; exact hp⟩, ?_⟩
  rcases h.2 with h | ⟨sa, ca, i, cells, h0, h00, h1, h2, h3, h4, h5⟩
  · exact .inl h
  · exact .inr ⟨sa, ca, i, cells, h0, h00, h1, h2, h3, fun z => z.elim h4 fun e => n ⟨_, h0, .inl e.symm⟩, fun z => z.elim h5 fun e => n ⟨_, h0, .inr e.symm⟩⟩
theorem Mn.addF {W : Wd} {H : Hp} {p : Addr} : Mn W H (W.add p) H := ⟨fun _ _ h => h, fun _ _ _ h => h, fun _ h => .inl h, fun _ h => h⟩
/-- what is not tracked is neither frozen nor the state -/
theorem Ext.notS {W W' : Wd} {H H' : Hp} {p : Addr} {o : HO} (e : Ext W H W' H') (h : H p = some o) (n : ¬ W.isS p) : ¬ W'.isS p := e.isS h n
theorem Ext.notF {W W' : Wd} {H H' : Hp} {p : Addr} {o : HO} (e : Ext W H W' H') (h : H p = some o) (n : ¬ W.F p) : ¬ W'.F p := fun z => by
  rcases e.fnew p z with q | q
  · exact n q
  · rw [q] at h; cases h
/-- what is free is not the state -/
theorem WS.freeS {W : Wd} {H : Hp} {s : DS} {p : Addr} (h : WS W s H) (n : H p = none) : ¬ W.isS p := by
  rintro ⟨q, hq, hp⟩
  rcases h.2 with ⟨h, _⟩ | ⟨sa, ca, i, cells, h0, h00, h1, h2, h3, h4, h5⟩
  · rw [h] at hq; cases hq
  · rw [h0] at hq; cases hq
    rcases hp with rfl | rfl
    · rw [n] at h1; cases h1
    · rw [n] at h2; cases h2
theorem WS.freeF {W : Wd} {H : Hp} {s : DS} {p : Addr} (h : WS W s H) (n : H p = none) : ¬ W.F p := fun f => by
  obtain ⟨o, q⟩ := h.1 p f
  rw [n] at q; cases q

/-! ### the comprehension -/
section
variable {X : Cx} {G : Gx}
/-- the reading of a loop that fills the new list at L -/
theorem lc_read {p : Pat} {vs : List Nat} {tt : VE → M Bool} {te : VE → M D} {ds : List D} {σ : L2.St} {env : VE} {W : Wd} {H : Hp} {s : DS} {Q : VK} {J : It} {d0 : D} {v0 : V} {L : Addr}
    (hv : ∀ i ∈ p.slots, i ∈ vs) (hen : EnvR G.K W H σ env) (hs : WS W s H) (r0 : Rep G.K W H d0 v0) (F : Feed G.K J d0 v0 ds) (hz : ds.length ≤ sizeLine) (hL : H L = none) {all : List D} {sE : DS}
    (hgo : lcGo (lcF p tt te (wipeE env vs)) ds s = .ok all sE)
    (fin : ∀ W' H' us, Ext W H W' H' → WS W' sE H' → H' L = some (.lst us) → Reps G.K W' H' all us → ¬ W'.F L → ¬ W'.isS L → Q (.ref L) H') :
    ∃ Wm : Nat → Nat → Hp → Prop, (∃ m, Wm 0 m (upd H L (.lst []))) ∧ ∀ i m H, Wm i m H → (J.stop i H ∧ Q (.ref L) H) ∨ (J.go i H ∧ ∃ Nx : Hp → Prop, (∀ H', Nx H' → ∃ m', m' < m ∧ Wm (i + 1) m' H') ∧ ∀ x H', J.yld i H x H' → gP G.K p x (wipe σ vs) H' fun σ2 H2 => wipe σ2 vs = wipe σ vs ∧ tMT G tt σ2 H2 fun b H3 =>
      if b = true then tM G te σ2 H3 fun y H4 => ∃ acc, H4 L = some (.lst acc) ∧ acc.length < sizeLine ∧ Nx (upd H4 L (.lst (acc ++ [y]))) else Nx H3) := by
  have nS := hs.freeS hL
  have nF := hs.freeF hL
  let f := lcF p tt te (wipeE env vs)
  let P : Nat → Hp → Prop := fun i H' => ∃ W' s' acc us rem, Ext W H W' H' ∧ WS W' s' H' ∧ H' L = some (.lst us) ∧ Reps G.K W' H' acc us ∧ acc.length ≤ i ∧ ¬ W'.F L ∧ ¬ W'.isS L ∧
    lcGo f (ds.drop i) s' = .ok rem sE ∧ acc ++ rem = all
  refine ⟨fun i m H' => m = ds.length - i ∧ i ≤ ds.length ∧ P i H', ⟨_, rfl, Nat.zero_le _, W, s, [], [], all, Ext.new hL, WS.new hL hs, upd_same, by simp [Reps], by simp, nF, nS, by simpa using hgo, by simp⟩, ?_⟩
  rintro i m H1 ⟨rfl, hi, W1, s1, acc, us, rem, e1, ws1, hD, ra, la, nF1, nS1, h1, hall⟩
  have r1 := Rep.ext e1 _ _ r0
  obtain ⟨F1, F2⟩ := F W1 H1 r1
  by_cases hlt : i < ds.length
  · refine .inr ?_
    have hd : ds[i]? = some ds[i] := List.getElem?_eq_getElem hlt
    obtain ⟨go, yl⟩ := F1 i _ hd
    refine ⟨go, P (i + 1), fun H' q => ⟨ds.length - (i + 1), by omega, rfl, by omega, q⟩, fun x H2 hy => ?_⟩
    obtain ⟨e2, w2, rx⟩ := yl x H2 hy
    have ws2 := w2 s1 ws1
    rw [List.drop_eq_getElem_cons hlt] at h1
    simp only [lcGo] at h1
    have hen2 : EnvR G.K W1 H2 (wipe σ vs) (wipeE env vs) := ((hen.ext e1).ext e2).wipe vs
    -- one turn
    cases q1 : f ds[i] s1 with
    | no => rw [q1] at h1; cases h1
    | exc x' s' => rw [q1] at h1; cases h1
    | ok o s5 =>
      rw [q1] at h1
      simp only [bind_ok] at h1
      cases q7 : lcGo f (ds.drop (i + 1)) s5 with
      | no => rw [q7] at h1; cases h1
      | exc x' s' => rw [q7] at h1; cases h1
      | ok ys s6 =>
        rw [q7] at h1
        simp only [bind_ok, Res.ok.injEq] at h1
        obtain ⟨hrem, rfl⟩ := h1
        have q1' : lcF p tt te (wipeE env vs) ds[i] s1 = .ok o s5 := q1
        unfold lcF at q1'
        split at q1'
        · cases q1'
        · rename_i as qa
          refine ⟨W1, ds[i], as, rx, qa, fun bs hb => ⟨?_, ?_⟩⟩
          · rw [wipe_setA (fun q hq => hv _ ?_), wipe_wipe]
            have : q.1 ∈ bs.map (·.1) := List.mem_map_of_mem hq
            rw [hb.slots, run_slots qa] at this
            exact this
          · have hen3 := hen2.setA hb
            refine ⟨W1, _, s1, hen3, ws2, ?_⟩
            cases q2 : tt (setE (wipeE env vs) as) s1 with
            | no => rw [q2] at q1'; cases q1'
            | exc x' s' => rw [q2] at q1'; cases q1'
            | ok b s3 =>
              rw [q2] at q1'
              simp only [bind_ok] at q1'
              intro W3 H3 e3 ws3
              have hD3 : H3 L = some (.lst us) := e3.keep L _ (e2.keep L _ hD nS1) nS1
              have nS3 : ¬ W3.isS L := e3.isS (e2.keep L _ hD nS1) nS1
              have nF3 : ¬ W3.F L := e3.notF (e2.keep L _ hD nS1) nF1
              have ra3 := Reps.ext e3 _ _ (Reps.ext e2 _ _ ra)
              cases b with
              | true =>
                rw [if_pos rfl] at q1' ⊢
                cases q3 : te (setE (wipeE env vs) as) s3 with
                | no => rw [q3] at q1'; cases q1'
                | exc x' s' => rw [q3] at q1'; cases q1'
                | ok y s4 =>
                  rw [q3] at q1'
                  simp only [bind_ok, Res.ok.injEq] at q1'
                  obtain ⟨rfl, rfl⟩ := q1'
                  refine ⟨W3, _, s3, hen3.ext e3, ws3, ?_⟩
                  rw [q3]
                  intro W4 H4 v4 e4 ws4 r4
                  have hD4 := e4.keep L _ hD3 nS3
                  have nS4 := e4.isS hD3 nS3
                  have nF4 := e4.notF hD3 nF3
                  have ra4 := Reps.ext e4 _ _ ra3
                  have l4 := ra4.length
                  refine ⟨us, hD4, by omega, W4, s4, acc ++ [y], us ++ [v4], ys, ?_, ws4.updFree nS4, upd_same, ?_, by simp; omega, nF4, nS4, q7, by rw [← hall, ← hrem]; simp⟩
                  · exact Ext.updFree (xs := us) (((e1.trans e2).trans e3).trans e4) hL
                  · have m4 := Mn.updFree (o := .lst (us ++ [v4])) hD4 nF4
                    exact Reps.mn m4 _ _ (ra4.append (by simp only [Reps]; exact ⟨v4, [], rfl, r4, rfl⟩))
              | false =>
                rw [if_neg Bool.false_ne_true] at q1' ⊢
                simp only [Res.ok.injEq] at q1'
                obtain ⟨rfl, rfl⟩ := q1'
                exact ⟨W3, s3, acc, us, ys, (e1.trans e2).trans e3, ws3, hD3, ra3, by omega, nF3, nS3, q7, by rw [← hall, ← hrem]⟩
  · refine .inl ?_
    have e : i = ds.length := by omega
    subst e
    refine ⟨F2, ?_⟩
    rw [List.drop_length] at h1
    simp only [lcGo, Res.ok.injEq] at h1
    obtain ⟨rfl, rfl⟩ := h1
    rw [List.append_nil] at hall
    subst hall
    exact fin W1 H1 us e1 ws1 hD ra nF1 nS1
variable {elt tg iter : Expr} {ifs : List Expr} {scope : Scope} {own : List (Str × Nat)} {pos : Pos} {p : Pat} {mi : VE → M (List D)} {tt : VE → M Bool} {te : VE → M D}
theorem lc_tLc (hv : (p.slots.all fun i => (own.map (·.2)).contains i) = true) {σ : L2.St} {H : Hp} {Q : VK} (h : tM G (mLc p (own.map (·.2)) mi tt te) σ H Q) : tLc (tMI G mi) (gP G.K p) (tMT G tt) (tM G te) (own.map (·.2)) σ H Q := by
  obtain ⟨W, env, s, hen, hs, h⟩ := h
  refine ⟨W, env, s, hen, hs, ?_⟩
  unfold mLc at h
  cases q : mi env s with
  | no => rw [q] at h; exact h
  | exc x' s' => rw [q] at h; exact h
  | ok ds s1 =>
    rw [q] at h
    simp only [bind_ok] at h
    intro W1 H1 J d0 v0 e1 ws1 r0 F L hL
    split at h
    · rename_i hz
      cases q2 : lcGo (lcF p tt te (wipeE env (own.map (·.2)))) ds s1 with
      | no => rw [q2] at h; exact h.elim
      | exc x' s' => rw [q2] at h; exact h.elim
      | ok all sE =>
        rw [q2] at h
        refine lc_read (fun i hi => by simpa using List.all_eq_true.mp hv i hi) (hen.ext e1) ws1 r0 F hz hL q2 fun W' H' us e ws hD ra nF nS => ?_
        refine h (W'.add L) H' _ ((e1.trans e).addF (e1.dom L hL)) (ws.addF hD nS) ?_
        simp only [Rep]
        exact ⟨L, us, rfl, hD, .inr rfl, Reps.mn Mn.addF _ _ ra⟩
    · exact h.elim
theorem ee_lc (hc : X.calm = true) (hN : X.N.Nodup) (hi : EI X G tg iter mi) (ok : BlkOk X.N X.env.scope scope own)
    (hv : (p.slots.all fun i => (own.map (·.2)).contains i) = true)
    (hg : ∀ (s : Shared) (H : Hp) (C : Addr) (cl : List (Str × Addr)) (fp : List Addr), EG (X.blk s H scope (compEnvC scope cl C X.env) fp) G.K tg p) (ht : ∀ (s : Shared) (H : Hp) (C : Addr) (cl : List (Str × Addr)) (fp : List Addr), ETs (X.blk s H scope (compEnvC scope cl C X.env) fp) G ifs tt)
    (he : ∀ (s : Shared) (H : Hp) (C : Addr) (cl : List (Str × Addr)) (fp : List Addr), EE (X.blk s H scope (compEnvC scope cl C X.env) fp) G elt te) (hs : ∀ x, foldedSetIterable iter X.env x = pure x := by intro _; rfl) :
    EE X G (.ListComp elt [⟨tg, iter, ifs, 0⟩] scope pos) (mLc p (own.map (·.2)) mi tt te) :=
  pe_imp (pe_lc hc hN hi ok hg ht he hs) fun _ _ _ h => lc_tLc hv h
end

/-! ### a fresh list, not yet frozen -/
def AftF (G : Gx) (W : Wd) (H : Hp) (r : Res D) (Q : VK) : Prop := match r with
  | .ok (.lst ds) s' => ∀ W' H' p vs, Ext W H W' H' → WS W' s' H' → H p = none → H' p = some (.lst vs) → Reps G.K W' H' ds vs → ¬ W'.F p → ¬ W'.isS p → Q (.ref p) H'
  | .ok _ _ => False
  | .exc x s' => ∀ W' H' c dd, Ext W H W' H' → WS W' s' H' → G.xr G.K x c dd H' → G.E c dd H'
  | .no => False
theorem AftF.ext {G : Gx} {W W' : Wd} {H H' : Hp} {r : Res D} {Q : VK} (e : Ext W H W' H') (h : AftF G W H r Q) : AftF G W' H' r Q := by
  cases r with
  | ok d s =>
    cases d with
    | lst ds => exact fun W2 H2 p vs e2 ws hp => h W2 H2 p vs (e.trans e2) ws (e.dom p hp)
    | _ => exact h
  | exc x s => exact fun W2 H2 c dd e2 ws rp => h W2 H2 c dd (e.trans e2) ws rp
  | no => exact h
def tMF (G : Gx) (m : VE → M D) : TE := fun σ H Q => ∃ W env s, EnvR G.K W H σ env ∧ WS W s H ∧ AftF G W H (m env s) Q
abbrev EF (X : Cx) (G : Gx) (e : Expr) (m : VE → M D) : Prop := PE X e (tMF G m)
theorem AftF.lst {G : Gx} {W : Wd} {H : Hp} {s : DS} {ds : List D} {vs : List V} {Q : VK} {p : Addr} (h : AftF G W H (.ok (.lst ds) s) Q) (hs : WS W s H) (r : Reps G.K W H ds vs) (n : H p = none) : Q (.ref p) (upd H p (.lst vs)) :=
  h W _ p vs (Ext.new n) (WS.new n hs) n upd_same (Reps.ext (Ext.new n) ds vs r) (hs.freeF n) (hs.freeS n)
theorem tML_bindF {G : Gx} {W : Wd} {H : Hp} {σ : L2.St} {env : VE} {s : DS} {m : VE → M (List D)} {f : List D → DS → Res D} {Q : VK} {R : List V → Hp → Prop} (he : EnvR G.K W H σ env) (hs : WS W s H) (h : AftF G W H ((m env s).bind f) Q)
    (k : ∀ W' H' vs ds s', Ext W H W' H' → EnvR G.K W' H' σ env → WS W' s' H' → Reps G.K W' H' ds vs → m env s = .ok ds s' → AftF G W' H' (f ds s') Q → R vs H') : tML G m σ H R := by
  refine ⟨W, env, s, he, hs, ?_⟩
  cases q : m env s with
  | ok d s' =>
    rw [q] at h
    exact fun W' H' v e ws rp => k W' H' v d s' e (he.ext e) ws rp q (AftF.ext e h)
  | exc x s' => rw [q] at h; exact h
  | no => rw [q] at h; exact h
theorem tM_bindF {G : Gx} {W : Wd} {H : Hp} {σ : L2.St} {env : VE} {s : DS} {m : VE → M D} {f : D → DS → Res D} {Q : VK} {R : VK} (he : EnvR G.K W H σ env) (hs : WS W s H) (h : AftF G W H ((m env s).bind f) Q)
    (k : ∀ W' H' vs ds s', Ext W H W' H' → EnvR G.K W' H' σ env → WS W' s' H' → Rep G.K W' H' ds vs → m env s = .ok ds s' → AftF G W' H' (f ds s') Q → R vs H') : tM G m σ H R := by
  refine ⟨W, env, s, he, hs, ?_⟩
  cases q : m env s with
  | ok d s' =>
    rw [q] at h
    exact fun W' H' v e ws rp => k W' H' v d s' e (he.ext e) ws rp q (AftF.ext e h)
  | exc x s' => rw [q] at h; exact h
  | no => rw [q] at h; exact h
section
variable {X : Cx} {G : Gx} {a b e : Expr} {ma mb : VE → M D} {es : List Expr} {ml : VE → M (List D)} {pos : Pos}
theorem ef_lst {n : Nat} (h : EA X G es ml) (hl : LenM ml n) (hn : n ≤ 1000 := by decide) : EF X G (.List es pos) (mLst ml) :=
  pe_imp (pe_lst h) fun σ H Q h => by
    obtain ⟨W, env, s, hen, hs, h⟩ := h
    exact tML_bindF hen hs h fun W1 H1 vs ds s1 e1 he1 hs1 rs q h1 => ⟨by rw [rs.length, hl _ _ _ _ q]; exact small hn, fun p hp => h1.lst hs1 rs hp⟩
theorem ef_mul (ha : EE X G a ma) (hb : EE X G b mb) : EF X G (.BinOp a .Mult b pos) (mBin opMul ma mb) :=
  pe_imp (pe_op op_rep ha hb) fun σ H Q h => by
    obtain ⟨W, env, s, hen, hs, h⟩ := h
    refine tM_bindF hen hs h fun W1 H1 v x s1 e1 he1 hs1 rx _ h1 => ?_
    refine tM_bindF he1 hs1 h1 fun W2 H2 u y s2 e2 he2 hs2 ry _ h2 => ?_
    unfold opMul at h2
    split at h2
    · split at h2 <;> exact h2.elim
    · split at h2
      · rename_i hz
        obtain ⟨p, vs, rfl, g1, f1, r1⟩ := rep_lst (Rep.ext e2 _ _ rx)
        have l1 := r1.length
        exact ⟨p, _, vs, rfl, rep_int ry, g1, by have := hz.1.1; omega, by have := hz.1.2; omega, by rw [l1]; exact hz.2, fun p' hp => h2.lst hs2 (r1.rep _) hp⟩
      · exact h2.elim
    · exact h2.elim
theorem ef_add (ha : EE X G a ma) (hb : EE X G b mb) : EF X G (.BinOp a .Add b pos) (mBin opAdd ma mb) :=
  pe_imp (pe_op op_cat ha hb) fun σ H Q h => by
    obtain ⟨W, env, s, hen, hs, h⟩ := h
    refine tM_bindF hen hs h fun W1 H1 v x s1 e1 he1 hs1 rx _ h1 => ?_
    refine tM_bindF he1 hs1 h1 fun W2 H2 u y s2 e2 he2 hs2 ry _ h2 => ?_
    unfold opAdd at h2
    split at h2
    · exact h2.elim
    · split at h2 <;> exact h2.elim
    · split at h2
      · exact h2.elim
      · exact h2.elim
    · split at h2
      · rename_i hz
        have hz := hz.le
        obtain ⟨p, vs, rfl, g1, f1, r1⟩ := rep_lst (Rep.ext e2 _ _ rx)
        obtain ⟨q, us, rfl, g2, f2, r2⟩ := rep_lst ry
        have l1 := r1.length
        have l2 := r2.length
        exact ⟨p, q, vs, us, rfl, rfl, g1, g2, by omega, fun p' hp => h2.lst hs2 (r1.append r2) hp⟩
      · exact h2.elim
    · exact h2.elim
theorem ef_list {x : Str} {p : Pos} (hK : X.K = G.K) (hm : X.mg x = none) (hv : bootBuiltins x = some (.type "list")) (ha : EA X G (e :: es) ml) (hg : Gl X x := by rfl)
    (hn : x ≠ "__name__" := by decide) (hdb : (x == ("__debug__" : Str)) = false := by decide) (he : starEach (e :: es) X.env = (false, eval e X.env) :: starEach es X.env := by rfl) (hpl : (backTo pos (starEach es X.env)).any (·.1) = false := by rfl) :
    EF X G (.Call (.Name x p) (e :: es) [] pos) (mCB bList ml) :=
  pe_imp (pe_callTy call_list_of hg hm hv ha hn hdb he hpl) fun σ H Q h => by
    obtain ⟨W, env, s, hen, hs, h⟩ := h
    refine tML_bindF hen hs h fun W1 H1 vs ds s1 e1 he1 hs1 rs q h1 => ?_
    unfold bList at h1
    split at h1
    · obtain ⟨v, rfl, r⟩ := rs.one
      obtain ⟨a, us, rfl, g1, r1⟩ := rep_tup r
      exact ⟨a, us, rfl, .inr (hK ▸ g1), fun l hl => h1.lst hs1 r1 hl⟩
    · obtain ⟨v, rfl, r⟩ := rs.one
      obtain ⟨a, us, rfl, g1, _, r1⟩ := rep_lst r
      exact ⟨a, us, rfl, .inl (.inl (.inl g1)), fun l hl => h1.lst hs1 r1 hl⟩
    · exact h1.elim
theorem ef_slL {lo hi : Option Expr} {ml mh : MP} {p2 : Pos} (ha : EE X G a ma) (hl : EP' X G lo ml) (hh : EP' X G hi mh) : EF X G (.Subscript a (.Slice lo hi none p2) pos) (mSl ma ml mh) :=
  pe_imp (pe_slice sl_list ha hl hh) fun σ H Q h => by
    obtain ⟨W, env, s, hen, hs, h⟩ := h
    refine tM_bindF hen hs h fun W1 H1 v x s1 e1 he1 hs1 rx _ h1 => ?_
    refine ⟨W1, env, s1, he1, hs1, ?_⟩
    cases q : ml env s1 with
    | ok l s2 =>
      rw [q] at h1
      intro W2 H2 e2 ws2
      have h2 := AftF.ext e2 h1
      simp only [bind_ok] at h2
      refine ⟨W2, env, s2, he1.ext e2, ws2, ?_⟩
      cases q2 : mh env s2 with
      | ok u s3 =>
        rw [q2] at h2
        intro W3 H3 e3 ws3
        have h3 := AftF.ext e3 h2
        simp only [bind_ok] at h3
        have rx3 := Rep.ext e3 _ _ (Rep.ext e2 _ _ rx)
        unfold opSl at h3
        split at h3
        · obtain ⟨p, vs, rfl, g1, _, r1⟩ := rep_lst rx3
          exact ⟨p, vs, rfl, .inl (.inl g1), fun p' hp => h3.lst ws3 (r1.cut l u) hp⟩
        · split at h3 <;> exact h3.elim
        · split at h3 <;> exact h3.elim
        · exact h3.elim
      | exc x s' => rw [q2] at h2; exact h2
      | no => rw [q2] at h2; exact h2
    | exc x s' => rw [q] at h1; exact h1
    | no => rw [q] at h1; exact h1
variable {elt tg iter : Expr} {ifs : List Expr} {scope : Scope} {own : List (Str × Nat)} {p : Pat} {mi : VE → M (List D)} {tt : VE → M Bool} {te : VE → M D}
theorem lc_tLcF (hv : (p.slots.all fun i => (own.map (·.2)).contains i) = true) {σ : L2.St} {H : Hp} {Q : VK} (h : tMF G (mLc p (own.map (·.2)) mi tt te) σ H Q) : tLc (tMI G mi) (gP G.K p) (tMT G tt) (tM G te) (own.map (·.2)) σ H Q := by
  obtain ⟨W, env, s, hen, hs, h⟩ := h
  refine ⟨W, env, s, hen, hs, ?_⟩
  unfold mLc at h
  cases q : mi env s with
  | no => rw [q] at h; exact h
  | exc x' s' => rw [q] at h; exact h
  | ok ds s1 =>
    rw [q] at h
    simp only [bind_ok] at h
    intro W1 H1 J d0 v0 e1 ws1 r0 F L hL
    split at h
    · rename_i hz
      cases q2 : lcGo (lcF p tt te (wipeE env (own.map (·.2)))) ds s1 with
      | no => rw [q2] at h; exact h.elim
      | exc x' s' => rw [q2] at h; exact h.elim
      | ok all sE =>
        rw [q2] at h
        exact lc_read (fun i hi => by simpa using List.all_eq_true.mp hv i hi) (hen.ext e1) ws1 r0 F hz hL q2 fun W' H' us e ws hD ra nF nS => h W' H' L us (e1.trans e) ws (e1.dom L hL) hD ra nF nS
    · exact h.elim
end
end
end L2.Mir

set_option Elab.async false
set_option linter.all false
set_option maxRecDepth 100000
namespace L2.Mir
open PySem PySem.Spec PyProof.Rows
noncomputable section

/-- a slot: nothing, a value, a list that is the slot's own (to be changed) -/
inductive Sl where
  | no | val (d : D) | own (ds : List D)
abbrev SE := List Sl
@[simp] def Sl.hide : Sl → Option D
  | .val d => some d
  | _ => none
@[simp] def Sl.view : Sl → Option D
  | .val d => some d
  | .own ds => some (.lst ds)
  | .no => none
@[simp] def hideE (env : SE) : VE := env.map Sl.hide
@[simp] def viewE (env : SE) : VE := env.map Sl.view
inductive Fl where
  | nx (env : SE) | rt (d : D) | bk (env : SE) | ct (env : SE)
abbrev MS := SE → DS → Res Fl
mutual
/-- no list within -/
@[simp] def D.flat : D → Bool
  | .tup ds => D.flats ds
  | .lst _ => false
  | .dic _ _ => false
  | .dicT _ _ => false
  | _ => true
@[simp] def D.flats : List D → Bool
  | [] => true
  | d :: ds => D.flat d && D.flats ds
end
/-- the slot's own list's place -/
def OwnAt (env : SE) (σ : L2.St) (p : Addr) : Prop := ∃ (i : Nat) (ds : List D), env[i]? = some (.own ds) ∧ σ[i]? = some (some (.ref p))
structure StOk (K : PySem.W.Frag) (H0 : Hp) (W0 : Wd) (pins : List (D × V)) (W : Wd) (H : Hp) (σ : L2.St) (env : SE) (s : DS) : Prop where
  len : σ.length = env.length
  val : ∀ (i : Nat) (d : D), env[i]? = some (.val d) → ∃ v, σ[i]? = some (some v) ∧ Rep K W H d v
  own : ∀ (i : Nat) (ds : List D), env[i]? = some (.own ds) → ∃ p vs, σ[i]? = some (some (.ref p)) ∧ H p = some (.lst vs) ∧ Reps K W H ds vs ∧ ¬ W.F p ∧ ¬ W.isS p ∧ H0 p = none
  dist : ∀ (i j : Nat) (ds es : List D) (p : Addr), i ≠ j → env[i]? = some (.own ds) → env[j]? = some (.own es) → σ[i]? = some (some (.ref p)) → σ[j]? ≠ some (some (.ref p))
  ext : Ext W0 H0 W H
  ws : WS W s H
  pin : ∀ q ∈ pins, Rep K W H q.1 q.2

section
variable {K : PySem.W.Frag} {H0 : Hp} {W0 : Wd} {pins : List (D × V)} {W W' : Wd} {H H' : Hp} {σ : L2.St} {env : SE} {s s' : DS}
theorem StOk.hid (h : StOk K H0 W0 pins W H σ env s) : EnvR K W H σ (hideE env) := by
  refine ⟨by rw [h.len]; simp [hideE], fun i d q => ?_⟩
  unfold hideE at q
  rw [List.getElem?_map] at q
  cases q1 : env[i]? with
  | none => rw [q1] at q; cases q
  | some sl =>
    rw [q1] at q
    cases sl with
    | val e =>
      simp only [Option.map_some, Sl.hide, Option.some.injEq] at q
      subst q
      exact h.val i e q1
    | no => simp [Sl.hide] at q
    | own ds => simp [Sl.hide] at q
/-- behind an expression -/
theorem StOk.after (h : StOk K H0 W0 pins W H σ env s) (e : Ext W H W' H') (ws : WS W' s' H') : StOk K H0 W0 pins W' H' σ env s' where
  len := h.len
  val := fun i d q => let ⟨v, h1, h2⟩ := h.val i d q; ⟨v, h1, h2.ext e d v⟩
  own := fun i ds q => let ⟨p, vs, h1, h2, h3, h4, h5, h6⟩ := h.own i ds q; ⟨p, vs, h1, e.keep p _ h2 h5, h3.ext e ds vs, e.notF h2 h4, e.isS h2 h5, h6⟩
  dist := h.dist
  ext := h.ext.trans e
  ws := ws
  pin := fun q hq => (h.pin q hq).ext e _ _
theorem StOk.pins_of {pins' : List (D × V)} (h : StOk K H0 W0 pins W H σ env s) (hp : ∀ q ∈ pins', Rep K W H q.1 q.2) : StOk K H0 W0 pins' W H σ env s := ⟨h.len, h.val, h.own, h.dist, h.ext, h.ws, hp⟩
/-- a slot gets a value -/
theorem StOk.set {i : Nat} {d : D} {v : V} (h : StOk K H0 W0 pins W H σ env s) (r : Rep K W H d v) : StOk K H0 W0 pins W H (σ.set i (some v)) (env.set i (.val d)) s where
  len := by simp [h.len]
  val := fun j e q => by
    by_cases hj : i = j
    · subst hj
      by_cases hl : i < env.length
      · rw [List.getElem?_set_self hl] at q
        cases q
        exact ⟨v, List.getElem?_set_self (by rw [h.len]; exact hl), r⟩
      · rw [List.getElem?_eq_none (by simpa using hl)] at q; cases q
    · rw [List.getElem?_set_ne hj] at q
      rw [List.getElem?_set_ne hj]
      exact h.val j e q
  own := fun j es q => by
    by_cases hj : i = j
    · subst hj
      by_cases hl : i < env.length
      · rw [List.getElem?_set_self hl] at q; cases q
      · rw [List.getElem?_eq_none (by simpa using hl)] at q; cases q
    · rw [List.getElem?_set_ne hj] at q
      rw [List.getElem?_set_ne hj]
      exact h.own j es q
  dist := fun j k ds es p hjk q1 q2 q3 => by
    have n1 : i ≠ j := fun e => by
      subst e
      by_cases hl : i < env.length
      · rw [List.getElem?_set_self hl] at q1; cases q1
      · rw [List.getElem?_eq_none (by simpa using hl)] at q1; cases q1
    have n2 : i ≠ k := fun e => by
      subst e
      by_cases hl : i < env.length
      · rw [List.getElem?_set_self hl] at q2; cases q2
      · rw [List.getElem?_eq_none (by simpa using hl)] at q2; cases q2
    rw [List.getElem?_set_ne n1] at q1 q3
    rw [List.getElem?_set_ne n2] at q2 ⊢
    exact h.dist j k ds es p hjk q1 q2 q3
  ext := h.ext
  ws := h.ws
  pin := h.pin
/-- a slot gets a fresh list of its own -/
theorem StOk.setOwn {i : Nat} {ds : List D} {p : Addr} {vs : List V} (h : StOk K H0 W0 pins W H σ env s) (hp : H p = some (.lst vs)) (r : Reps K W H ds vs) (nF : ¬ W.F p) (nS : ¬ W.isS p) (n0 : H0 p = none)
    (nw : ∀ (j : Nat) (es : List D), j ≠ i → env[j]? = some (.own es) → σ[j]? ≠ some (some (.ref p))) : StOk K H0 W0 pins W H (σ.set i (some (.ref p))) (env.set i (.own ds)) s where
  len := by simp [h.len]
  val := fun j e q => by
    by_cases hj : i = j
    · subst hj
      by_cases hl : i < env.length
      · rw [List.getElem?_set_self hl] at q; cases q
      · rw [List.getElem?_eq_none (by simpa using hl)] at q; cases q
    · rw [List.getElem?_set_ne hj] at q
      rw [List.getElem?_set_ne hj]
      exact h.val j e q
  own := fun j es q => by
    by_cases hj : i = j
    · subst hj
      by_cases hl : i < env.length
      · rw [List.getElem?_set_self hl] at q
        cases q
        exact ⟨p, vs, List.getElem?_set_self (by rw [h.len]; exact hl), hp, r, nF, nS, n0⟩
      · rw [List.getElem?_eq_none (by simpa using hl)] at q; cases q
    · rw [List.getElem?_set_ne hj] at q
      rw [List.getElem?_set_ne hj]
      exact h.own j es q
  dist := fun j k d1 d2 p' hjk q1 q2 q3 => by
    by_cases hj : i = j
    · subst hj
      rw [List.getElem?_set_ne hjk] at q2 ⊢
      by_cases hl : i < σ.length
      · rw [List.getElem?_set_self hl] at q3
        cases q3
        exact nw k d2 (fun e => hjk e.symm) q2
      · rw [List.getElem?_eq_none (by simpa using hl)] at q3; cases q3
    · rw [List.getElem?_set_ne hj] at q1 q3
      by_cases hk : i = k
      · subst hk
        by_cases hl : i < σ.length
        · rw [List.getElem?_set_self hl]
          intro z
          cases z
          exact nw j d1 (fun e => hj e.symm) q1 q3
        · rw [List.getElem?_eq_none (by simpa using hl)]; intro z; cases z
      · rw [List.getElem?_set_ne hk] at q2 ⊢
        exact h.dist j k d1 d2 p' hjk q1 q2 q3
  ext := h.ext
  ws := h.ws
  pin := h.pin
/-- the slot's own list changes -/
theorem StOk.mut {i : Nat} {ds ds' : List D} {p : Addr} {vs vs' : List V} (h : StOk K H0 W0 pins W H σ env s) (hi : env[i]? = some (.own ds)) (hσ : σ[i]? = some (some (.ref p))) (hp : H p = some (.lst vs)) (r : Reps K W H ds' vs') :
    StOk K H0 W0 pins W (upd H p (.lst vs')) σ (env.set i (.own ds')) s := by
  obtain ⟨p', vs0, e1, e2, e3, nF, nS, n0⟩ := h.own i ds hi
  rw [hσ] at e1
  cases e1
  have m : Mn W H W (upd H p (.lst vs')) := Mn.updFree hp nF
  have hil : i < env.length := (List.getElem?_eq_some_iff.mp hi).1
  refine ⟨by simp [h.len], fun j e q => ?_, fun j es q => ?_, fun j k d1 d2 p' hjk q1 q2 q3 => ?_, Ext.updFree (xs := vs) h.ext n0, h.ws.updFree nS, fun q hq => Rep.mn m _ _ (h.pin q hq)⟩
  · by_cases hj : i = j
    · subst hj
      rw [List.getElem?_set_self hil] at q; cases q
    · rw [List.getElem?_set_ne hj] at q
      obtain ⟨v, h1, h2⟩ := h.val j e q
      exact ⟨v, h1, Rep.mn m _ _ h2⟩
  · by_cases hj : i = j
    · subst hj
      rw [List.getElem?_set_self hil] at q
      cases q
      exact ⟨p, vs', hσ, upd_same, Reps.mn m _ _ r, nF, nS, n0⟩
    · rw [List.getElem?_set_ne hj] at q
      obtain ⟨p1, us, h1, h2, h3, h4, h5, h6⟩ := h.own j es q
      have ne : p1 ≠ p := fun e => by
        subst e
        exact h.dist i j ds es p1 hj hi q hσ h1
      exact ⟨p1, us, h1, by rw [upd_ne ne]; exact h2, Reps.mn m _ _ h3, h4, h5, h6⟩
  · by_cases hj : i = j
    · subst hj
      rw [List.getElem?_set_ne hjk] at q2
      exact h.dist i k ds d2 p' hjk hi q2 q3
    · rw [List.getElem?_set_ne hj] at q1
      by_cases hk : i = k
      · subst hk
        exact h.dist j i d1 ds p' hjk q1 hi q3
      · rw [List.getElem?_set_ne hk] at q2
        exact h.dist j k d1 d2 p' hjk q1 q2 q3

/-! ### the own lists seen for a while -/
def Wd.see (W : Wd) (env : SE) (σ : L2.St) : Wd := ⟨fun a => W.F a ∨ OwnAt env σ a, W.S⟩
def Wd.unsee (W : Wd) (env : SE) (σ : L2.St) : Wd := ⟨fun a => W.F a ∧ ¬ OwnAt env σ a, W.S⟩
theorem StOk.ownAt (h : StOk K H0 W0 pins W H σ env s) {p : Addr} (o : OwnAt env σ p) : (∃ vs, H p = some (.lst vs)) ∧ ¬ W.F p ∧ ¬ W.isS p ∧ H0 p = none := by
  obtain ⟨i, ds, h1, h2⟩ := o
  obtain ⟨p', vs, e1, e2, e3, e4, e5, e6⟩ := h.own i ds h1
  rw [h2] at e1
  cases e1
  exact ⟨⟨vs, e2⟩, e4, e5, e6⟩
theorem StOk.seeMn (h : StOk K H0 W0 pins W H σ env s) : Mn W H (W.see env σ) H := ⟨fun _ _ h => h, fun _ _ _ h => h, fun _ h => .inl h, fun _ h => h⟩
theorem StOk.seeWS (h : StOk K H0 W0 pins W H σ env s) : WS (W.see env σ) s H := by
  refine ⟨fun a f => f.elim (h.ws.1 a) fun o => let ⟨⟨vs, q⟩, _⟩ := h.ownAt o; ⟨_, q⟩, ?_⟩
  rcases h.ws.2 with g | ⟨sa, ca, i, cells, h0, h00, h1, h2, h3, h4, h5⟩
  · exact .inl g
  · exact .inr ⟨sa, ca, i, cells, h0, h00, h1, h2, h3, fun z => z.elim h4 fun o => (h.ownAt o).2.2.1 ⟨_, h0, .inl rfl⟩, fun z => z.elim h5 fun o => (h.ownAt o).2.2.1 ⟨_, h0, .inr rfl⟩⟩
theorem StOk.seen (h : StOk K H0 W0 pins W H σ env s) : EnvR K (W.see env σ) H σ (viewE env) := by
  refine ⟨by rw [h.len]; simp [viewE], fun i d q => ?_⟩
  unfold viewE at q
  rw [List.getElem?_map] at q
  cases q1 : env[i]? with
  | none => rw [q1] at q; cases q
  | some sl =>
    rw [q1] at q
    cases sl with
    | val e =>
      simp only [Option.map_some, Sl.view, Option.some.injEq] at q
      subst q
      obtain ⟨v, h1, h2⟩ := h.val i e q1
      exact ⟨v, h1, Rep.mn h.seeMn _ _ h2⟩
    | no => simp [Sl.view] at q
    | own ds =>
      simp only [Option.map_some, Sl.view, Option.some.injEq] at q
      subst q
      obtain ⟨p, vs, h1, h2, h3, h4, h5, h6⟩ := h.own i ds q1
      exact ⟨_, h1, by simp only [Rep]; exact ⟨p, vs, rfl, h2, .inr ⟨i, ds, q1, h1⟩, Reps.mn h.seeMn _ _ h3⟩⟩
/-- forgotten again -/
theorem StOk.unseeExt (h : StOk K H0 W0 pins W H σ env s) (e : Ext (W.see env σ) H W' H') : Ext W H (W'.unsee env σ) H' where
  keep := e.keep
  tups := e.tups
  frs := fun a o f q => e.frs a o (.inl f) q
  dom := e.dom
  fsub := fun a f => ⟨e.fsub a (.inl f), fun o => (h.ownAt o).2.1 f⟩
  fnew := fun a f => by
    rcases e.fnew a f.1 with (q | q) | q
    · exact .inl q
    · exact absurd q f.2
    · exact .inr q
  ssub := e.ssub
  snew := e.snew
theorem unseeWS (ws : WS W s H) : WS (W.unsee env σ) s H := by
  refine ⟨fun a f => ws.1 a f.1, ?_⟩
  rcases ws.2 with g | ⟨sa, ca, i, cells, h0, h00, h1, h2, h3, h4, h5⟩
  · exact .inl g
  · exact .inr ⟨sa, ca, i, cells, h0, h00, h1, h2, h3, fun z => h4 z.1, fun z => h5 z.1⟩
mutual
theorem Rep.flatW : ∀ (d : D) (v : V), d.flat = true → (∀ p, W.S = some p → W'.S = some p) → Rep K W H d v → Rep K W' H d v
  | .non, _, _, _, h => by simpa [Rep] using h
  | .bl _, _, _, _, h => by simpa [Rep] using h
  | .int _, _, _, _, h => by simpa [Rep] using h
  | .str _, _, _, _, h => by simpa [Rep] using h
  | .tup ds, _, f, hS, h => by
    simp only [Rep] at h ⊢
    obtain ⟨a, vs, rfl, hs, hr⟩ := h
    exact ⟨a, vs, rfl, hs, Reps.flatW ds vs (by simpa [D.flat] using f) hS hr⟩
  | .lst ds, _, f, _, _ => by simp [D.flat] at f
  | .fn _, _, _, _, h => by simpa [Rep] using h
  | .st, _, _, hS, h => by
    simp only [Rep] at h ⊢
    obtain ⟨p, hp, rfl⟩ := h
    exact ⟨p, hS p hp, rfl⟩
  | .dic ks ds, _, f, _, _ => by simp [D.flat] at f
  | .dicT ks ds, _, f, _, _ => by simp [D.flat] at f
theorem Reps.flatW : ∀ (ds : List D) (vs : List V), D.flats ds = true → (∀ p, W.S = some p → W'.S = some p) → Reps K W H ds vs → Reps K W' H ds vs
  | [], _, _, _, h => by simpa [Reps] using h
  | d :: ds, _, f, hS, h => by
    simp only [Reps] at h ⊢
    simp only [D.flats, Bool.and_eq_true] at f
    obtain ⟨v, r, rfl, h1, h2⟩ := h
    exact ⟨v, r, rfl, Rep.flatW d v f.1 hS h1, Reps.flatW ds r f.2 hS h2⟩
end
/-- at a def's end all may be frozen -/
theorem StOk.seeExt0 (h : StOk K H0 W0 pins W H σ env s) : Ext W0 H0 (W.see env σ) H where
  keep := h.ext.keep
  tups := h.ext.tups
  frs := h.ext.frs
  dom := h.ext.dom
  fsub := fun a f => .inl (h.ext.fsub a f)
  fnew := fun a f => f.elim (h.ext.fnew a) fun o => .inr (h.ownAt o).2.2.2
  ssub := h.ext.ssub
  snew := h.ext.snew
end

/-! ### what is wanted behind a statement -/
def AftS (G : Gx) (H0 : Hp) (W0 : Wd) (pins : List (D × V)) (r : Res Fl) (Dn : Ends) : Prop := match r with
  | .ok (.nx env) s => ∀ W H σ, StOk G.K H0 W0 pins W H σ env s → Dn.nx σ H
  | .ok (.bk env) s => ∀ W H σ, StOk G.K H0 W0 pins W H σ env s → Dn.bk σ H
  | .ok (.ct env) s => ∀ W H σ, StOk G.K H0 W0 pins W H σ env s → Dn.ct σ H
  | .ok (.rt d) s => ∀ W H v, Ext W0 H0 W H → WS W s H → Rep G.K W H d v → Dn.rt v H
  | .exc x s => ∀ W H c dd, Ext W0 H0 W H → WS W s H → G.xr G.K x c dd H → G.E c dd H
  | .no => False
def tMS (G : Gx) (m : MS) : TS := fun Dn σ H => ∃ H0 W0 pins W env s, StOk G.K H0 W0 pins W H σ env s ∧ AftS G H0 W0 pins (m env s) Dn
abbrev ES (X : Cx) (G : Gx) (st : Stmt) (m : MS) : Prop := PS X st (tMS G m)
abbrev ESs (X : Cx) (G : Gx) (st : List Stmt) (m : MS) : Prop := PSs X st (tMS G m)
theorem ps_imp {X : Cx} {st : Stmt} {t t' : TS} (h : PS X st t) (i : ∀ D σ H, t' D σ H → t D σ H) : PS X st t' := ⟨fun pins s σ H D I q => h.run pins s σ H D I (i D σ H q)⟩
theorem pss_imp {X : Cx} {st : List Stmt} {t t' : TS} (h : PSs X st t) (i : ∀ D σ H, t' D σ H → t D σ H) : PSs X st t' := ⟨fun pins s σ H D I q => h.run pins s σ H D I (i D σ H q)⟩
section
variable {X : Cx} {G : Gx} {st : Stmt} {rest : List Stmt} {m m1 m2 : MS} {e c : Expr} {me : VE → M D} {mt : VE → M Bool} {pos : Pos}
@[simp] def sNx : MS := fun env s => .ok (.nx env) s
@[simp] def sSeq (m1 m2 : MS) : MS := fun env s => (m1 env s).bind fun fl s => match fl with
  | .nx env' => m2 env' s
  | fl => .ok fl s
theorem es_nil : ESs X G [] sNx := pss_imp pss_nil fun D σ H h => by
  obtain ⟨H0, W0, pins, W, env, s, ok, h⟩ := h
  exact h W H σ ok
theorem es_cons (h1 : ES X G st m1) (h2 : ESs X G rest m2) : ESs X G (st :: rest) (sSeq m1 m2) := pss_imp (pss_cons h1 h2) fun D σ H h => by
  obtain ⟨H0, W0, pins, W, env, s, ok, h⟩ := h
  refine ⟨H0, W0, pins, W, env, s, ok, ?_⟩
  unfold sSeq at h
  cases q : m1 env s with
  | ok fl s' =>
    rw [q] at h
    cases fl with
    | nx env' => exact fun W' H' σ' ok' => ⟨H0, W0, pins, W', env', s', ok', h⟩
    | rt d => exact h
    | bk env' => exact h
    | ct env' => exact h
  | exc x s' => rw [q] at h; exact h
  | no => rw [q] at h; exact h
theorem es_one (h1 : ES X G st m) : ESs X G [st] m := pss_one h1
theorem es_pass : ES X G (.Pass pos) sNx := ps_imp ps_pass fun D σ H h => by
  obtain ⟨H0, W0, pins, W, env, s, ok, h⟩ := h
  exact h W H σ ok
@[simp] def sBk : MS := fun env s => .ok (.bk env) s
@[simp] def sCt : MS := fun env s => .ok (.ct env) s
theorem es_break : ES X G (.Break pos) sBk := ps_imp ps_break fun D σ H h => by
  obtain ⟨H0, W0, pins, W, env, s, ok, h⟩ := h
  exact h W H σ ok
theorem es_cont : ES X G (.Continue pos) sCt := ps_imp ps_continue fun D σ H h => by
  obtain ⟨H0, W0, pins, W, env, s, ok, h⟩ := h
  exact h W H σ ok
theorem es_doc {x j p p'} : ES X G (.Expr (.Constant (.str x) j p) p') sNx := ps_imp ps_doc fun D σ H h => by
  obtain ⟨H0, W0, pins, W, env, s, ok, h⟩ := h
  exact h W H σ ok
/-- freeze a slot's own list, ahead of a statement -/
@[simp] def frz (env : SE) (i : Nat) : SE := match env[i]? with
  | some (.own ds) => env.set i (.val (.lst ds))
  | _ => env
theorem StOk.frz {K : PySem.W.Frag} {H0 : Hp} {W0 : Wd} {pins : List (D × V)} {W : Wd} {H : Hp} {σ : L2.St} {env : SE} {s : DS} (h : StOk K H0 W0 pins W H σ env s) (i : Nat) : ∃ W', StOk K H0 W0 pins W' H σ (L2.Mir.frz env i) s := by
  unfold L2.Mir.frz
  split
  · rename_i ds hi
    obtain ⟨p, vs, e1, e2, e3, nF, nS, n0⟩ := h.own i ds hi
    have m : Mn W H (W.add p) H := Mn.addF
    have hil : i < env.length := (List.getElem?_eq_some_iff.mp hi).1
    refine ⟨W.add p, by simp [h.len], fun j e q => ?_, fun j es q => ?_, fun j k d1 d2 p' hjk q1 q2 q3 => ?_, h.ext.addF n0, h.ws.addF e2 nS, fun q hq => Rep.mn m _ _ (h.pin q hq)⟩
    · by_cases hj : i = j
      · subst hj
        rw [List.getElem?_set_self hil] at q
        cases q
        exact ⟨_, e1, by simp only [Rep]; exact ⟨p, vs, rfl, e2, .inr rfl, Reps.mn m _ _ e3⟩⟩
      · rw [List.getElem?_set_ne hj] at q
        obtain ⟨v, h1, h2⟩ := h.val j e q
        exact ⟨v, h1, Rep.mn m _ _ h2⟩
    · by_cases hj : i = j
      · subst hj
        rw [List.getElem?_set_self hil] at q; cases q
      · rw [List.getElem?_set_ne hj] at q
        obtain ⟨p1, us, h1, h2, h3, h4, h5, h6⟩ := h.own j es q
        have ne : p1 ≠ p := fun e => by
          subst e
          exact h.dist i j ds es p1 hj hi q e1 h1
        exact ⟨p1, us, h1, h2, Reps.mn m _ _ h3, fun z => z.elim h4 ne, h5, h6⟩
    · by_cases hj : i = j
      · subst hj
        rw [List.getElem?_set_self hil] at q1; cases q1
      · by_cases hk : i = k
        · subst hk
          rw [List.getElem?_set_self hil] at q2; cases q2
        · rw [List.getElem?_set_ne hj] at q1
          rw [List.getElem?_set_ne hk] at q2
          exact h.dist j k d1 d2 p' hjk q1 q2 q3
  · exact ⟨W, h⟩
@[simp] def sFrz (i : Nat) (m : MS) : MS := fun env s => m (frz env i) s
theorem es_frz (i : Nat) (h : ES X G st m) : ES X G st (sFrz i m) := ps_imp h fun D σ H h => by
  obtain ⟨H0, W0, pins, W, env, s, ok, h⟩ := h
  obtain ⟨W', ok'⟩ := ok.frz i
  exact ⟨H0, W0, pins, W', _, s, ok', h⟩

/-! ### an expression in a statement -/
/-- v: own lists are seen for the while, the answer then holds no list -/
@[simp] def exq (v : Bool) (m : VE → M D) : SE → M D := fun env s => if v = true then (m (viewE env) s).bind fun d s => if d.flat = true then .ok d s else .no else m (hideE env) s
theorem ex_read {v : Bool} {H0 : Hp} {W0 : Wd} {pins : List (D × V)} {W : Wd} {H : Hp} {σ : L2.St} {env : SE} {s : DS} {f : D → DS → Res Fl} {Dn : Ends} {R : VK} (ok : StOk G.K H0 W0 pins W H σ env s) (h : AftS G H0 W0 pins ((exq v me env s).bind f) Dn)
    (k : ∀ W' H' u d s', Ext W H W' H' → StOk G.K H0 W0 pins W' H' σ env s' → Rep G.K W' H' d u → exq v me env s = .ok d s' → AftS G H0 W0 pins (f d s') Dn → R u H') : tM G me σ H R := by
  cases v with
  | false =>
    refine ⟨W, hideE env, s, ok.hid, ok.ws, ?_⟩
    have e0 : exq false me env s = me (hideE env) s := rfl
    rw [e0] at h k
    cases q : me (hideE env) s with
    | ok d s' =>
      rw [q] at h
      exact fun W' H' u e ws rp => k W' H' u d s' e (ok.after e ws) rp q h
    | exc x s' =>
      rw [q] at h
      exact fun W' H' c dd e ws rp => h W' H' c dd (ok.ext.trans e) ws rp
    | no => rw [q] at h; exact h
  | true =>
    refine ⟨W.see env σ, viewE env, s, ok.seen, ok.seeWS, ?_⟩
    have e0 : exq true me env s = (me (viewE env) s).bind fun d s => if d.flat = true then .ok d s else .no := rfl
    rw [e0] at h k
    cases q : me (viewE env) s with
    | ok d s' =>
      rw [q] at h k
      simp only [bind_ok] at h k
      by_cases fl : d.flat = true
      · rw [if_pos fl] at h k
        intro W' H' u e ws rp
        have e2 := ok.unseeExt e
        exact k (W'.unsee env σ) H' u d s' e2 (ok.after e2 (unseeWS ws)) (Rep.flatW (W := W') (W' := W'.unsee env σ) d u fl (fun _ z => z) rp) rfl h
      · rw [if_neg fl] at h; exact h.elim
    | exc x s' =>
      rw [q] at h
      exact fun W' H' c dd e ws rp => h (W'.unsee env σ) H' c dd (ok.ext.trans (ok.unseeExt e)) (unseeWS ws) rp
    | no => rw [q] at h; exact h
/-- a test in a statement -/
theorem et_read {H0 : Hp} {W0 : Wd} {pins : List (D × V)} {W : Wd} {H : Hp} {σ : L2.St} {env : SE} {s : DS} {f : Bool → DS → Res Fl} {Dn : Ends} {R : Bool → Hp → Prop} (ok : StOk G.K H0 W0 pins W H σ env s) (h : AftS G H0 W0 pins ((mt (viewE env) s).bind f) Dn)
    (k : ∀ W' H' b s', Ext W H W' H' → StOk G.K H0 W0 pins W' H' σ env s' → AftS G H0 W0 pins (f b s') Dn → R b H') : tMT G mt σ H R := by
  refine ⟨W.see env σ, viewE env, s, ok.seen, ok.seeWS, ?_⟩
  cases q : mt (viewE env) s with
  | ok d s' =>
    rw [q] at h
    intro W' H' e ws
    have e2 := ok.unseeExt e
    exact k (W'.unsee env σ) H' d s' e2 (ok.after e2 (unseeWS ws)) h
  | exc x s' =>
    rw [q] at h
    exact fun W' H' c dd e ws rp => h (W'.unsee env σ) H' c dd (ok.ext.trans (ok.unseeExt e)) (unseeWS ws) rp
  | no => rw [q] at h; exact h
@[simp] def sDrop (v : Bool) (me : VE → M D) : MS := fun env s => (exq v me env s).bind fun _ s => .ok (.nx env) s
theorem es_expr (v : Bool) (he : EE X G e me) (hs : swapsWith e none pos.line X.env = pure false := by rfl) : ES X G (.Expr e pos) (sDrop v me) := ps_imp (ps_expr he hs) fun D σ H h => by
  obtain ⟨H0, W0, pins, W, env, s, ok, h⟩ := h
  exact ex_read ok h fun W' H' u d s' _ ok' r _ h' => h' W' H' σ ok'
@[simp] def sSet (v : Bool) (i : Nat) (me : VE → M D) : MS := fun env s => (exq v me env s).bind fun d s => .ok (.nx (env.set i (.val d))) s
theorem es_set (v : Bool) (i : Nat) {x : Str} {pos' : Pos} (hN : X.N.Nodup) (he : EE X G e me) (hi : X.N[i]? = some x := by rfl) (hx : Loc X.env.scope x := by first | exact .inl rfl | exact .inr rfl) (hs : swapsWith e (some (.Name x pos')) pos.line X.env = pure false := by rfl) (hf : X.fn x = true ∨ X.env.scope.names.lookup x = some .local := by first | exact .inl rfl | exact .inr rfl | assumption) :
    ES X G (.Assign [.Name x pos'] e pos) (sSet v i me) := ps_imp (ps_set hN hi hx he hs hf) fun D σ H h => by
  obtain ⟨H0, W0, pins, W, env, s, ok, h⟩ := h
  exact ex_read ok h fun W' H' u d s' _ ok' r _ h' => h' W' H' _ (ok'.set r)
/-- return: all own lists may be handed out -/
@[simp] def sRet (me : VE → M D) : MS := fun env s => (me (viewE env) s).bind fun d s => .ok (.rt d) s
theorem es_ret (he : EE X G e me) : ES X G (.Return (some e) pos) (sRet me) := ps_imp (ps_ret he) fun D σ H h => by
  obtain ⟨H0, W0, pins, W, env, s, ok, h⟩ := h
  refine ⟨W.see env σ, viewE env, s, ok.seen, ok.seeWS, ?_⟩
  unfold sRet at h
  cases q : me (viewE env) s with
  | ok d s' =>
    rw [q] at h
    exact fun W' H' u e ws rp => h W' H' u (ok.seeExt0.trans e) ws rp
  | exc x s' =>
    rw [q] at h
    exact fun W' H' c dd e ws rp => h W' H' c dd (ok.seeExt0.trans e) ws rp
  | no => rw [q] at h; exact h
@[simp] def sRetN : MS := fun env s => .ok (.rt .non) s
theorem es_retN : ES X G (.Return none pos) sRetN := ps_imp ps_retN fun D σ H h => by
  obtain ⟨H0, W0, pins, W, env, s, ok, h⟩ := h
  exact h W H _ ok.ext ok.ws (by simp)
@[simp] def sIf (mt : VE → M Bool) (m1 m2 : MS) : MS := fun env s => (mt (viewE env) s).bind fun b s => if b = true then m1 env s else m2 env s
theorem es_if {a b : List Stmt} (hc : ET X G c mt) (ha : ESs X G a m1) (hb : ESs X G b m2) : ES X G (.If c a b pos) (sIf mt m1 m2) := ps_imp (ps_if hc ha hb) fun D σ H h => by
  obtain ⟨H0, W0, pins, W, env, s, ok, h⟩ := h
  refine et_read ok h fun W' H' b s' _ ok' h' => ?_
  cases b with
  | true => exact iteT ⟨H0, W0, pins, W', env, s', ok', h'⟩
  | false => exact iteF ⟨H0, W0, pins, W', env, s', ok', h'⟩
/-- targets -/
@[simp] def setSl (env : SE) : List (Nat × D) → SE
  | [] => env
  | (i, d) :: r => setSl (env.set i (.val d)) r
theorem StOk.setA {K : PySem.W.Frag} {H0 : Hp} {W0 : Wd} {pins : List (D × V)} {W : Wd} {H : Hp} {s : DS} : ∀ {as : List (Nat × D)} {bs : List (Nat × V)} {σ : L2.St} {env : SE}, StOk K H0 W0 pins W H σ env s → AsR K W H as bs → StOk K H0 W0 pins W H (setA σ bs) (setSl env as) s
  | [], bs, σ, env, h, g => by simp only [AsR] at g; subst g; exact h
  | (i, d) :: r, bs, σ, env, h, g => by
    simp only [AsR] at g
    obtain ⟨v, q, rfl, h1, h2⟩ := g
    show StOk K H0 W0 pins W H (L2.Mir.setA (σ.set i (some v)) q) (setSl (env.set i (.val d)) r) s
    exact StOk.setA (h.set h1) h2
@[simp] def sAsg (v : Bool) (p : Pat) (me : VE → M D) : MS := fun env s => (exq v me env s).bind fun d s => match p.run d with
  | some as => .ok (.nx (setSl env as)) s
  | none => .no
theorem AsR.mn {K : PySem.W.Frag} {W W' : Wd} {H H' : Hp} : ∀ {as : List (Nat × D)} {bs : List (Nat × V)}, (∀ d v, Rep K W H d v → Rep K W' H' d v) → AsR K W H as bs → AsR K W' H' as bs
  | [], bs, _, h => by simpa [AsR] using h
  | (i, d) :: r, bs, f, h => by
    simp only [AsR] at h ⊢
    obtain ⟨v, q, rfl, h1, h2⟩ := h
    exact ⟨v, q, rfl, f d v h1, AsR.mn f h2⟩
theorem es_asg (v : Bool) {tg : Expr} {p : Pat} (he : EE X G e me) (hg : EG X G.K tg p) (hs : swapsWithSole [tg] e pos.line X.env = pure false := by rfl) (hw : swappedStores [tg] e X.env = pure none := by rfl)
    (h1 : (assignEach [tg] X.env).map (·.2) = [assign tg X.env] := by rfl) : ES X G (.Assign [tg] e pos) (sAsg v p me) := ps_imp (ps_asg he hg hs hw h1) fun D σ H h => by
  obtain ⟨H0, W0, pins, W, env, s, ok, h⟩ := h
  refine ex_read ok h fun W' H' u d s' _ ok' r _ h' => ?_
  split at h'
  · rename_i as q
    exact ⟨W', d, as, r, q, fun bs hb => h' W' H' _ (ok'.setA hb)⟩
  · exact h'.elim
/-- a, b = e1, e2 -/
@[simp] def exqL (v : Bool) (m : VE → M (List D)) : SE → M (List D) := fun env s => if v = true then (m (viewE env) s).bind fun d s => if D.flats d = true then .ok d s else .no else m (hideE env) s
theorem exL_read {v : Bool} {ml : VE → M (List D)} {H0 : Hp} {W0 : Wd} {pins : List (D × V)} {W : Wd} {H : Hp} {σ : L2.St} {env : SE} {s : DS} {f : List D → DS → Res Fl} {Dn : Ends} {R : List V → Hp → Prop} (ok : StOk G.K H0 W0 pins W H σ env s) (h : AftS G H0 W0 pins ((exqL v ml env s).bind f) Dn)
    (k : ∀ W' H' u d s', Ext W H W' H' → StOk G.K H0 W0 pins W' H' σ env s' → Reps G.K W' H' d u → AftS G H0 W0 pins (f d s') Dn → R u H') : tML G ml σ H R := by
  cases v with
  | false =>
    refine ⟨W, hideE env, s, ok.hid, ok.ws, ?_⟩
    have e0 : exqL false ml env s = ml (hideE env) s := rfl
    rw [e0] at h
    cases q : ml (hideE env) s with
    | ok d s' =>
      rw [q] at h
      exact fun W' H' u e ws rp => k W' H' u d s' e (ok.after e ws) rp h
    | exc x s' =>
      rw [q] at h
      exact fun W' H' c dd e ws rp => h W' H' c dd (ok.ext.trans e) ws rp
    | no => rw [q] at h; exact h
  | true =>
    refine ⟨W.see env σ, viewE env, s, ok.seen, ok.seeWS, ?_⟩
    have e0 : exqL true ml env s = (ml (viewE env) s).bind fun d s => if D.flats d = true then .ok d s else .no := rfl
    rw [e0] at h
    cases q : ml (viewE env) s with
    | ok d s' =>
      rw [q] at h
      simp only [bind_ok] at h
      by_cases fl : D.flats d = true
      · rw [if_pos fl] at h
        intro W' H' u e ws rp
        have e2 := ok.unseeExt e
        exact k (W'.unsee env σ) H' u d s' e2 (ok.after e2 (unseeWS ws)) (Reps.flatW (W := W') (W' := W'.unsee env σ) d u fl (fun _ z => z) rp) h
      · rw [if_neg fl] at h; exact h.elim
    | exc x s' =>
      rw [q] at h
      exact fun W' H' c dd e ws rp => h (W'.unsee env σ) H' c dd (ok.ext.trans (ok.unseeExt e)) (unseeWS ws) rp
    | no => rw [q] at h; exact h
@[simp] def sPar (v : Bool) (i j : Nat) (ml : VE → M (List D)) : MS := fun env s => (exqL v ml env s).bind fun ds s => match ds with
  | [d, d'] => .ok (.nx ((env.set i (.val d)).set j (.val d'))) s
  | _ => .no
theorem es_par (v : Bool) (i j : Nat) {x y : Str} {a b : Expr} {ml : VE → M (List D)} {px py pt : Pos} {kt k2 pt2} (hc : X.calm = true) (hN : X.N.Nodup) (ha : EA X G [a, b] ml) (hi : X.N[i]? = some x := by rfl) (hj : X.N[j]? = some y := by rfl) (hij : i ≠ j := by decide)
    (hx : X.env.scope.names.lookup x = some .local := by rfl) (hy : X.env.scope.names.lookup y = some .local := by rfl)
    (hw : swappedStores [.Tuple [.Name x px, .Name y py] kt pt] (.Tuple [a, b] k2 pt2) X.env = pure (some [x, y]) := by rfl)
    (hs : swapsWithSole [.Tuple [.Name x px, .Name y py] kt pt] (.Tuple [a, b] k2 pt2) pos.line X.env = pure false := by rfl) :
    ES X G (.Assign [.Tuple [.Name x px, .Name y py] kt pt] (.Tuple [a, b] k2 pt2) pos) (sPar v i j ml) := ps_imp (ps_par hc hN hi hj hij hx hy ha hw hs) fun D σ H h => by
  obtain ⟨H0, W0, pins, W, env, s, ok, h⟩ := h
  refine exL_read ok h fun W' H' u d s' _ ok' r h' => ?_
  split at h'
  · obtain ⟨v1, v2, rfl, r1, r2⟩ := r.two
    exact ⟨v1, v2, rfl, h' W' H' _ ((ok'.set r1).set r2)⟩
  · exact h'.elim

/-! ### loops -/
def whileGo (c : VE → M Bool) (body : MS) : Nat → MS
  | 0, _, _ => .no
  | n + 1, env, s => (c (viewE env) s).bind fun b s => if b = true then (body env s).bind fun fl s => (match fl with
      | .nx env' => whileGo c body n env' s
      | .ct env' => whileGo c body n env' s
      | .bk env' => .ok (.nx env') s
      | .rt d => .ok (.rt d) s) else .ok (.nx env) s
/-- turns allowed: more than any int or length that stands -/
def dMeas : D → Nat
  | .int i => i.natAbs
  | .lst ds => ds.length
  | .tup ds => ds.length
  | _ => 0
def slMeas : Sl → Nat
  | .val d => dMeas d
  | .own ds => ds.length
  | .no => 0
def measE (env : SE) : Nat := 1000 + (env.map slMeas).sum
def sWhile (c : VE → M Bool) (body : MS) : MS := fun env s => whileGo c body (measE env) env s
theorem es_while {body : List Stmt} {mb : MS} (hp : PassesOwn (model X.prog X.w) X.A X.env X.xe) (hc : ET X G c mt) (hb : ESs X G body mb) : ES X G (.While c body [] pos) (sWhile mt mb) := ps_imp (ps_while hp hc hb) fun D σ H h => by
  obtain ⟨H0, W0, pins, W, env, s, ok, h⟩ := h
  refine ⟨fun m σ H => ∃ W env s, StOk G.K H0 W0 pins W H σ env s ∧ AftS G H0 W0 pins (whileGo mt mb m env s) D, ⟨measE env, W, env, s, ok, h⟩, fun m σ H q => ?_⟩
  obtain ⟨W, env, s, ok, h⟩ := q
  cases m with
  | zero => exact h.elim
  | succ m =>
    simp only [whileGo] at h
    refine et_read ok h fun W' H' b s' _ ok' h' => ?_
    cases b with
    | false => exact iteF (h' W' H' σ ok')
    | true =>
      simp only [if_true] at h' ⊢
      refine ⟨fun σ' H' => ∃ W env s, StOk G.K H0 W0 pins W H' σ' env s ∧ AftS G H0 W0 pins (whileGo mt mb m env s) D, fun σ' H' q => ⟨m, Nat.lt_succ_self m, q⟩, H0, W0, pins, W', env, s', ok', ?_⟩
      cases q : mb env s' with
      | ok fl s2 =>
        rw [q] at h'
        simp only [bind_ok] at h'
        cases fl with
        | nx env' => exact fun W2 H2 σ2 ok2 => ⟨W2, env', s2, ok2, h'⟩
        | ct env' => exact fun W2 H2 σ2 ok2 => ⟨W2, env', s2, ok2, h'⟩
        | bk env' => exact h'
        | rt d => exact h'
      | exc x s2 => rw [q] at h'; exact h'
      | no => rw [q] at h'; exact h'
def forGo (p : Pat) (body : MS) : List D → MS
  | [], env, s => .ok (.nx env) s
  | d :: r, env, s => match p.run d with
    | none => .no
    | some as => (body (setSl env as) s).bind fun fl s => match fl with
      | .nx env' => forGo p body r env' s
      | .ct env' => forGo p body r env' s
      | .bk env' => .ok (.nx env') s
      | .rt d => .ok (.rt d) s
@[simp] def sFor (p : Pat) (mi : VE → M (List D)) (body : MS) : MS := fun env s => (mi (hideE env) s).bind fun ds s => forGo p body ds env s
theorem es_for {tg iter : Expr} {body : List Stmt} {mb : MS} {p : Pat} {mi : VE → M (List D)} (hp : PassesOwn (model X.prog X.w) X.A X.env X.xe) (hc : X.calm = true) (hi : EI X G tg iter mi) (hg : EG X G.K tg p) (hb : ESs X G body mb)
    (hs : ∀ x, foldedSetIterable iter X.env x = pure x := by intro _; rfl) : ES X G (.For tg iter body [] pos) (sFor p mi mb) := ps_imp (ps_for hp hc hi hg hb hs) fun D σ H h => by
  obtain ⟨H0, W0, pins, W, env, s, ok, h⟩ := h
  refine ⟨W, hideE env, s, ok.hid, ok.ws, ?_⟩
  unfold sFor at h
  cases q : mi (hideE env) s with
  | no => rw [q] at h; exact h
  | exc x s' =>
    rw [q] at h
    exact fun W' H' c dd e ws rp => h W' H' c dd (ok.ext.trans e) ws rp
  | ok ds s1 =>
    rw [q] at h
    simp only [bind_ok] at h
    intro W1 H1 J d0 v0 e1 ws1 r0 F
    let P : Nat → L2.St → Hp → Prop := fun i σ H => ∃ W env s, StOk G.K H0 W0 ((d0, v0) :: pins) W H σ env s ∧ AftS G H0 W0 pins (forGo p mb (ds.drop i) env s) D
    have unpin : ∀ {W H σ env s}, StOk G.K H0 W0 ((d0, v0) :: pins) W H σ env s → StOk G.K H0 W0 pins W H σ env s := fun ok => ok.pins_of fun q hq => ok.pin q (List.mem_cons_of_mem _ hq)
    refine ⟨fun i m σ H => m = ds.length - i ∧ i ≤ ds.length ∧ P i σ H, ⟨_, rfl, Nat.zero_le _, W1, env, s1, (ok.after e1 ws1).pins_of (fun q hq => ?_), h⟩, ?_⟩
    · rcases List.mem_cons.mp hq with rfl | hq
      · exact r0
      · exact (ok.pin q hq).ext e1 _ _
    rintro i m σ2 H2 ⟨rfl, hi, W2, env2, s2, ok2, h2⟩
    have rp := ok2.pin _ List.mem_cons_self
    obtain ⟨F1, F2⟩ := F W2 H2 rp
    by_cases hlt : i < ds.length
    · refine .inr ?_
      have hd : ds[i]? = some ds[i] := List.getElem?_eq_getElem hlt
      obtain ⟨go, yl⟩ := F1 i _ hd
      refine ⟨go, P (i + 1), fun σ' H' q => ⟨ds.length - (i + 1), by omega, rfl, by omega, q⟩, fun x H3 hy => ?_⟩
      obtain ⟨e3, w3, rx⟩ := yl x H3 hy
      rw [List.drop_eq_getElem_cons hlt] at h2
      simp only [forGo] at h2
      split at h2
      · exact h2.elim
      · rename_i as qa
        have ok3 := ok2.after e3 (w3 s2 ok2.ws)
        refine ⟨W2, ds[i], as, rx, qa, fun bs hb2 => ⟨H0, W0, (d0, v0) :: pins, W2, _, s2, ok3.setA hb2, ?_⟩⟩
        cases q5 : mb (setSl env2 as) s2 with
        | no => rw [q5] at h2; exact h2
        | exc x' s' => rw [q5] at h2; exact h2
        | ok fl s5 =>
          rw [q5] at h2
          simp only [bind_ok] at h2
          cases fl with
          | nx env' => exact fun W5 H5 σ5 ok5 => ⟨W5, env', s5, ok5, h2⟩
          | ct env' => exact fun W5 H5 σ5 ok5 => ⟨W5, env', s5, ok5, h2⟩
          | bk env' => exact fun W5 H5 σ5 ok5 => h2 W5 H5 σ5 (unpin ok5)
          | rt d => exact h2
    · refine .inl ?_
      have e : i = ds.length := by omega
      subst e
      rw [List.drop_length] at h2
      exact ⟨F2, h2 W2 H2 σ2 (unpin ok2)⟩
end
end
end L2.Mir

set_option Elab.async false
set_option linter.all false
set_option maxRecDepth 100000
namespace L2.Mir
open PySem PySem.Spec PyProof.Rows
noncomputable section

section
variable {X : Cx} {G : Gx} {e c o : Expr} {me mi : VE → M D} {pos : Pos}
/-! ### x = a fresh list, the slot's own -/
theorem exF_read {v : Bool} {H0 : Hp} {W0 : Wd} {pins : List (D × V)} {W : Wd} {H : Hp} {σ : L2.St} {env : SE} {s : DS} {f : List D → DS → Res Fl} {Dn : Ends} {R : VK} (ok : StOk G.K H0 W0 pins W H σ env s)
    (h : AftS G H0 W0 pins ((if v = true then (me (viewE env) s).bind fun d s => (match d with | .lst ds => if D.flats ds = true then f ds s else .no | _ => .no) else (me (hideE env) s).bind fun d s => (match d with | .lst ds => f ds s | _ => .no))) Dn)
    (k : ∀ W' H' p vs ds s', Ext W H W' H' → StOk G.K H0 W0 pins W' H' σ env s' → H p = none → H' p = some (.lst vs) → Reps G.K W' H' ds vs → ¬ W'.F p → ¬ W'.isS p → AftS G H0 W0 pins (f ds s') Dn → R (.ref p) H') : tMF G me σ H R := by
  cases v with
  | false =>
    simp only [Bool.false_eq_true, if_false] at h
    refine ⟨W, hideE env, s, ok.hid, ok.ws, ?_⟩
    cases q : me (hideE env) s with
    | ok d s' =>
      rw [q] at h
      cases d with
      | lst ds => exact fun W' H' p vs e ws hp hp' r nF nS => k W' H' p vs ds s' e (ok.after e ws) hp hp' r nF nS h
      | _ => exact h
    | exc x s' =>
      rw [q] at h
      exact fun W' H' c dd e ws rp => h W' H' c dd (ok.ext.trans e) ws rp
    | no => rw [q] at h; exact h
  | true =>
    simp only [if_true] at h
    refine ⟨W.see env σ, viewE env, s, ok.seen, ok.seeWS, ?_⟩
    cases q : me (viewE env) s with
    | ok d s' =>
      rw [q] at h
      cases d with
      | lst ds =>
        simp only [bind_ok] at h
        by_cases fl : D.flats ds = true
        · rw [if_pos fl] at h
          intro W' H' p vs e ws hp hp' r nF nS
          have e2 := ok.unseeExt e
          exact k (W'.unsee env σ) H' p vs ds s' e2 (ok.after e2 (unseeWS ws)) hp hp' (Reps.flatW (W := W') (W' := W'.unsee env σ) ds vs fl (fun _ z => z) r) (fun z => nF z.1) nS h
        · rw [if_neg fl] at h; exact h.elim
      | _ => exact h
    | exc x s' =>
      rw [q] at h
      exact fun W' H' c dd e ws rp => h (W'.unsee env σ) H' c dd (ok.ext.trans (ok.unseeExt e)) (unseeWS ws) rp
    | no => rw [q] at h; exact h
@[simp] def sSetO (v : Bool) (i : Nat) (me : VE → M D) : MS := fun env s => if v = true then (me (viewE env) s).bind fun d s => (match d with | .lst ds => if D.flats ds = true then .ok (.nx (env.set i (.own ds))) s else .no | _ => .no) else (me (hideE env) s).bind fun d s => (match d with | .lst ds => .ok (.nx (env.set i (.own ds))) s | _ => .no)
theorem setO_fin {i : Nat} {H0 : Hp} {W0 : Wd} {pins : List (D × V)} {W W' : Wd} {H H' : Hp} {σ : L2.St} {env : SE} {s s' : DS} {p : Addr} {vs : List V} {ds : List D} (ok : StOk G.K H0 W0 pins W H σ env s) (ok' : StOk G.K H0 W0 pins W' H' σ env s') (hp : H p = none) (hp' : H' p = some (.lst vs)) (r : Reps G.K W' H' ds vs) (nF : ¬ W'.F p) (nS : ¬ W'.isS p) :
    StOk G.K H0 W0 pins W' H' (σ.set i (some (.ref p))) (env.set i (.own ds)) s' :=
  ok'.setOwn hp' r nF nS (ok.ext.dom p hp) fun j es _ q1 q2 => by
    obtain ⟨p', us, e1, e2, _⟩ := ok.own j es q1
    rw [q2] at e1
    cases e1
    rw [hp] at e2
    cases e2
theorem es_setO (v : Bool) (i : Nat) {x : Str} {pos' : Pos} (hN : X.N.Nodup) (he : EF X G e me) (hi : X.N[i]? = some x := by rfl) (hx : Loc X.env.scope x := by first | exact .inl rfl | exact .inr rfl) (hs : swapsWith e (some (.Name x pos')) pos.line X.env = pure false := by rfl) (hf : X.fn x = true ∨ X.env.scope.names.lookup x = some .local := by first | exact .inl rfl | exact .inr rfl | assumption) :
    ES X G (.Assign [.Name x pos'] e pos) (sSetO v i me) := ps_imp (ps_set hN hi hx he hs hf) fun D σ H h => by
  obtain ⟨H0, W0, pins, W, env, s, ok, h⟩ := h
  exact exF_read (f := fun ds s => .ok (.nx (env.set i (.own ds))) s) ok h fun W' H' p vs ds s' _ ok' hp hp' r nF nS h' => h' W' H' _ (setO_fin ok ok' hp hp' r nF nS)
/-! ### x = [.. for ..] on one row -/
section
variable {i : Nat} {y : Str} {py : Pos} {elt tg iter : Expr} {ifs : List Expr} {scope : Scope} {own : List (Str × Nat)} {spos : Pos} {p : Pat} {ml : VE → M (List D)} {tt : VE → M Bool} {te : VE → M D}
theorem es_setLc (v : Bool) (i : Nat) (hc : X.calm = true) (hN : X.N.Nodup) (hsw : swapsWith (.ListComp elt [⟨tg, iter, ifs, 0⟩] scope pos) (some (.Name y py)) spos.line X.env = pure true) (hi : EI X G tg iter ml) (ok : BlkOk X.N X.env.scope scope own)
    (hv : (p.slots.all fun i => (own.map (·.2)).contains i) = true)
    (hg : ∀ (s : Shared) (H : Hp) (C : Addr) (cl : List (Str × Addr)) (fp : List Addr), EG (X.blk s H scope (compEnvC scope cl C X.env) fp) G.K tg p) (ht : ∀ (s : Shared) (H : Hp) (C : Addr) (cl : List (Str × Addr)) (fp : List Addr), ETs (X.blk s H scope (compEnvC scope cl C X.env) fp) G ifs tt)
    (he : ∀ (s : Shared) (H : Hp) (C : Addr) (cl : List (Str × Addr)) (fp : List Addr), EE (X.blk s H scope (compEnvC scope cl C X.env) fp) G elt te) (hy : X.N[i]? = some y := by rfl) (hyl : X.env.scope.names.lookup y = some .local := by rfl) (hs : ∀ x, foldedSetIterable iter X.env x = pure x := by intro _; rfl) :
    ES X G (.Assign [.Name y py] (.ListComp elt [⟨tg, iter, ifs, 0⟩] scope pos) spos) (sSet v i (mLc p (own.map (·.2)) ml tt te)) := ps_imp (ps_setLc hc hN hy hyl hsw hi ok hg ht he hs) fun D σ H h => by
  obtain ⟨H0, W0, pins, W, env, s, ok, h⟩ := h
  exact lc_tLc hv (ex_read ok h fun W' H' u d s' _ ok' r _ h' => h' W' H' _ (ok'.set r))
theorem es_setLcO (v : Bool) (i : Nat) (hc : X.calm = true) (hN : X.N.Nodup) (hsw : swapsWith (.ListComp elt [⟨tg, iter, ifs, 0⟩] scope pos) (some (.Name y py)) spos.line X.env = pure true) (hi : EI X G tg iter ml) (ok : BlkOk X.N X.env.scope scope own)
    (hv : (p.slots.all fun i => (own.map (·.2)).contains i) = true)
    (hg : ∀ (s : Shared) (H : Hp) (C : Addr) (cl : List (Str × Addr)) (fp : List Addr), EG (X.blk s H scope (compEnvC scope cl C X.env) fp) G.K tg p) (ht : ∀ (s : Shared) (H : Hp) (C : Addr) (cl : List (Str × Addr)) (fp : List Addr), ETs (X.blk s H scope (compEnvC scope cl C X.env) fp) G ifs tt)
    (he : ∀ (s : Shared) (H : Hp) (C : Addr) (cl : List (Str × Addr)) (fp : List Addr), EE (X.blk s H scope (compEnvC scope cl C X.env) fp) G elt te) (hy : X.N[i]? = some y := by rfl) (hyl : X.env.scope.names.lookup y = some .local := by rfl) (hs : ∀ x, foldedSetIterable iter X.env x = pure x := by intro _; rfl) :
    ES X G (.Assign [.Name y py] (.ListComp elt [⟨tg, iter, ifs, 0⟩] scope pos) spos) (sSetO v i (mLc p (own.map (·.2)) ml tt te)) := ps_imp (ps_setLc hc hN hy hyl hsw hi ok hg ht he hs) fun D σ H h => by
  obtain ⟨H0, W0, pins, W, env, s, ok, h⟩ := h
  exact lc_tLcF hv (exF_read (f := fun ds s => .ok (.nx (env.set i (.own ds))) s) ok h fun W' H' p vs ds s' _ ok' hp hp' r nF nS h' => h' W' H' _ (setO_fin ok ok' hp hp' r nF nS))
end
/-! ### x.append(e), x[k] = e -/
@[simp] def ownOf (env : SE) (i : Nat) : Option (List D) := match env[i]? with
  | some (.own ds) => some ds
  | _ => none
theorem ownOf_some {env : SE} {i : Nat} {ds : List D} (h : ownOf env i = some ds) : env[i]? = some (.own ds) := by
  unfold ownOf at h
  split at h
  · rename_i q; rw [q]; cases h; rfl
  · cases h
@[simp] def sApp (v : Bool) (i : Nat) (me : VE → M D) : MS := fun env s => match ownOf env i with
  | none => .no
  | some ds => (exq v me env s).bind fun d s => if LenOk (ds.length + 1) then .ok (.nx (env.set i (.own (ds ++ [d])))) s else .no
theorem es_app (v : Bool) (i : Nat) {x : Str} {p1 p2 : Pos} (he : EE X G e me) (hK : X.K = G.K)
    (hN : X.N[i]? = some x := by rfl) (hv : Vis X.env.scope x := by first | exact Or.inl rfl | exact Or.inr (Or.inl rfl) | exact Or.inr (Or.inr rfl)) (hd : (x == ("__debug__" : Str)) = false := by decide) (hcd : (x == ("__classdict__" : Str)) = false := by decide)
    (hm : ∀ {te : TE}, PE X e te → PE X (.Call (.Attribute (.Name x p1) "append" p2) [e] [] pos) (tBM X.K "list" rAppend (tVar i) (tCons te tNil))) {pos' : Pos}
    (hs : swapsWith (.Call (.Attribute (.Name x p1) "append" p2) [e] [] pos) none pos'.line X.env = pure false := by rfl) :
    ES X G (.Expr (.Call (.Attribute (.Name x p1) "append" p2) [e] [] pos) pos') (sApp v i me) := ps_imp (ps_expr (hm he) hs) fun D σ H h => by
  obtain ⟨H0, W0, pins, W, env, s, ok, h⟩ := h
  unfold sApp at h
  split at h
  · exact h.elim
  · rename_i ds q
    have hi := ownOf_some q
    obtain ⟨p, vs, e1, e2, _, nF, nS, _⟩ := ok.own i ds hi
    refine ⟨_, e1, .inl ⟨rfl, vs, .inl (.inl e2)⟩, ?_⟩
    refine ex_read ok h fun W' H' u d s' ex ok' r _ h' => ?_
    split at h'
    · rename_i hz
      obtain ⟨p', vs', f1, f2, f3, _⟩ := ok'.own i ds hi
      rw [e1] at f1
      cases f1
      refine ⟨p, vs', u, rfl, rfl, f2, by rw [f3.length]; exact hz, ?_⟩
      refine h' W' _ σ (ok'.mut (vs' := vs' ++ [u]) hi e1 f2 ?_)
      exact f3.append (by simp only [Reps]; exact ⟨u, [], rfl, r, rfl⟩)
    · exact h'.elim
@[simp] def sSetI (v : Bool) (i : Nat) (mk : VE → M D) (me : VE → M D) : MS := fun env s => (exq v me env s).bind fun d s => match ownOf env i with
  | none => .no
  | some ds => (exq true mk env s).bind fun k s => match k with
    | .int n => (match ixN ds.length n with
      | some j => .ok (.nx (env.set i (.own (ds.set j d)))) s
      | none => .no)
    | _ => .no
theorem es_setI (v : Bool) (i : Nat) {x : Str} {p1 p2 : Pos} {ix : Expr} {mk : VE → M D} (he : EE X G e me) (hx : EE X G ix mk)
    (hN : X.N[i]? = some x := by rfl) (hv : Vis X.env.scope x := by first | exact Or.inl rfl | exact Or.inr (Or.inl rfl) | exact Or.inr (Or.inr rfl)) (hd : (x == ("__debug__" : Str)) = false := by decide) (hcd : (x == ("__classdict__" : Str)) = false := by decide)
    (ha : ∀ v, assign (.Subscript (.Name x p1) ix p2) X.env v = (do
      let ov ← holding [v] (eval (.Name x p1) X.env)
      let iv ← holding [v, ov] (eval ix X.env)
      standAt p2
      holding [v, ov, iv] (setItem ov iv v)
      release [v, ov, iv] []) := by intro _; rfl)
    (hs : swapsWithSole [.Subscript (.Name x p1) ix p2] e pos.line X.env = pure false := by rfl) (hw : swappedStores [.Subscript (.Name x p1) ix p2] e X.env = pure none := by rfl)
    (h1 : (assignEach [.Subscript (.Name x p1) ix p2] X.env).map (·.2) = [assign (.Subscript (.Name x p1) ix p2) X.env] := by rfl) :
    ES X G (.Assign [.Subscript (.Name x p1) ix p2] e pos) (sSetI v i mk me) := ps_imp (ps_asg he (pg_sub (pe_var hN hv hd hcd) hx set_list ha) hs hw h1) fun D σ H h => by
  obtain ⟨H0, W0, pins, W, env, s, ok, h⟩ := h
  refine ex_read ok h fun W' H' u d s' ex ok' r _ h' => ?_
  split at h'
  · exact h'.elim
  · rename_i ds q
    have hi := ownOf_some q
    obtain ⟨p, vs, e1, e2, _, nF, nS, _⟩ := ok'.own i ds hi
    refine ⟨_, e1, ?_⟩
    refine ex_read ok' h' fun W2 H2 u2 k s2 ex2 ok2 r2 _ h2 => ?_
    split at h2
    · rename_i n
      split at h2
      · rename_i j hj
        obtain ⟨p', vs', f1, f2, f3, _⟩ := ok2.own i ds hi
        rw [e1] at f1
        cases f1
        refine ⟨p, vs', _, j, rfl, rep_int r2, f2, by rw [f3.length]; exact hj, ?_⟩
        exact h2 W2 _ σ (ok2.mut (vs' := vs'.set j u) hi e1 f2 (f3.set (Rep.ext ex2 _ _ r) j))
      · exact h2.elim
    · exact h2.elim
end

/-! ### a def -/
@[simp] def startE (n : Nat) (ds : List D) : SE := ds.map Sl.val ++ List.replicate (n - ds.length) Sl.no
@[simp] def runDef (n : Nat) (m : MS) (ds : List D) : M D := fun s => (m (startE n ds) s).bind fun fl s => match fl with
  | .rt d => .ok d s
  | .nx _ => .ok .non s
  | _ => .no
theorem start_ok {K : PySem.W.Frag} {W : Wd} {H : Hp} {s : DS} {N : List Str} {vs : List V} {ds : List D} (r : Reps K W H ds vs) (ws : WS W s H) : StOk K H W [] W H (start N vs) (startE N.length ds) s where
  len := by simp [start, startE, r.length]
  val := fun i d q => by
    unfold startE at q
    have l := r.length
    by_cases hi : i < ds.length
    · rw [List.getElem?_append_left (by simpa using hi), List.getElem?_map, List.getElem?_eq_getElem hi] at q
      simp only [Option.map_some, Option.some.injEq, Sl.val.injEq] at q
      obtain ⟨v, h1, h2⟩ := r.get (i := i) (d := d) (by rw [List.getElem?_eq_getElem hi, q])
      refine ⟨v, ?_, h2⟩
      unfold start
      rw [List.getElem?_append_left (by simpa [l] using hi), List.getElem?_map, h1]
      rfl
    · rw [List.getElem?_append_right (by simp; omega)] at q
      rw [List.getElem?_replicate] at q
      split at q <;> simp at q
  own := fun i ds' q => by
    unfold startE at q
    by_cases hi : i < ds.length
    · rw [List.getElem?_append_left (by simpa using hi), List.getElem?_map, List.getElem?_eq_getElem hi] at q
      simp at q
    · rw [List.getElem?_append_right (by simp; omega)] at q
      rw [List.getElem?_replicate] at q
      split at q <;> simp at q
  dist := fun i j ds' es p hij q _ _ => by
    exfalso
    unfold startE at q
    by_cases hi : i < ds.length
    · rw [List.getElem?_append_left (by simpa using hi), List.getElem?_map, List.getElem?_eq_getElem hi] at q
      simp at q
    · rw [List.getElem?_append_right (by simp; omega)] at q
      rw [List.getElem?_replicate] at q
      split at q <;> simp at q
  ext := Ext.refl W H
  ws := ws
  pin := fun q hq => by cases hq
section
variable {P : Program} {w : World} {K : PySem.W.Frag} {mg : Str → Option Value} {base : Heap} {xr : XR}
theorem def_read {G : Gx} {m : MS} {N : List Str} {W : Wd} {H : Hp} {vs : List V} {ds : List D} {s : DS} {Q : VK} (rs : Reps G.K W H ds vs) (ws : WS W s H) (h : Aft G W H (runDef N.length m ds s) Q) :
    tMS G m { nx := fun _ H' => Q .non H', rt := Q } (start N vs) H := by
  refine ⟨H, W, [], W, _, s, start_ok rs ws, ?_⟩
  unfold runDef at h
  cases q : m (startE N.length ds) s with
  | no => rw [q] at h; exact h
  | exc x s' => rw [q] at h; exact h
  | ok fl s' =>
    rw [q] at h
    simp only [bind_ok] at h
    cases fl with
    | nx env => exact fun W' H' σ ok => h W' H' _ ok.ext ok.ws (by simp)
    | rt d => exact h
    | bk env => exact h.elim
    | ct env => exact h.elim
/-- a def that raises nothing -/
theorem fn_ok {x qual : Str} {st : Stmt} {f : Addr} {fd : FuncData} {N ps : List Str} {k : Nat} {m : MS} (F : Fun K x qual st f fd) (S : FnScope N ps (defScope st))
    (hbody : ∀ (cdv : Value) (A : Around) (outer : List Env) (s : Shared) (H : Hp) (E : XK), Room k (A.deeper (envOfC qual (defScope st) s.heap.objs.size f cdv)) →
      ESs (cxOf CX0 P w K mg base N qual (defScope st) f cdv A outer s H E).nox ⟨K, xr, E⟩ (defBody st) m) :
    FnOk P w K mg base CX0 (k + 1) f fd ps (spM K xr ps.length (runDef N.length m)) := by
  refine F.ok S (fun vs H Q E h => h.1) (fun cdv A outer s H vs Q E hr h => ?_)
  obtain ⟨hl, W, ds, ds', rs, ws, h⟩ := h
  exact ⟨_, hbody cdv A outer s H E hr, def_read rs ws h⟩
end

theorem fn_ok' {P : Program} {w : World} {K : PySem.W.Frag} {mg : Str → Option Value} {base : Heap} {xr : XR} {x qual : Str} {st : Stmt} {f : Addr} {fd : FuncData} {N ps : List Str} {m : MS} {lv n : Nat} {fm : List D → M D} (k : Nat) (hk : lv = k + 1) (hn : n = ps.length) (hf : fm = runDef N.length m) (F : Fun K x qual st f fd) (S : FnScope N ps (defScope st))
    (hbody : ∀ (cdv : Value) (A : Around) (outer : List Env) (s : Shared) (H : Hp) (E : XK), Room k (A.deeper (envOfC qual (defScope st) s.heap.objs.size f cdv)) →
      ESs (cxOf CX0 P w K mg base N qual (defScope st) f cdv A outer s H E).nox ⟨K, xr, E⟩ (defBody st) m) :
    FnOk P w K mg base CX0 lv f fd ps (spM K xr n fm) := by
  subst hk hn hf
  exact fn_ok F S hbody

/-! ### the draws' state -/
/-- what _law_state makes of the script -/
def stCells (ns : List Int) : List Int := let c := (ns.take 63).map fun i => if i < 0 then -i else i
  if c.length = 0 then [0] else c
def spState (K : PySem.W.Frag) : Sp := fun vs H Q _ => ∃ (a : Addr) (ns : List Int), vs = [.ref a] ∧ SqL K H a (ns.map V.int) ∧ ns.length ≤ 63 ∧
  ∀ H' p c, Same H H' → H p = none → H c = none → p ≠ c → H' p = some (.lst [.int 0, .ref c]) → H' c = some (.lst ((stCells ns).map V.int)) → Q (.ref p) H'
/-- one draw -/
def takeC (most at' : Int) (cells : List Int) : Int × Int × List Int :=
  if most < 2 then (0, at', cells)
  else
    let i := (at' % (cells.length : Int)).toNat
    let cell := cells.getD i 0
    if 1000000000000000000 ≤ cell then (cell % most, at', cells.set i (cell / most))
    else
      let mixed := (cell * 48271 + (at' + 1) * 69621) % 2147483647
      let mixed := (mixed * 16807 + (at' + 1) * 7919) % 1000000007
      (mixed / 7 % most, at' + 1, cells)
def fTake (ds : List D) : M D := fun s => match ds, s with
  | [.st, .int most], some (at', cells) => if cells.length ≠ 0 ∧ TakeOk most then (.ok (.int (takeC most at' cells).1) (some ((takeC most at' cells).2.1, (takeC most at' cells).2.2))) else .no
  | _, _ => .no
def spTake : Sp := fun vs H Q _ => ∃ (sa ca : Addr) (at' most : Int) (cells : List Int), vs = [.ref sa, .int most] ∧ H sa = some (.lst [.int at', .ref ca]) ∧ H ca = some (.lst (cells.map V.int)) ∧ sa ≠ ca ∧ cells.length ≠ 0 ∧ (most < 2 ∨ most.natAbs.log2 < 9000) ∧
  ∀ H', (∀ a, a ≠ sa → a ≠ ca → H' a = H a) → H' sa = some (.lst [.int (takeC most at' cells).2.1, .ref ca]) → H' ca = some (.lst ((takeC most at' cells).2.2.map V.int)) → Q (.int (takeC most at' cells).1) H'
theorem take_imp {K : PySem.W.Frag} {xr : XR} : ∀ vs H Q E, spM K xr 2 fTake vs H Q E → spTake vs H Q E := by
  intro vs H Q E h
  obtain ⟨hl, W, ds, s, rs, ws, h⟩ := h
  unfold fTake at h
  split at h
  · rename_i most at' cells
    split at h
    · rename_i hz
      obtain ⟨v, v', rfl, r1, r2⟩ := rs.two
      simp only [Rep] at r1
      obtain ⟨p, hp, rfl⟩ := r1
      rcases ws.2 with ⟨g1, g2⟩ | ⟨sa, ca, i, cells', h0, h00, h1, h2, h3, h4, h5⟩
      · cases g2
      · cases h00
        rw [h0] at hp
        cases hp
        refine ⟨sa, ca, at', most, cells, by rw [rep_int r2], h1, h2, h3, hz.1, hz.2, fun H' k e1 e2 => ?_⟩
        have nS : ∀ a, ¬ W.isS a → a ≠ sa ∧ a ≠ ca := fun a n => ⟨fun e => n ⟨_, h0, .inl e⟩, fun e => n ⟨_, h0, .inr e⟩⟩
        have stay : ∀ a o, H a = some o → (∀ xs, o ≠ .lst xs) → H' a = some o := fun a o q ne => by
          rw [k a (fun e => by rw [e, h1] at q; cases q; exact ne _ rfl) (fun e => by rw [e, h2] at q; cases q; exact ne _ rfl)]; exact q
        refine h W H' (.int _) ⟨fun a o q n => by rw [k a (nS a n).1 (nS a n).2]; exact q, fun a xs q => ?_, fun a o f q => ?_, fun a q => ?_, fun _ f => f, fun _ f => .inl f, fun _ f => f, fun _ f => .inl f⟩ ⟨fun a f => ?_, .inr ⟨sa, ca, _, _, h0, rfl, e1, e2, h3, h4, h5⟩⟩ (rep_int_iff.mpr rfl)
        · rcases q with q | ⟨b, q⟩
          · exact .inl (stay _ _ q fun _ z => by cases z)
          · exact .inr ⟨b, stay _ _ q fun _ z => by cases z⟩
        · rw [k a (fun e => h4 (e ▸ f)) (fun e => h5 (e ▸ f))]; exact q
        · by_cases c1 : a = sa
          · rw [c1, e1] at q; cases q
          · by_cases c2 : a = ca
            · rw [c2, e2] at q; cases q
            · rw [← k a c1 c2]; exact q
        · rw [k a (fun e => h4 (e ▸ f)) (fun e => h5 (e ▸ f))]; exact ws.1 a f
    · exact h.elim
  · exact h.elim
/-- the law's promise -/
def spLaw (K : PySem.W.Frag) : Sp := fun vs H Q _ => ∃ (a : Addr) (ns : List Int), vs = [.ref a] ∧ SqL K H a (ns.map V.int) ∧ ns.length ≤ 63 ∧ ∀ H', Q (.bl true) H'
/-- the law's first row makes the state (slot i), the rest is by its mirror -/
def lawOk (n i : Nat) (m : MS) : Prop := ∀ ns : List Int, ns.length ≤ 63 → ∃ s', m ((List.replicate n Sl.no).set i (.val .st)) (some (0, stCells ns)) = .ok (.rt (.bl true)) s'
section
variable {X : Cx} {G : Gx}
theorem law_read {n i : Nat} {m : MS} (hl : lawOk n i m) {ns : List Int} (hns : ns.length ≤ 63) {Q : VK} (q : ∀ H', Q (.bl true) H') {σ : L2.St} (hσ : σ.length = n) {H : Hp} {p c : Addr} (hpc : p ≠ c) (e1 : H p = some (.lst [.int 0, .ref c])) (e2 : H c = some (.lst ((stCells ns).map V.int))) {nx : L2.St → Hp → Prop} :
    tMS G m { nx := nx, rt := Q } (σ.set i (some (.ref p))) H := by
  obtain ⟨s', h⟩ := hl ns hns
  have get : ∀ (j : Nat) (x : Sl), ((List.replicate n Sl.no).set i (.val .st))[j]? = some x → (x = .no) ∨ (j = i ∧ x = .val .st ∧ i < n) := fun j x q => by
    by_cases hj : i = j
    · subst hj
      by_cases hi : i < n
      · rw [List.getElem?_set_self (by simpa using hi)] at q
        cases q
        exact .inr ⟨rfl, rfl, hi⟩
      · rw [List.getElem?_eq_none (by simpa using hi)] at q; cases q
    · rw [List.getElem?_set_ne hj, List.getElem?_replicate] at q
      split at q
      · cases q; exact .inl rfl
      · cases q
  refine ⟨H, ⟨fun _ => False, some (p, c)⟩, [], ⟨fun _ => False, some (p, c)⟩, (List.replicate n Sl.no).set i (.val .st), some (0, stCells ns), ⟨by simp [hσ], fun j d q1 => ?_, fun j ds q1 => ?_, fun j k ds es p' _ q1 => ?_, Ext.refl _ _, ⟨fun _ f => f.elim, .inr ⟨p, c, 0, stCells ns, rfl, rfl, e1, e2, hpc, fun f => f, fun f => f⟩⟩, fun q hq => by cases hq⟩, ?_⟩
  · rcases get j _ q1 with z | ⟨rfl, z, hi⟩
    · cases z
    · cases z
      refine ⟨.ref p, List.getElem?_set_self (by rw [hσ]; exact hi), ?_⟩
      simp only [Rep]
      exact ⟨(p, c), rfl, rfl⟩
  · rcases get j _ q1 with z | ⟨_, z, _⟩ <;> cases z
  · rcases get j _ q1 with z | ⟨_, z, _⟩ <;> cases z
  · rw [h]
    exact fun W' H' v _ _ r => by rw [r.bl_of]; exact q H'
end
end
end L2.Mir
namespace L2.Mir
open PySem PySem.Spec PyProof.Rows
noncomputable section
section
variable {X : Cx} {G : Gx} {pos : Pos}
@[simp] def sPar3 (v : Bool) (i j l : Nat) (ml : VE → M (List D)) : MS := fun env s => (exqL v ml env s).bind fun ds s => match ds with
  | [d, d', d''] => .ok (.nx (((env.set i (.val d)).set j (.val d')).set l (.val d''))) s
  | _ => .no
theorem Reps.three {K : PySem.W.Frag} {W : Wd} {H : Hp} {d d' d'' : D} {vs : List V} (r : Reps K W H [d, d', d''] vs) : ∃ v v' v'', vs = [v, v', v''] ∧ Rep K W H d v ∧ Rep K W H d' v' ∧ Rep K W H d'' v'' := by
  simp only [Reps] at r
  obtain ⟨v, w, rfl, h, v', w', rfl, h', v'', w'', rfl, h'', rfl⟩ := r
  exact ⟨v, v', v'', rfl, h, h', h''⟩
theorem es_par3 (v : Bool) (i j l : Nat) {x y z : Str} {a b c : Expr} {ml : VE → M (List D)} {px py pz pt : Pos} {kt k2 pt2} (hc : X.calm = true) (hN : X.N.Nodup) (ha : EA X G [a, b, c] ml) (hi : X.N[i]? = some x := by rfl) (hj : X.N[j]? = some y := by rfl) (hl : X.N[l]? = some z := by rfl) (hij : i ≠ j := by decide) (hil : i ≠ l := by decide) (hjl : j ≠ l := by decide)
    (hx : X.env.scope.names.lookup x = some .local := by rfl) (hy : X.env.scope.names.lookup y = some .local := by rfl) (hz : X.env.scope.names.lookup z = some .local := by rfl)
    (hw : swappedStores [.Tuple [.Name x px, .Name y py, .Name z pz] kt pt] (.Tuple [a, b, c] k2 pt2) X.env = pure (some [x, y, z]) := by rfl)
    (hs : swapsWithSole [.Tuple [.Name x px, .Name y py, .Name z pz] kt pt] (.Tuple [a, b, c] k2 pt2) pos.line X.env = pure false := by rfl) :
    ES X G (.Assign [.Tuple [.Name x px, .Name y py, .Name z pz] kt pt] (.Tuple [a, b, c] k2 pt2) pos) (sPar3 v i j l ml) := ps_imp (ps_par3 hc hN hi hj hl hij hil hjl hx hy hz ha hw hs) fun D σ H h => by
  obtain ⟨H0, W0, pins, W, env, s, ok, h⟩ := h
  refine exL_read ok h fun W' H' u d s' _ ok' r h' => ?_
  split at h'
  · obtain ⟨v1, v2, v3, rfl, r1, r2, r3⟩ := r.three
    exact ⟨v1, v2, v3, rfl, h' W' H' _ (((ok'.set r1).set r2).set r3)⟩
  · exact h'.elim
def ipD (f : Int → Int → Int) (x y : D) : M D := fun s => match x, y with
  | .int i, .int j => .ok (.int (f i j)) s
  | _, _ => .no
end
end
end L2.Mir

set_option Elab.async false
set_option linter.all false
set_option maxRecDepth 100000
namespace L2.Mir
open PySem PySem.Spec PyProof.Rows
noncomputable section

/-! ### == by its cases -/
def deqs (xs ys : List D) : Bool := PyData.eqvAll (toPys xs) (toPys ys)
@[simp] theorem deq_int (i j : Int) : deq (.int i) (.int j) = decide (i = j) := by simp [deq, toPy, PyData.eqv, Bool.beq_eq_decide_eq]
@[simp] theorem deq_bl (i j : Bool) : deq (.bl i) (.bl j) = decide (i = j) := by simp [deq, toPy, PyData.eqv, Bool.beq_eq_decide_eq]
@[simp] theorem deq_str (i j : Str) : deq (.str i) (.str j) = decide (i = j) := by simp [deq, toPy, PyData.eqv, Bool.beq_eq_decide_eq]
@[simp] theorem deq_non : deq .non .non = true := by simp [deq, toPy, PyData.eqv]
@[simp] theorem deq_tup (xs ys : List D) : deq (.tup xs) (.tup ys) = deqs xs ys := by simp [deq, toPy, PyData.eqv, deqs]
@[simp] theorem deq_lst (xs ys : List D) : deq (.lst xs) (.lst ys) = deqs xs ys := by simp [deq, toPy, PyData.eqv, deqs]
@[simp] theorem deqs_nil : deqs [] [] = true := by simp [deqs, toPys, PyData.eqvAll]
@[simp] theorem deqs_cons (x y : D) (xs ys : List D) : deqs (x :: xs) (y :: ys) = (deq x y && deqs xs ys) := by simp [deqs, toPys, PyData.eqvAll, deq]
@[simp] theorem deqs_nc (y : D) (ys : List D) : deqs [] (y :: ys) = false := by simp [deqs, toPys, PyData.eqvAll]
@[simp] theorem deqs_cn (y : D) (ys : List D) : deqs (y :: ys) [] = false := by simp [deqs, toPys, PyData.eqvAll]
@[simp] theorem deq_bl_int (b : Bool) (j : Int) : deq (.bl b) (.int j) = ((if b then 1 else 0) == j) := by simp [deq, toPy, PyData.eqv]
@[simp] theorem deq_int_bl (i : Int) (b : Bool) : deq (.int i) (.bl b) = (i == (if b then 1 else 0)) := by simp [deq, toPy, PyData.eqv]
@[simp] theorem deq_non_tup (xs : List D) : deq .non (.tup xs) = false := by simp [deq, toPy, PyData.eqv]
@[simp] theorem deq_tup_non (xs : List D) : deq (.tup xs) .non = false := by simp [deq, toPy, PyData.eqv]
@[simp] theorem deq_non_lst (xs : List D) : deq .non (.lst xs) = false := by simp [deq, toPy, PyData.eqv]
@[simp] theorem deq_lst_non (xs : List D) : deq (.lst xs) .non = false := by simp [deq, toPy, PyData.eqv]
@[simp] theorem deq_non_int (i : Int) : deq .non (.int i) = false := by simp [deq, toPy, PyData.eqv]
@[simp] theorem deq_int_non (i : Int) : deq (.int i) .non = false := by simp [deq, toPy, PyData.eqv]
@[simp] theorem deq_non_bl (i : Bool) : deq .non (.bl i) = false := by simp [deq, toPy, PyData.eqv]
@[simp] theorem deq_bl_non (i : Bool) : deq (.bl i) .non = false := by simp [deq, toPy, PyData.eqv]
@[simp] theorem deq_non_str (i : Str) : deq .non (.str i) = false := by simp [deq, toPy, PyData.eqv]
@[simp] theorem deq_str_non (i : Str) : deq (.str i) .non = false := by simp [deq, toPy, PyData.eqv]
@[simp] theorem deq_tup_lst (xs ys : List D) : deq (.tup xs) (.lst ys) = false := by simp [deq, toPy, PyData.eqv]
@[simp] theorem deq_lst_tup (xs ys : List D) : deq (.lst xs) (.tup ys) = false := by simp [deq, toPy, PyData.eqv]
@[simp] theorem deq_tup_int (xs : List D) (i : Int) : deq (.tup xs) (.int i) = false := by simp [deq, toPy, PyData.eqv]
@[simp] theorem deq_int_tup (xs : List D) (i : Int) : deq (.int i) (.tup xs) = false := by simp [deq, toPy, PyData.eqv]
@[simp] theorem deq_lst_int (xs : List D) (i : Int) : deq (.lst xs) (.int i) = false := by simp [deq, toPy, PyData.eqv]
@[simp] theorem deq_int_lst (xs : List D) (i : Int) : deq (.int i) (.lst xs) = false := by simp [deq, toPy, PyData.eqv]
@[simp] theorem deq_str_int (x : Str) (i : Int) : deq (.str x) (.int i) = false := by simp [deq, toPy, PyData.eqv]
@[simp] theorem deq_int_str (x : Str) (i : Int) : deq (.int i) (.str x) = false := by simp [deq, toPy, PyData.eqv]
@[simp] theorem deq_tup_str (xs : List D) (i : Str) : deq (.tup xs) (.str i) = false := by simp [deq, toPy, PyData.eqv]
@[simp] theorem deq_str_tup (xs : List D) (i : Str) : deq (.str i) (.tup xs) = false := by simp [deq, toPy, PyData.eqv]
@[simp] theorem deq_tup_bl (xs : List D) (i : Bool) : deq (.tup xs) (.bl i) = false := by simp [deq, toPy, PyData.eqv]
@[simp] theorem deq_bl_tup (xs : List D) (i : Bool) : deq (.bl i) (.tup xs) = false := by simp [deq, toPy, PyData.eqv]

/-! ### indices by numbers -/
@[simp] theorem atI_zero {α : Type} (x : α) (xs : List α) : L2.atI (x :: xs) 0 = some x := atI_nat (j := 0) rfl
@[simp] theorem atI_one {α : Type} (x y : α) (xs : List α) : L2.atI (x :: y :: xs) 1 = some y := atI_nat (j := 1) rfl
@[simp] theorem atI_two {α : Type} (x y z : α) (xs : List α) : L2.atI (x :: y :: z :: xs) 2 = some z := atI_nat (j := 2) rfl

/-! ### steps of a block -/
theorem sSeq_nx {m1 m2 : MS} {env env' : SE} {s s' : DS} (h : m1 env s = .ok (.nx env') s') : sSeq m1 m2 env s = m2 env' s' := by simp [h]
theorem sSeq_rt {m1 m2 : MS} {env : SE} {s s' : DS} {d : D} (h : m1 env s = .ok (.rt d) s') : sSeq m1 m2 env s = .ok (.rt d) s' := by simp [h]
theorem runDef_rt {n : Nat} {m : MS} {ds : List D} {s s' : DS} {d : D} (h : m (startE n ds) s = .ok (.rt d) s') : runDef n m ds s = .ok d s' := by
  unfold runDef; rw [h]; rfl

/-! ### the draws -/
def StateOk (s : DS) : Prop := ∃ at' cells, s = some (at', cells) ∧ cells.length ≠ 0
theorem stateOk_st (ns : List Int) : StateOk (some (0, stCells ns)) := by
  refine ⟨0, stCells ns, rfl, ?_⟩
  unfold stCells
  simp only []
  split
  · simp
  · assumption
theorem fTake_ok {s : DS} (h : StateOk s) (most : Int) (hm : TakeOk most) : ∃ r s', fTake [.st, .int most] s = .ok (.int r) s' ∧ StateOk s' ∧ 0 ≤ r ∧ (r < most ∨ (most < 2 ∧ r = 0)) := by
  obtain ⟨at', cells, rfl, hc⟩ := h
  refine ⟨(takeC most at' cells).1, some ((takeC most at' cells).2.1, (takeC most at' cells).2.2), by simp [fTake, hc, hm], ?_⟩
  unfold takeC
  split
  · exact ⟨⟨at', cells, rfl, hc⟩, Int.le_refl _, .inr ⟨by assumption, rfl⟩⟩
  · rename_i h2
    simp only []
    split
    · exact ⟨⟨_, _, rfl, by simpa using hc⟩, Int.emod_nonneg _ (by omega), .inl (Int.emod_lt_of_pos _ (by omega))⟩
    · exact ⟨⟨_, _, rfl, hc⟩, Int.emod_nonneg _ (by omega), .inl (Int.emod_lt_of_pos _ (by omega))⟩
end
end L2.Mir

set_option Elab.async false
set_option linter.all false
set_option maxRecDepth 100000
namespace L2.Mir
open PySem PySem.Spec PyProof.Rows
noncomputable section

/-! ### the greatest common divisor by rests -/
theorem gcd_step (a b : Int) : Int.gcd b (a % b) = Int.gcd a b := by
  have h := Int.gcd_mul_left_add_left b (a % b) (a / b)
  rw [Int.mul_ediv_add_emod] at h
  rw [h, Int.gcd_comm]
/-- a loop of turns that makes (a, b) into (b, a mod b) till b is 0 -/
theorem gcd_turns {B : MS} {p : Pat} {i : Nat} {E : Int → Int → Sl → SE} (hp : p = .n i) (h0 : ∀ a t s, B (E a 0 t) s = .ok (.bk (E a 0 t)) s) (h1 : ∀ a b t s, 0 < b → B (E a b t) s = .ok (.nx (E b (a % b) t)) s)
    (hset : ∀ a b t d, (E a b t).set i (.val d) = E a b (.val d)) (s : DS) : ∀ (k : Nat) (a b : Int) (t : Sl) (ds : List D), 0 ≤ a → 0 ≤ b → b < 2 ^ k → 2 * k + 1 ≤ ds.length →
    ∃ t', forGo p B ds (E a b t) s = .ok (.nx (E (Int.gcd a b) 0 t')) s := by
  subst hp
  intro k
  induction k with
  | zero =>
    intro a b t ds ha hb hk hl
    have e : b = 0 := by simp at hk; omega
    subst e
    cases ds with
    | nil => simp at hl
    | cons d r => exact ⟨.val d, by simp [forGo, hset, h0, Int.natAbs_of_nonneg ha]⟩
  | succ k ih =>
    intro a b t ds ha hb hk hl
    by_cases e : b = 0
    · subst e
      cases ds with
      | nil => simp at hl
      | cons d r => exact ⟨.val d, by simp [forGo, hset, h0, Int.natAbs_of_nonneg ha]⟩
    · have hp : 0 < b := by omega
      have r0 : 0 ≤ a % b := Int.emod_nonneg _ e
      have r1 : a % b < b := Int.emod_lt_of_pos _ hp
      match ds, hl with
      | d :: d' :: r, hl =>
        by_cases e2 : a % b = 0
        · refine ⟨.val d', ?_⟩
          have g := gcd_step a b
          rw [e2] at g
          simp only [Int.gcd_zero] at g
          have hh : (b.natAbs : Int) = b := Int.natAbs_of_nonneg hb
          rw [g] at hh
          simp [forGo, hset, h1 _ _ _ _ hp, e2, h0, hh]
        · have hp2 : 0 < a % b := by omega
          have q0 : 0 ≤ b % (a % b) := Int.emod_nonneg _ e2
          have q1 : b % (a % b) < a % b := Int.emod_lt_of_pos _ hp2
          have q2 : b % (a % b) + (a % b) * (b / (a % b)) = b := Int.emod_add_mul_ediv ..
          have q3 : 1 ≤ b / (a % b) := Int.le_ediv_of_mul_le hp2 (by omega)
          have q4 : (a % b) * 1 ≤ (a % b) * (b / (a % b)) := Int.mul_le_mul_of_nonneg_left q3 r0
          have q5 : b % (a % b) < 2 ^ k := by
            have : (2 : Int) ^ (k + 1) = 2 * 2 ^ k := by rw [Int.pow_succ]; omega
            omega
          obtain ⟨t', ht⟩ := ih (a % b) (b % (a % b)) (.val d') r r0 q0 q5 (by simp at hl; omega)
          rw [gcd_step, gcd_step] at ht
          exact ⟨t', by simp [forGo, hset, h1 _ _ _ _ hp, h1 _ _ _ _ hp2, ht]⟩
      | [d], hl => simp at hl
      | [], hl => simp at hl

/-! ### sizes -/
theorem mulOk_of {i j : Int} {a b : Nat} (ha : i.natAbs < 2 ^ a) (hb : j.natAbs < 2 ^ b) (h : a + b ≤ 1000000) : mulOk i j = true := by
  unfold mulOk
  refine @decide_eq_true _ (_) ?_
  by_cases h0 : a = 0
  · subst h0
    left
    have : i.natAbs < 1 := by simpa using ha
    omega
  · by_cases h1 : b = 0
    · subst h1
      right; left
      have : j.natAbs < 1 := by simpa using hb
      omega
    · right; right
      have x := log2_lt_of_pow ha (by omega)
      have y := log2_lt_of_pow hb (by omega)
      omega

@[simp] theorem mulOk_L {i j : Int} (h : i.natAbs < 18446744073709551616) : mulOk i j = true := by
  unfold mulOk; refine @decide_eq_true _ (_) ?_; left; omega
@[simp] theorem mulOk_R {i j : Int} (h : j.natAbs < 18446744073709551616) : mulOk i j = true := by
  unfold mulOk; refine @decide_eq_true _ (_) ?_; right; left; omega

/-! ### parts are rational numbers -/
def qD (q : Rat) : D := .tup [.int q.num, .int q.den]
theorem qD_inj {x y : Rat} (h : qD x = qD y) : x = y := by
  simp only [qD, D.tup.injEq, List.cons.injEq, D.int.injEq, and_true] at h
  exact Rat.ext h.1 (by omega)
@[simp] theorem okD_q (n : Nat) (q : Rat) : okD (n + 1) (qD q) = true := by simp [qD]
@[simp] theorem okD_q60 (q : Rat) : okD 60 (qD q) = true := okD_q 59 q
@[simp] theorem flat_q (q : Rat) : D.flat (qD q) = true := by simp [qD]
@[simp] theorem deq_q (x y : Rat) : deq (qD x) (qD y) = decide (x = y) := by
  simp only [qD, deq_tup, deqs_cons, deq_int, deqs_nil, Bool.and_true]
  rw [← Bool.decide_and]
  congr 1
  simp only [eq_iff_iff]
  exact ⟨fun h => Rat.ext h.1 (by omega), fun h => by subst h; simp⟩
@[simp] theorem isNonD_q (q : Rat) : isNonD (qD q) = some false := rfl
@[simp] theorem tyN_q (q : Rat) : tyN (qD q) = some "tuple" := rfl
/-- sizes of parts, in binary digits -/
def szQ (k : Nat) (q : Rat) : Prop := q.num.natAbs < 2 ^ k ∧ q.den < 2 ^ k
theorem szQ.mono {k j : Nat} {q : Rat} (h : szQ k q) (hj : k ≤ j) : szQ j q :=
  ⟨Nat.lt_of_lt_of_le h.1 (Nat.pow_le_pow_right (by decide) hj), Nat.lt_of_lt_of_le h.2 (Nat.pow_le_pow_right (by decide) hj)⟩
theorem divInt_sz {a b : Int} {k : Nat} (ha : a.natAbs < 2 ^ k) (hb : b.natAbs < 2 ^ k) (hb0 : b ≠ 0) : szQ k (Rat.divInt a b) := by
  refine ⟨?_, ?_⟩
  · rw [Rat.num_divInt]
    refine Nat.lt_of_le_of_lt ?_ ha
    have h1 : ((b.gcd a : Nat) : Int) ∣ b.sign * a := Int.dvd_mul_of_dvd_right (Int.gcd_dvd_right ..)
    rw [Int.natAbs_ediv_of_dvd h1, Int.natAbs_mul]
    refine Nat.le_trans (Nat.div_le_self _ _) ?_
    have : b.sign.natAbs ≤ 1 := by
      rcases Int.lt_trichotomy b 0 with h | h | h
      · rw [Int.sign_eq_neg_one_of_neg h]; decide
      · omega
      · rw [Int.sign_eq_one_of_pos h]; decide
    exact Nat.le_trans (Nat.mul_le_mul_right _ this) (by omega)
  · rw [Rat.den_divInt, if_neg hb0]
    exact Nat.lt_of_le_of_lt (Nat.div_le_self _ _) hb
theorem pow_lt_mul {a b i j : Nat} (ha : a < 2 ^ i) (hb : b < 2 ^ j) : a * b < 2 ^ (i + j) := by
  rw [Nat.pow_add]; exact Nat.mul_lt_mul'' ha hb
theorem den_ne (q : Rat) : (q.den : Int) ≠ 0 := by have := q.den_pos; omega
theorem add_divInt (x y : Rat) : Rat.divInt (x.num * y.den + y.num * x.den) (x.den * y.den) = x + y := by
  rw [Rat.add_def', ← Rat.divInt_ofNat]; simp
theorem sub_divInt (x y : Rat) : Rat.divInt (x.num * y.den - y.num * x.den) (x.den * y.den) = x - y := by
  rw [Rat.sub_def', ← Rat.divInt_ofNat]; simp
theorem mul_divInt (x y : Rat) : Rat.divInt (x.num * y.num) (x.den * y.den) = x * y := by
  rw [Rat.mul_def', ← Rat.divInt_ofNat]; simp
theorem div_divInt (x y : Rat) : Rat.divInt (x.num * y.den) (x.den * y.num) = x / y := by
  rw [Rat.div_def, Rat.inv_def, ← Rat.num_divInt_den x, Rat.divInt_mul_divInt, Rat.num_divInt_den]
theorem szQ.mul {x y : Rat} {i j : Nat} (hx : szQ i x) (hy : szQ j y) : szQ (i + j) (x * y) := by
  rw [← mul_divInt]
  refine divInt_sz ?_ ?_ (by simp [x.den_nz, y.den_nz])
  · rw [Int.natAbs_mul]; exact pow_lt_mul hx.1 hy.1
  · rw [Int.natAbs_mul]; exact pow_lt_mul hx.2 hy.2
theorem szQ.neg {x : Rat} {i : Nat} (hx : szQ i x) : szQ i (-x) := ⟨by simpa using hx.1, hx.2⟩
theorem szQ.add {x y : Rat} {i j : Nat} (hx : szQ i x) (hy : szQ j y) : szQ (i + j + 1) (x + y) := by
  rw [← add_divInt]
  have h1 := pow_lt_mul hx.1 hy.2
  have h2 := pow_lt_mul hy.1 hx.2
  rw [Nat.add_comm j i] at h2
  refine divInt_sz ?_ ?_ (by simp [x.den_nz, y.den_nz])
  · refine Nat.lt_of_le_of_lt (Int.natAbs_add_le _ _) ?_
    rw [Int.natAbs_mul, Int.natAbs_mul, Int.natAbs_natCast, Int.natAbs_natCast, Nat.pow_succ]
    omega
  · rw [Int.natAbs_mul, Int.natAbs_natCast, Int.natAbs_natCast]
    have := pow_lt_mul hx.2 hy.2
    rw [Nat.pow_succ]
    omega
theorem szQ.sub {x y : Rat} {i j : Nat} (hx : szQ i x) (hy : szQ j y) : szQ (i + j + 1) (x - y) := by
  rw [Rat.sub_eq_add_neg]; exact hx.add hy.neg
/-- a normal pair -/
theorem qD_divInt (a b : Int) (hb : 0 < b) : qD (Rat.divInt a b) = .tup [.int (a / (Int.gcd a b : Nat)), .int (b / (Int.gcd a b : Nat))] := by
  unfold qD
  rw [Rat.num_divInt, Rat.den_divInt, if_neg (by omega), Int.sign_eq_one_of_pos hb, Int.one_mul, Int.gcd_comm b a]
  congr 3
  rw [Int.natCast_ediv]
  congr 2
  omega
end
end L2.Mir
namespace L2.Mir
open PySem PySem.Spec PyProof.Rows
noncomputable section
/-! ### comprehensions as maps -/
theorem lcGo_map {f : D → M (Option D)} {g : D → D} {s : DS} : ∀ {ds : List D}, (∀ d ∈ ds, f d s = .ok (some (g d)) s) → lcGo f ds s = .ok (ds.map g) s
  | [], _ => rfl
  | d :: ds, h => by
    simp only [lcGo]
    rw [h d List.mem_cons_self, bind_ok, lcGo_map fun x hx => h x (List.mem_cons_of_mem _ hx)]
    rfl
theorem lcGo_id {f : D → M (Option D)} {s : DS} {ds : List D} (h : ∀ d ∈ ds, f d s = .ok (some d) s) : lcGo f ds s = .ok ds s := by
  rw [lcGo_map (g := id) h, List.map_id]
theorem lcGo_filter {f : D → M (Option D)} {p : D → Bool} {s : DS} : ∀ {ds : List D}, (∀ d ∈ ds, f d s = .ok (if p d = true then some d else none) s) → lcGo f ds s = .ok (ds.filter p) s
  | [], _ => rfl
  | d :: ds, h => by
    simp only [lcGo]
    rw [h d List.mem_cons_self, bind_ok, lcGo_filter fun x hx => h x (List.mem_cons_of_mem _ hx), bind_ok]
    cases q : p d <;> simp [q]
/-- .. over encoded items -/
theorem lcGo_mapE {α : Type} {f : D → M (Option D)} {e : α → D} {g : α → D} {s : DS} : ∀ {l : List α}, (∀ a ∈ l, f (e a) s = .ok (some (g a)) s) → lcGo f (l.map e) s = .ok (l.map g) s
  | [], _ => rfl
  | d :: ds, h => by
    simp only [lcGo, List.map_cons]
    rw [h d List.mem_cons_self, bind_ok, lcGo_mapE fun x hx => h x (List.mem_cons_of_mem _ hx)]
    rfl
theorem rngD_len (lo hi : Int) : (rngD lo hi).length = (hi - lo).toNat := by simp [rngD]
theorem rngD_nat (n : Nat) : rngD 0 n = (List.range n).map fun (i : Nat) => D.int i := by
  unfold rngD
  simp
theorem atI_getElem {α : Type} {xs : List α} {i : Nat} (h : i < xs.length) : L2.atI xs (i : Int) = some xs[i] := atI_nat (List.getElem?_eq_getElem h)
/-- draws fill a list -/
theorem lcGo_draw {f : D → M (Option D)} {P : D → Prop} (h : ∀ d s, StateOk s → ∃ y s', f d s = .ok (some y) s' ∧ StateOk s' ∧ P y) : ∀ (ds : List D) (s : DS), StateOk s → ∃ ys s', lcGo f ds s = .ok ys s' ∧ StateOk s' ∧ ys.length = ds.length ∧ ∀ y ∈ ys, P y
  | [], s, hs => ⟨[], s, rfl, hs, rfl, by simp⟩
  | d :: ds, s, hs => by
    obtain ⟨y, s1, h1, h2, h3⟩ := h d s hs
    obtain ⟨ys, s2, g1, g2, g3, g4⟩ := lcGo_draw h ds s1 h2
    refine ⟨y :: ys, s2, by simp [lcGo, h1, g1], g2, by simp [g3], fun z hz => ?_⟩
    rcases List.mem_cons.mp hz with rfl | hz
    · exact h3
    · exact g4 z hz
end
end L2.Mir

set_option Elab.async false
set_option linter.all false
set_option maxRecDepth 100000
set_option maxHeartbeats 4000000
namespace L2.Mir
open PySem PySem.Spec PyProof.Rows
noncomputable section

/-! ### exceptions of the program's own: their making says super().__init__(pre + par), then self.fld = par -/
/-- the j-th def of a class's text -/
def inCls (s : Stmt) (j : Nat) : Stmt := match s with
  | .ClassDef _ _ _ b _ _ _ _ _ _ _ => b.getD j (.Pass ⟨0, 0, 0, 0⟩)
  | _ => .Pass ⟨0, 0, 0, 0⟩
structure ExI (P : Program) (K : PySem.W.Frag) (C : Addr) (qual par fld pre : Str) (st : Stmt) : Prop where
  cls : OexC K C
  ve : PySem.W.subIn K (.ref C) (.type "ValueError") = some true
  me : PySem.W.mroIn K C (.ref C) = some true
  sup : PySem.W.ks_superIn K C C "__init__" = some (some (.builtin "ValueError.__init__"))
  tp : PySem.W.nsIn K cStatics "thirdparty.any" = some none
  fno : PySem.W.findIn K (.ref C) fld = some none
  fn : ∃ (fI cc cda : Addr) (oc : Value) (od : Option Addr) (kV doc pm : Value) (an : Option Addr) (ct : Value) (osl : Array (Option Value)) (ccl : Value) (cdd : Option Addr) (vs : Array Value) (ccs : Array (Option Value)) (cl : Value) (cld : Option Addr) (csl : Array (Option Value)) (file : Str) (tf : Tok),
    PySem.W.findIn K (.ref C) "__init__" = some (some (.ref fI)) ∧ PySem.W.typeIn K (.ref fI) = some (.type "function") ∧
    K.lookup fI = some ⟨oc, od, .func (PySem.W.ksFn "__init__" qual (defArgs st) (defBody st) (defScope st) .none kV doc pm an (.ref cda) ct cc), osl⟩ ∧ PySem.W.codeIn K (.ref cda) qual = true ∧
    K.lookup cda = some ⟨ccl, cdd, .fields vs, ccs⟩ ∧ vs[2]? = some (.str file tf) ∧ ((P.main.file : Str) == file) = true ∧ K.lookup cc = some ⟨cl, cld, .cell (some (.ref C)), csl⟩
  top : (P.main.scope.names.lookup ("super" : Str)).isSome = false
  bnd : ∀ (kV doc pm : Value) (an : Option Addr) (cdv ct : Value) (cc : Addr) (a b : Value), bindArgs (PySem.W.ksFn "__init__" qual (defArgs st) (defBody st) (defScope st) .none kV doc pm an cdv ct cc) ⟨[a, b], []⟩ = pure [(("self" : Str), a), (par, b)]
  scK : (defScope st).kind = .function
  scC : (defScope st).isCoroutine = false
  scG : (defScope st).isGenerator = false
  scS : (defScope st).names.lookup ("super" : Str) = some .globalImplicit
  scF : (defScope st).names.lookup ("__class__" : Str) = some .free
  sc0 : (defScope st).names.lookup ("self" : Str) = some .local
  sc1 : (defScope st).names.lookup par = some .local
  scN : ∀ x ∈ (defScope st).names, x.2 ≠ .cell
  ne : par ≠ "self"
  head : ∃ ar : Arg, ((defArgs st).posonlyargs ++ (defArgs st).args).head? = some ar ∧ ar.arg = "self"
  body : ∃ (p0 p1 p2 p3 p4 p5 p6 p7 p8 p9 p10 p11 : Pos) (j : Nat), defBody st = [.Expr (.Call (.Attribute (.Call (.Name "super" p0) [] [] p1) "__init__" p2) [.BinOp (.Constant (.str pre) j p3) .Add (.Name par p4) p5] [] p6) p7,
    .Assign [.Attribute (.Name "self" p8) fld p9] (.Name par p10) p11] ∧ (p2.endLine == p6.line) = true
  nd : (par == ("__debug__" : Str)) = false
section
variable {P : Program} {w : World} {A : Around} {E : Value → Shared → Prop} {K : PySem.W.Frag} {C : Addr} {qual par fld pre : Str} {st : Stmt} {mg mb : Str → Option Value}
theorem super_form {env : Env} {o e : Expr} {nm : Str} {p2 p6 : Pos} (hl : (p2.endLine == p6.line) = true) (he : starEach [e] env = [(false, eval e env)] := by rfl) : eval (.Call (.Attribute o nm p2) [e] [] p6) env = (do
      let ov ← attributeBase o nm env (eval o env)
      standAt p2.atName
      let (f, first) ← holding [ov] (getMethod ov nm (do return (← importBound o env).getD true))
      callWith p6 f first (backTo p6 (starEach [e] env)) []) := by
  have hp : methodCallPos true o env p2 p6 = pure p6 := by
    unfold methodCallPos
    rw [hl]
    rfl
  show (do
    let ov ← attributeBase o nm env (eval o env)
    standAt p2.atName
    methodCall o nm p2 p6 env ov 1 (backTo p6 (starEach [e] env)) []) = _
  unfold methodCall
  rw [he]
  have hf : methodCallForm 1 (backTo p6 [(false, eval e env)]) [] = true := rfl
  rw [hf, hp]
  rfl
theorem exi_call (T : ExI P K C qual par fld pre st) {h : Heap} {g : Array GenState} {d : Drawn} {t : Nat} {os : OsState} {v : Str} {tk : Tok} {Q : Value → Shared → Prop} (X : K.In h) (hr : Room 1 A)
    (hg : h.Ns mainGlobals mg) (hms : mg "super" = none) (hb : h.Ns builtinsNs mb) (hbs : mb "super" = some (.type "super")) (lim : h.NoLimit) (hl : pre.length + v.length ≤ sizeLine)
    (hq : ∀ (h' : Heap) (t' : Nat) (e dx t0 : Addr), (∀ b o, h.get? b = some o → h'.get? b = some o) → h.objs.size ≤ e → h.objs.size ≤ dx → dx ≠ e →
      h'.get? e = some ({ cls := .ref C, dict := some dx, data := .fields #[.ref t0, .none, .none, .none, .bool false, .none] } : Obj) → h'.Ns1 dx (fun y => if y = fld then some (.str v tk) else none) → Q (.ref e) ⟨h', g, d, t', os⟩) :
    wpAny (model P w) A (call (.ref C) [.str v tk]) Q E ⟨h, g, d, t, os⟩ := by
  obtain ⟨nm, q, N, bs, bm, sn, sub, ab, col, dd, k0, k1, k2, k3, k5, hC, hbm⟩ := T.cls.cls
  obtain ⟨fI, cc, cda, oc, od, kV, doc, pm, an, ct, osl, ccl, cdd, vs, ccs, cl, cld, csl, file, tf, iI, iT, iL, iC, iD, iF, iM, iX⟩ := T.fn
  obtain ⟨p0, p1, p2, p3, p4, p5, p6, p7, p8, p9, p10, p11, j, hbody, hline⟩ := T.body
  obtain ⟨ar, har, hself⟩ := T.head
  have hcl : PySem.W.clsIn K C = some { name := nm, bases := bs, mro := .ref C :: bm, ns := N, qualname := q, hasDict := true, slotNames := sn, subclasses := sub, abstract := ab, collection := col, hasDel := false } := by unfold PySem.W.clsIn; rw [hC] <;> rfl
  have kA : ∀ b o, h.get? b = some o → ((h.push (PySem.W.kdv_tup [.str v tk])).push (PySem.HandSPX.excO C h.objs.size)).get? b = some o := fun b o e => Heap.get?_push_of_some _ (Heap.get?_push_of_some _ e)
  have eA : ((h.push (PySem.W.kdv_tup [.str v tk])).push (PySem.HandSPX.excO C h.objs.size)).get? (h.objs.size + 1) = some (PySem.HandSPX.excO C h.objs.size) := by heap_get
  have hne : ∀ {b : Addr} {o : Obj}, h.get? b = some o → b ≠ h.objs.size + 1 := fun {b o} z => Nat.ne_of_lt (Nat.lt_succ_of_lt (Heap.lt_size z))
  refine wpAny_call (PySem.HandSPX.call_own PySem.F.excBase_ValueError (fun Y => PySem.HandSPX.refsVE_contains Y bm hbm) (X _ _ hC) (PySem.W.looks_findIn X iI) (fun self => PySem.W.bind_fn X self iT) (by show 1 ≤ sizeLine; rw [sizeLine_eq]; decide) ?_)
  generalize (h.push (PySem.W.kdv_tup [.str v tk])).push (PySem.HandSPX.excO C h.objs.size) = hA at *
  generalize he : h.objs.size + 1 = e at *
  have XA : K.In hA := X.keeps kA
  refine ks_codeAny_call_defAt (fd := PySem.W.ksFn "__init__" qual (defArgs st) (defBody st) (defScope st) .none kV doc pm an (.ref cda) ct cc) (body := defBody st) (binds := [(("self" : Str), .ref e), (par, .str v tk)]) (hr.make C [.str v tk] []).depth (XA _ _ iL) rfl (lim.keeps kA) (PySem.W.codeRec_of XA iC) rfl (.of_eq (T.bnd ..)) T.scN ?_ (fun hB hns kB => ?_) T.scC T.scG T.scK
  · intro x hx
    rcases List.mem_cons.mp hx with rfl | hx
    · exact T.sc0
    · rcases List.mem_cons.mp hx with rfl | hx
      · exact T.sc1
      · cases hx
  · generalize hA' : (A.under (.builtin "type.__call__" ⟨.ref C :: [.str v tk], []⟩)) = A1
    show _root_.PySem.wpAt _ (A1.deeper (PySem.W.ksEnv qual (defScope st) hA.objs.size fI (.ref cda) cc)) (.func (defBody st) (PySem.W.ksEnv qual (defScope st) hA.objs.size fI (.ref cda) cc)) (execs (defBody st) (PySem.W.ksEnv qual (defScope st) hA.objs.size fI (.ref cda) cc)) _ _ _
    rw [hbody]
    have XB : K.In hB := XA.keeps kB
    have gB : hB.Ns mainGlobals mg := hg.keeps fun b o z => kB b o (kA b o z)
    have bB : hB.Ns builtinsNs mb := hb.keeps fun b o z => kB b o (kA b o z)
    have eB := kB _ _ eA
    have hks : (PySem.W.ksEnv qual (defScope st) hA.objs.size fI (.ref cda) cc).kindOf "super" = some .globalImplicit := T.scS
    have hkc : (PySem.W.ksEnv qual (defScope st) hA.objs.size fI (.ref cda) cc).kindOf "__class__" = some .free := T.scF
    have hk0 : (PySem.W.ksEnv qual (defScope st) hA.objs.size fI (.ref cda) cc).kindOf "self" = some .local := T.sc0
    have hk1 : (PySem.W.ksEnv qual (defScope st) hA.objs.size fI (.ref cda) cc).kindOf par = some .local := T.sc1
    have hkk : (PySem.W.ksEnv qual (defScope st) hA.objs.size fI (.ref cda) cc).scope.kind = .function := T.scK
    have v0 : (fun x => [(("self" : Str), Value.ref e), (par, .str v tk)].reverse.lookup x) "self" = some (.ref e) := by
      have q : (("self" : Str) == par) = false := by simpa using T.ne.symm
      simp [List.lookup, q]
    have v1 : (fun x => [(("self" : Str), Value.ref e), (par, .str v tk)].reverse.lookup x) par = some (.str v tk) := by
      simp [List.lookup]
    have hi : interactive (PySem.W.ksEnv qual (defScope st) hA.objs.size fI (.ref cda) cc) = false := by
      unfold interactive
      rw [hkk]
      rfl
    refine ks_wpAt_execs_cons (ks_wpAt_Expr_any (ks_wpAt_MethodCall (pl := do return (← importBound (.Call (.Name "super" p0) [] [] p1) (PySem.W.ksEnv qual (defScope st) hA.objs.size fI (.ref cda) cc)).getD true) ?_ (super_form hline)) hi)
    refine ks_wpAt_super_base hks hkc rfl rfl (XB _ _ iL) rfl har rfl (XB _ _ iD) rfl iF iM T.top ?_
    refine PySem.W.ks_loadName_global hkk hks (Calls.loadGlobal_builtin gB hms bB hbs ⟨rfl, ?_⟩)
    refine wpAny_loadName_free hkk hkc rfl ⟨_, XB _ _ iX, rfl⟩ ?_
    rw [hself]
    refine wpAny_loadName_local hkk hk0 hns v0 ?_
    refine ks_wpAny_isType_cls (XB _ _ hC) rfl ⟨rfl, ?_⟩
    refine ks_wpAny_call_super (XB _ _ hC) rfl eB rfl (fun c z => by cases z) (PySem.W.looks_mroIn XB T.me) (fun hD eD kD => ?_)
    have XD : K.In hD := XB.keeps kD
    have iD' := kD _ _ eB
    have hfa : PySem.W.alongIn K "__init__" (((Value.ref C :: bm).dropWhile (· != .ref C)).drop 1) = some (some (.builtin "ValueError.__init__")) := by
      have z := T.sup
      unfold PySem.W.ks_superIn at z
      rw [hcl] at z
      exact z
    have hcn : e ≠ C := fun z => hne (X _ _ hC) z.symm
    have ID : PySem.W.InstAt hD e (PySem.HandSPX.excO C h.objs.size) C none := ⟨iD', rfl, rfl, trivial⟩
    refine PySem.W.kxs_getMethod PySem.W.kxs_ValueError eD (PySem.W.looks_opaque XD T.tp) (l₀ := .ref C :: bm) (fun A Q E s k q => wpAny_bind ((PySem.W.looks_clsIn XD hcl) A _ E s k (wpAny_pure q))) rfl XD hfa (ID.type.andThen (PySem.W.looks_subIn XD T.ve)) hcn rfl ?_
    have hu : (hD.push (PySem.W.kxs_mw "ValueError.__init__" e)).get? hD.objs.size = some (PySem.W.kxs_mw "ValueError.__init__" e) := Heap.get?_push_at rfl rfl
    have kU : ∀ b o, hD.get? b = some o → (hD.push (PySem.W.kxs_mw "ValueError.__init__" e)).get? b = some o := fun b o z => Heap.get?_push_of_some _ z
    have eU := kU _ _ iD'
    generalize hD.push (PySem.W.kxs_mw "ValueError.__init__" e) = hU at *
    have XU : K.In hU := XD.keeps kU
    have nU := hns.keeps fun b o z => kU b o (kD b o z)
    refine PySem.W.kxs_callWith (i := "ValueError.__init__") (x := e) rfl ?_
    refine Calls.evalArgs_plain (Calls.spliced_cons ?_)
    refine wpAny_BinOp (Calls.Constant_str ?_)
    refine wpAny_Name (wpAny_loadName_local hkk hk1 nU v1 ?_) T.nd
    refine PyProof.Rows.add_str (fun t' tk' => ?_) hl
    refine Calls.spliced_nil ⟨hu, ?_⟩
    have FB := PySem.F.excBase_ValueError
    refine wpAny_call (codeAny_of_tree ?_)
    show wpAny _ _ (callAny (.ref hD.objs.size) ⟨[.str (pre ++ v) t'], []⟩) _ _ _
    simp only [callAny]
    refine wpAny_bind (wpAny_load hu ?_)
    simp only [PySem.W.kxs_mw, show (Value.type "method-wrapper" == Value.type "method" || Value.type "method-wrapper" == Value.type "builtin_function_or_method" || Value.type "method-wrapper" == Value.type "method-wrapper") = true by decide, if_true]
    refine PySem.W.KFB.if_so (by decide) ?_
    refine wpAny_bind (PySem.W.check_bound_init FB.toExcCallFacts (XU _ _ hC) eU rfl ?_)
    refine wpAny_bind (wpAny_pure (wpAny_pure ?_))
    refine ⟨plainId_quiet FB.init.plain _, codeAny_builtin FB.initEntry ?_⟩
    refine PySem.W.exc_init_tree (cls := .ref C) (t0 := h.objs.size) (dv := none) (c2 := .none) (c3 := .none) (b4 := .bool false) eU (by show 1 ≤ sizeLine; rw [sizeLine_eq]; decide) (fun hE kE eE tE => ?_)
    have sB : ∀ b o, hA.get? b = some o → hU.get? b = some o := fun b o z => kU b o (kD b o (kB b o z))
    have sE : ∀ b o, h.get? b = some o → hE.get? b = some o := fun b o z => kE b o (hne z) (sB b o (kA b o z))
    have XE : K.In hE := X.keeps sE
    have lA : hA.objs.size ≠ e := fun z => by
      have := Heap.lt_size eA
      rw [z] at this
      exact absurd this (Nat.lt_irrefl _)
    have nE : hE.Ns hA.objs.size (fun x => [(("self" : Str), Value.ref e), (par, .str v tk)].reverse.lookup x) := by
      obtain ⟨oL, es, ep, hL, r⟩ := nU
      exact ⟨oL, es, ep, kE _ _ lA hL, r⟩
    refine ks_wpAt_execs_cons (ks_wpAt_Assign_Attr (wpAt_of_wpAny (wpAny_Name (wpAny_loadName_local hkk hk1 nE v1 ?_) T.nd)) rfl)
    refine wpAny_Name (wpAny_loadName_local hkk hk0 nE v0 ?_)
    refine PySem.W.set_plain XE (ox := { cls := .ref C, data := .fields #[.ref hU.objs.size, .none, .none, .none, .bool false, .none] }) (od := none) ⟨eE, rfl, rfl, trivial⟩ T.cls.sa ?_
    refine PySem.HandSPX.exc_osa XE eE hcl (show PySem.HandSPX.refsVE (.ref C :: bm) = true from hbm) rfl T.fno (fun h' tk' dx k dn dne hx hn => ?_)
    refine wpAt_of_wpAny (wpAny_execs_nil ?_)
    refine ⟨rfl, hq h' _ e dx hU.objs.size (fun b o z => k b o (hne z) (sE b o z)) (by omega) ?_ dne hx hn⟩
    have z : e < hE.objs.size := Heap.lt_size eE
    rw [← he] at z
    exact Nat.le_trans (Nat.le_of_lt (Nat.lt_of_succ_lt z)) dn
/-- .. as a rule: what a raise raises -/
theorem pmk_exi {X : Cx} (T : ExI X.prog X.K C qual par fld pre st) {x : Str} {e : Expr} {ta : TA} {p pos : Pos} (hr : Room 1 X.A) (hg : Gl X x) (hm : X.mg x = some (.ref C)) (hs : X.mg "super" = none) (ha : PA X [e] ta)
    (hdb : (x == ("__debug__" : Str)) = false := by decide) (he : starEach [e] X.env = (false, eval e X.env) :: starEach [] X.env := by rfl) (hpl : (backTo pos (starEach [] X.env)).any (·.1) = false := by rfl) :
    PMk X (.Call (.Name x p) [e] [] pos) (fun σ H Q => ta σ H fun vs H1 => ∃ v : Str, vs = [.str v] ∧ pre.length + v.length ≤ sizeLine ∧ ∀ dd, H1 dd = none → Q (.ref C) (some dd) (upd H1 dd (.xd [(fld, .str v)]))) := by
  intro pins s σ H Q I h
  refine wpAny_Call_Name_kw (ld_glob I hg hm ?_ hdb)
  refine PySem.W.callWith_K (h₀ := X.base) I.ok.mod.kin T.cls.kC (thn (ha.run pos pins s σ H _ I h) fun us s1 hh => ?_) he hpl
  obtain ⟨vs, H1, I1, r1, v, ev, hz, q1⟩ := hh
  refine ⟨I1.kIn, ?_⟩
  subst ev
  show wpAny _ _ (call (.ref C) us) _ _ _
  cases r1 with
  | @cons _ u _ ur ra rn =>
  cases rn
  obtain ⟨tk, rfl⟩ : ∃ tk, u = .str v tk := ra
  obtain ⟨hp, g, dr, tt, os⟩ := s1
  obtain ⟨mb, hb1, hb2⟩ := I1.mod.blt
  refine exi_call T I1.kIn hr (I1.mod.glob.keeps I1.bk) hs (hb1.keeps I1.bk) ((hb2 _ (by decide)).trans (by rfl)) (I1.mod.nolimit.keeps I1.bk) hz (fun h' t' e dx t0 k he hd hne hx hn => ?_)
  have na : H1 e = none := I1.hok.fresh he
  have nd : H1 dx = none := I1.hok.fresh hd
  have ed : e ≠ dx := Ne.symm hne
  have ht : hp.get? e = none := by
    cases z : hp.get? e with
    | none => rfl
    | some o => exact absurd (Heap.lt_size z) (Nat.not_lt.mpr he)
  obtain ⟨G, g1, g2⟩ := restrict h' fun b => decide (b ≠ e)
  have gk : ∀ b, b ≠ e → G.get? b = h'.get? b := fun b hb => g1 b (decide_eq_true hb)
  have ge : G.get? e = none := g2 e (by simp)
  have kG : ∀ b o, hp.get? b = some o → G.get? b = some o := fun b o z => by
    have hb : b ≠ e := fun y => by rw [y, ht] at z; cases z
    rw [gk b hb]
    exact k b o z
  have J := I1.laid (a := dx) (o := .xd [(fld, .str v)]) (t' := t') (h' := G) kG hd ⟨_, hn.at fun o y => (gk dx hne).trans y, fun f => ?_⟩
  · refine ⟨e, _, _, _, _, .ref C, some dx, rfl, J, fun b o z => ?_, ge, hx, ⟨rfl, rfl⟩, rfl, rfl, by rw [upd_ne ed]; exact na, rfl, I1.bare, raises_own T.cls.exC T.cls.tyC, q1 dx nd⟩
    by_cases hb : b = e
    · subst hb
      rw [show (G.get? b) = none from ge] at z
      cases z
    · exact (gk b hb).symm.trans z
  · rw [lookup_put]
    by_cases hf : f = fld
    · rw [if_pos hf, if_pos hf]
      exact ⟨tk, rfl⟩
    · rw [if_neg hf, if_neg hf]
      exact True.intro
end
end
end L2.Mir

set_option Elab.async false
set_option linter.all false
set_option maxRecDepth 100000
set_option maxHeartbeats 4000000
namespace L2.Mir
open PySem PySem.Spec PyProof.Rows
noncomputable section

/-! ### exceptions by value: class k of the list, its one field a text -/
def xrOf (cs : List (Addr × Str)) : XR := fun _ x c dd H => ∃ (C : Addr) (fld w : Str) (d : Addr), cs[x.kind]? = some (C, fld) ∧ x.args = [.str w] ∧ c = .ref C ∧ dd = some d ∧ H d = some (.xd [(fld, .str w)])
@[simp] def sRaise (k : Nat) (w : Str) : MS := fun _ s => .exc ⟨k, [.str w]⟩ s
section
variable {X : Cx} {G : Gx} {C : Addr} {qual par fld pre w x : Str} {st : Stmt} {cs : List (Addr × Str)} {k j : Nat} {p p2 pos pos' : Pos}
theorem es_raise (T : ExI X.prog X.K C qual par fld pre st) (hc : X.calm = true) (tk : Takes X fun c d _ H => G.E c d H) (hx : G.xr = xrOf cs) (hk : cs[k]? = some (C, fld)) (hr : Room 1 X.A) (hm : X.mg x = some (.ref C)) (hs : X.mg "super" = none)
    (hz : pre.length + w.length ≤ sizeLine) (hg : Gl X x := by rfl) (hdb : (x == ("__debug__" : Str)) = false := by decide) : ES X G (.Raise (some (.Call (.Name x p) [.Constant (.str w) j p2] [] pos)) none pos') (sRaise k w) :=
  ps_imp (L2.ps_raise hc tk (pmk_exi T hr hg hm hs (pa_cons pe_str pa_nil) hdb)) fun D σ H h => by
    obtain ⟨H0, W0, pins, W, env, s, ok, h⟩ := h
    refine ⟨w, rfl, hz, fun dd n => ?_⟩
    exact h W (upd H dd (.xd [(fld, .str w)])) _ _ (ok.ext.trans (Ext.new n)) (WS.new n ok.ws) (by rw [hx]; exact ⟨C, fld, w, dd, hk, rfl, rfl, rfl, upd_same⟩)

/-! ### calls of defs that may raise -/
variable {n : Nat} {f : Addr} {fd : FuncData} {ps : List Str} {fm : List D → M D} {xr : XR} {e : Expr} {es : List Expr} {ml : VE → M (List D)}
theorem ee_callX (F : FnOk X.prog X.w X.K X.mg X.base (L2.CX X.prog X.w) k f fd ps (spM X.K G.xr n fm)) (tk : Takes X fun c d _ H => G.E c d H) (hr : Room k X.A) (hm : X.mg x = some (.ref f)) (hk : PySem.W.keepIn X.K (.ref f) = true) (hb : Binds X.K fd ps [])
    (hK : X.K = G.K) (ha : EA X G (e :: es) ml) (hl : LenM ml n) (hg : Gl X x := by rfl) (hdb : (x == ("__debug__" : Str)) = false := by decide) (he : starEach (e :: es) X.env = (false, eval e X.env) :: starEach es X.env := by rfl)
    (hpl : (backTo pos (starEach es X.env)).any (·.1) = false := by rfl) : EE X G (.Call (.Name x p) (e :: es) [] pos) (mCB fm ml) :=
  pe_imp (pe_call (E := G.E) F hr hg hm hk hb .nil (passes_call tk fun _ _ _ _ h => h) ha hdb he hpl) fun σ H Q h => by
    obtain ⟨W, env, s, hen, hs, h⟩ := h
    refine tML_bind hen hs h fun W1 H1 vs ds s1 e1 he1 hs1 rs q h1 => ?_
    exact ⟨by rw [List.append_nil, rs.length, hl _ _ _ _ q], W1, ds, s1, by rw [List.append_nil, hK]; exact rs, hs1, by rw [hK]; exact h1⟩
/-- .. that raises nothing here -/
theorem ee_callL (F : FnOk X.prog X.w X.K X.mg X.base (L2.CX X.prog X.w) k f fd ps (spM X.K xr n fm)) (hr : Room k X.A) (hm : X.mg x = some (.ref f)) (hk : PySem.W.keepIn X.K (.ref f) = true) (hb : Binds X.K fd ps [])
    (hK : X.K = G.K) (ha : EA X G (e :: es) ml) (hl : LenM ml n) (hg : Gl X x := by rfl) (hdb : (x == ("__debug__" : Str)) = false := by decide) (he : starEach (e :: es) X.env = (false, eval e X.env) :: starEach es X.env := by rfl)
    (hpl : (backTo pos (starEach es X.env)).any (·.1) = false := by rfl) : EE X G (.Call (.Name x p) (e :: es) [] pos) (mCall fm ml) :=
  pe_imp (pe_call (E := E0) F hr hg hm hk hb .nil passL ha hdb he hpl) fun σ H Q h => by
    obtain ⟨W, env, s, hen, hs, h⟩ := h
    refine tML_bind hen hs h fun W1 H1 vs ds s1 e1 he1 hs1 rs q h1 => ?_
    refine ⟨by rw [List.append_nil, rs.length, hl _ _ _ _ q], W1, ds, s1, by rw [List.append_nil, hK]; exact rs, hs1, ?_⟩
    cases q2 : fm ds s1 with
    | ok d s2 =>
      rw [q2] at h1
      intro W' H' v ex ws rp
      exact h1 W' H' v ex ws (hK ▸ rp)
    | exc _ _ => rw [q2] at h1; exact h1.elim
    | no => rw [q2] at h1; exact h1.elim
end
/-- a def that may raise -/
theorem fn_okX {P : Program} {w : World} {K : PySem.W.Frag} {mg : Str → Option Value} {base : Heap} {xr : XR} {x qual : Str} {st : Stmt} {f : Addr} {fd : FuncData} {N ps : List Str} {m : MS} {lv n : Nat} {fm : List D → M D} (k : Nat) (hk : lv = k + 1) (hn : n = ps.length) (hf : fm = runDef N.length m) (F : Fun K x qual st f fd) (S : FnScope N ps (defScope st))
    (hbody : ∀ (cdv : Value) (A : Around) (outer : List Env) (s : Shared) (H : Hp) (E : XK), Room k (A.deeper (envOfC qual (defScope st) s.heap.objs.size f cdv)) →
      Takes (cxOf (L2.CX P w) P w K mg base N qual (defScope st) f cdv A outer s H E) (fun c d _ H' => E c d H') →
      PassesOwn (model P w) (A.deeper (envOfC qual (defScope st) s.heap.objs.size f cdv)) (envOfC qual (defScope st) s.heap.objs.size f cdv) (cxOf (L2.CX P w) P w K mg base N qual (defScope st) f cdv A outer s H E).xe →
      ESs (cxOf (L2.CX P w) P w K mg base N qual (defScope st) f cdv A outer s H E) ⟨K, xr, E⟩ (defBody st) m) :
    FnOk P w K mg base (L2.CX P w) lv f fd ps (spM K xr n fm) := by
  subst hk hn hf
  refine F.okX S (fun vs H Q E h => h.1) (fun cdv A outer s H vs Q E hr h => ?_)
  obtain ⟨hl, W, ds, ds', rs, ws, h⟩ := h
  exact ⟨_, hbody cdv A outer s H E hr (takes_of rfl rfl rfl rfl) (passes_of rfl), def_read rs ws h⟩
end
end L2.Mir

set_option Elab.async false
set_option linter.all false
set_option maxRecDepth 100000
set_option maxHeartbeats 4000000
namespace L2.Mir
open PySem PySem.Spec PyProof.Rows
noncomputable section

/-! ### what raises, within a try -/
def tR (K : PySem.W.Frag) (xr : XR) (W : WX) (m : VE → M D) : TE := fun σ H _ => ∃ Wd env s x s', EnvR K Wd H σ env ∧ WS Wd s H ∧ m env s = .exc x s' ∧ ∀ W' H' c dd, Ext Wd H W' H' → WS W' s' H' → xr K x c dd H' → W c dd σ H'
@[simp] def mCR (f : List D → M D) (l : VE → M (List D)) : VE → M D := fun env s => (noX (l env s)).bind f
inductive RR where
  | exc (x : Xc) (env : SE) (s : DS) | no
abbrev MR := SE → DS → RR
def tRS (K : PySem.W.Frag) (xr : XR) (W : WX) (m : MR) : TS := fun _ σ H => ∃ H0 W0 pins Wd env s x env' s', StOk K H0 W0 pins Wd H σ env s ∧ m env s = .exc x env' s' ∧ ∀ W' H' c dd σ', StOk K H0 W0 pins W' H' σ' env' s' → xr K x c dd H' → W c dd σ' H'
@[simp] def rHide (m : VE → M D) : MR := fun env s => match m (hideE env) s with
  | .exc x s' => .exc x env s'
  | _ => .no
@[simp] def rIf (mt : VE → M Bool) (m1 m2 : MR) : MR := fun env s => match mt (viewE env) s with
  | .ok b s' => if b = true then m1 env s' else m2 env s'
  | _ => .no
@[simp] def rSeq (m1 : MS) (m2 : MR) : MR := fun env s => match m1 env s with
  | .ok (.nx env') s' => m2 env' s'
  | _ => .no
@[simp] def rNo : MR := fun _ _ => .no
section
variable {X : Cx} {W : WX} {xr : XR} {k n : Nat} {f : Addr} {fd : FuncData} {ps : List Str} {fm : List D → M D} {x : Str} {p pos : Pos} {e : Expr} {es : List Expr} {ml : VE → M (List D)} {m : VE → M D} {st : Stmt} {rest : List Stmt}
theorem re_call (F : FnOk X.prog X.w X.K X.mg X.base (L2.CX X.prog X.w) k f fd ps (spM X.K xr n fm)) (tk : Takes X W) (hr : Room k X.A) (hm : X.mg x = some (.ref f)) (hk : PySem.W.keepIn X.K (.ref f) = true) (hb : Binds X.K fd ps [])
    (ha : EA X ⟨X.K, xr, E0⟩ (e :: es) ml) (hl : LenM ml n) (hg : Gl X x := by rfl) (hdb : (x == ("__debug__" : Str)) = false := by decide) (he : starEach (e :: es) X.env = (false, eval e X.env) :: starEach es X.env := by rfl)
    (hpl : (backTo pos (starEach es X.env)).any (·.1) = false := by rfl) : PE X (.Call (.Name x p) (e :: es) [] pos) (tR X.K xr W (mCR fm ml)) :=
  pe_imp (pe_callSD (E := fun σ => WE W σ) (dvs := []) F hr hg hm hk hb .nil (fun σ => L2.passAt tk σ) ha hdb he hpl) fun σ H Q h => by
    obtain ⟨Wd, env, s, x, s', hen, hs, hq, h⟩ := h
    refine ⟨Wd, env, s, hen, hs, ?_⟩
    unfold mCR at hq
    cases q : ml env s with
    | exc y s1 => rw [q] at hq; cases hq
    | no => rw [q] at hq; cases hq
    | ok ds s1 =>
      rw [q] at hq
      have hq : fm ds s1 = .exc x s' := hq
      intro W1 H1 vs e1 ws1 rs
      refine ⟨by rw [List.append_nil, rs.length, hl _ _ _ _ q], W1, ds, s1, by rw [List.append_nil]; exact rs, ws1, ?_⟩
      rw [hq]
      exact fun W' H' c dd e2 ws2 r => h W' H' c dd (e1.trans e2) ws2 r
theorem rs_expr (he : PE X e (tR X.K xr W m)) (hs : swapsWith e none pos.line X.env = pure false := by rfl) : PS X (.Expr e pos) (tRS X.K xr W (rHide m)) := ps_imp (ps_expr he hs) fun D σ H h => by
  obtain ⟨H0, W0, pins, Wd, env, s, x, env', s', ok, hq, h⟩ := h
  unfold rHide at hq
  split at hq
  · rename_i y s1 q
    cases hq
    exact ⟨Wd, hideE env, s, x, s', ok.hid, ok.ws, q, fun W' H' c dd e ws r => h W' H' c dd σ (ok.after e ws) r⟩
  · cases hq
theorem rs_ret (he : PE X e (tR X.K xr W m)) : PS X (.Return (some e) pos) (tRS X.K xr W (rHide m)) := ps_imp (ps_ret he) fun D σ H h => by
  obtain ⟨H0, W0, pins, Wd, env, s, x, env', s', ok, hq, h⟩ := h
  unfold rHide at hq
  split at hq
  · rename_i y s1 q
    cases hq
    exact ⟨Wd, hideE env, s, x, s', ok.hid, ok.ws, q, fun W' H' c dd e ws r => h W' H' c dd σ (ok.after e ws) r⟩
  · cases hq
theorem rs_set (i : Nat) {x : Str} {pos' : Pos} (hN : X.N.Nodup) (he : PE X e (tR X.K xr W m)) (hi : X.N[i]? = some x := by rfl) (hx : Loc X.env.scope x := by first | exact .inl rfl | exact .inr rfl) (hs : swapsWith e (some (.Name x pos')) pos.line X.env = pure false := by rfl) (hf : X.fn x = true ∨ X.env.scope.names.lookup x = some .local := by first | exact .inl rfl | exact .inr rfl | assumption) :
    PS X (.Assign [.Name x pos'] e pos) (tRS X.K xr W (rHide m)) := ps_imp (ps_set hN hi hx he hs hf) fun D σ H h => by
  obtain ⟨H0, W0, pins, Wd, env, s, x, env', s', ok, hq, h⟩ := h
  unfold rHide at hq
  split at hq
  · rename_i y s1 q
    cases hq
    exact ⟨Wd, hideE env, s, x, s', ok.hid, ok.ws, q, fun W' H' c dd e ws r => h W' H' c dd σ (ok.after e ws) r⟩
  · cases hq
theorem re_if {c a b : Expr} {mt : VE → M Bool} {m1 m2 : VE → M D} (hc : ET X ⟨X.K, xr, E0⟩ c mt) (ha : PE X a (tR X.K xr W m1)) (hb : PE X b (tR X.K xr W m2)) : PE X (.IfExp c a b pos) (tR X.K xr W (fun env s => (noX (mt env s)).bind fun b s => if b = true then m1 env s else m2 env s)) :=
  pe_imp (pe_ifExp hc ha hb) fun σ H Q h => by
    obtain ⟨Wd, env, s, x, s', hen, hs, hq, h⟩ := h
    refine ⟨Wd, env, s, hen, hs, ?_⟩
    have hq : ((noX (mt env s)).bind fun b s => if b = true then m1 env s else m2 env s) = Res.exc x s' := hq
    cases q : mt env s with
    | exc y s1 => rw [q] at hq; cases hq
    | no => rw [q] at hq; cases hq
    | ok b s1 =>
      rw [q] at hq
      simp only [noX_ok, bind_ok] at hq
      intro W1 H1 e1 ws1
      cases b with
      | true => exact iteT ⟨W1, env, s1, x, s', hen.ext e1, ws1, hq, fun W' H' c dd e2 ws2 r => h W' H' c dd (e1.trans e2) ws2 r⟩
      | false => exact iteF ⟨W1, env, s1, x, s', hen.ext e1, ws1, hq, fun W' H' c dd e2 ws2 r => h W' H' c dd (e1.trans e2) ws2 r⟩
theorem rs_if {c : Expr} {a b : List Stmt} {mt : VE → M Bool} {m1 m2 : MR} (hc : ET X ⟨X.K, xr, E0⟩ c mt) (ha : PSs X a (tRS X.K xr W m1)) (hb : PSs X b (tRS X.K xr W m2)) : PS X (.If c a b pos) (tRS X.K xr W (rIf mt m1 m2)) := ps_imp (ps_if hc ha hb) fun D σ H h => by
  obtain ⟨H0, W0, pins, Wd, env, s, x, env', s', ok, hq, h⟩ := h
  unfold rIf at hq
  refine ⟨Wd.see env σ, viewE env, s, ok.seen, ok.seeWS, ?_⟩
  cases q : mt (viewE env) s with
  | exc y s1 => rw [q] at hq; cases hq
  | no => rw [q] at hq; cases hq
  | ok b s1 =>
    rw [q] at hq
    intro W1 H1 e1 ws1
    have e2 := ok.unseeExt e1
    have ok2 := ok.after e2 (unseeWS ws1)
    cases b with
    | true => exact iteT ⟨H0, W0, pins, _, env, s1, x, env', s', ok2, hq, h⟩
    | false => exact iteF ⟨H0, W0, pins, _, env, s1, x, env', s', ok2, hq, h⟩
theorem rss_one {mr : MR} (h : PS X st (tRS X.K xr W mr)) : PSs X (st :: rest) (tRS X.K xr W mr) := pss_imp (pss_cons h pss_never) fun D σ H h => h
theorem rss_no : PSs X rest (tRS X.K xr W rNo) := ⟨fun _ _ _ _ _ _ h => by
  obtain ⟨H0, W0, pins, Wd, env, s, x, env', s', ok, hq, h⟩ := h
  cases hq⟩
theorem rss_seq {m1 : MS} {m2 : MR} (h1 : ES X ⟨X.K, xr, E0⟩ st m1) (h2 : PSs X rest (tRS X.K xr W m2)) : PSs X (st :: rest) (tRS X.K xr W (rSeq m1 m2)) := pss_imp (pss_cons h1 h2) fun D σ H h => by
  obtain ⟨H0, W0, pins, Wd, env, s, x, env', s', ok, hq, h⟩ := h
  refine ⟨H0, W0, pins, Wd, env, s, ok, ?_⟩
  unfold rSeq at hq
  split at hq
  · rename_i env1 s1 q
    rw [q]
    exact fun W1 H1 σ1 ok1 => ⟨H0, W0, pins, W1, env1, s1, x, env', s', ok1, hq, h⟩
  · cases hq

/-! ### try .. except -/
theorem ps_either {t u : TS} (h1 : PS X st t) (h2 : PS X st u) : PS X st (fun D σ H => t D σ H ∨ u D σ H) := ⟨fun pins s σ H D I h => h.elim (h1.run pins s σ H D I) (h2.run pins s σ H D I)⟩
/-- a suite: the exception's text w -/
structure Su (X : Cx) (xr : XR) (i : Nat) (C : Addr) (fld : Str) (suite : List Stmt) (ms : Str → MS) : Prop where
  ex : ∃ ts : Addr → Value → Option Addr → TS, (∀ (a : Addr) (oe : Obj) (cls : Value) (d : Option Addr) (pn : List (Addr × Obj)), Zc cls d oe → (∃ vs, oe.data = .fields vs) → PSs (X.suite a ((a, oe) :: pn)) suite (ts a cls d)) ∧
    ∀ (E : XK) (D : Ends) H0 W0 pins W a dd w σ env s H, StOk X.K H0 W0 pins W H σ env s → σ[i]? = some (some (.ref a)) → H dd = some (.xd [(fld, .str w)]) → AftS ⟨X.K, xr, E⟩ H0 W0 pins (noX (ms w env s)) D → ts a (.ref C) (some dd) D σ H
theorem su_word {i : Nat} {C : Addr} {fld nm : Str} {p1 p2 p3 : Pos} (T : XfC X.K C) (hno : PySem.W.findIn X.K (.ref C) fld = some none) (hi : X.N[i]? = some nm) (hv : Vis X.env.scope nm := by first | exact Or.inl rfl | exact Or.inr (Or.inl rfl) | exact Or.inr (Or.inr rfl)) (hd : (nm == ("__debug__" : Str)) = false := by decide)
    (hcd : (nm == ("__classdict__" : Str)) = false := by decide) (hb : attributeBase (.Name nm p1) fld X.env (eval (.Name nm p1) X.env) = eval (.Name nm p1) X.env := by rfl) :
    Su X xr i C fld [.Return (some (.Attribute (.Name nm p1) fld p2)) p3] (fun w => fun _ s => .ok (.rt (.str w)) s) :=
  ⟨fun a cls d => tRet (tXf a cls d C fld (tVar i)), fun a oe cls d pn hz hf => pss_one (ps_ret (pe_xf T hno hz hf (pv (X := X.suite a ((a, oe) :: pn)) i hi hv hd hcd) hb)), fun E D H0 W0 pins W a dd w σ env s H ok hσ hx h =>
    ⟨.ref a, hσ, rfl, rfl, dd, _, .str w, rfl, hx, by simp [List.lookup], h W H (.str w) ok.ext ok.ws (by simp [Rep])⟩⟩
theorem su_any {i : Nat} {C : Addr} {fld : Str} {suite : List Stmt} {m : MS} (h : ∀ (a : Addr) (oe : Obj) (pn : List (Addr × Obj)), ESs (X.suite a ((a, oe) :: pn)) ⟨X.K, xr, E0⟩ suite m) : Su X xr i C fld suite (fun _ => m) :=
  ⟨fun _ _ _ => tMS ⟨X.K, xr, E0⟩ m, fun a oe cls d pn _ _ => h a oe pn, fun E D H0 W0 pins W a dd w σ env s H ok hσ hx h => by
    refine ⟨H0, W0, pins, W, env, s, ok, ?_⟩
    cases q : m env s with
    | ok fl s' =>
      rw [q] at h
      cases fl <;> exact h
    | exc y s' => rw [q] at h; exact h.elim
    | no => rw [q] at h; exact h.elim⟩
end
/-- a slot forgotten -/
theorem StOk.drop {K : PySem.W.Frag} {H0 : Hp} {W0 : Wd} {pins : List (D × V)} {W : Wd} {H : Hp} {σ : L2.St} {env : SE} {s : DS} (h : StOk K H0 W0 pins W H σ env s) (i : Nat) (o : Option V) : StOk K H0 W0 pins W H (σ.set i o) (env.set i .no) s where
  len := by simp [h.len]
  val := fun j e q => by
    by_cases hj : i = j
    · subst hj
      by_cases hl : i < env.length
      · rw [List.getElem?_set_self hl] at q; cases q
      · rw [List.getElem?_eq_none (by simpa using hl)] at q; cases q
    · rw [List.getElem?_set_ne hj] at q
      rw [List.getElem?_set_ne hj]
      exact h.val j e q
  own := fun j es q => by
    by_cases hj : i = j
    · subst hj
      by_cases hl : i < env.length
      · rw [List.getElem?_set_self hl] at q; cases q
      · rw [List.getElem?_eq_none (by simpa using hl)] at q; cases q
    · rw [List.getElem?_set_ne hj] at q
      rw [List.getElem?_set_ne hj]
      exact h.own j es q
  dist := fun j k ds es p hjk q1 q2 q3 => by
    have n1 : i ≠ j := fun e => by
      subst e
      by_cases hl : i < env.length
      · rw [List.getElem?_set_self hl] at q1; cases q1
      · rw [List.getElem?_eq_none (by simpa using hl)] at q1; cases q1
    have n2 : i ≠ k := fun e => by
      subst e
      by_cases hl : i < env.length
      · rw [List.getElem?_set_self hl] at q2; cases q2
      · rw [List.getElem?_eq_none (by simpa using hl)] at q2; cases q2
    rw [List.getElem?_set_ne n1] at q1 q3
    rw [List.getElem?_set_ne n2] at q2 ⊢
    exact h.dist j k ds es p hjk q1 q2 q3
  ext := h.ext
  ws := h.ws
  pin := h.pin
/-- a suite with a name at slot i: the name goes behind it -/
@[simp] def sGone (i : Nat) (ms : Str → MS) : Str → MS := fun w env s => if i < env.length then (match ms w (env.set i .no) s with
  | .ok (.nx e) s => .ok (.nx (e.set i .no)) s
  | .ok (.bk e) s => .ok (.bk (e.set i .no)) s
  | .ok (.ct e) s => .ok (.ct (e.set i .no)) s
  | r => r) else .no
/-- a try: the body raises nothing, or what mr tells -/
@[simp] def sTry (k : Nat) (mr : MR) (mb : MS) (ms : Str → MS) : MS := fun env s => match mr env s with
  | .exc x env' s' => if x.kind = k then (match x.args with
    | [.str w] => noX (ms w env' s')
    | _ => .no) else .no
  | .no => noX (mb env s)
theorem AftS.noX {G : Gx} {H0 : Hp} {W0 : Wd} {pins : List (D × V)} {r : Res Fl} {D : Ends} {E : XK} (h : AftS G H0 W0 pins (noX r) D) : AftS ⟨G.K, G.xr, E⟩ H0 W0 pins r D := by
  cases r with
  | ok fl s => cases fl <;> exact h
  | exc y s => exact h.elim
  | no => exact h.elim
section
variable {X : Cx} {G : Gx} {cs : List (Addr × Str)} {C : Addr} {fld nm x : Str} {body suite : List Stmt} {b₀ : Stmt} {mb : MS} {mr : MR} {ms : Str → MS} {i k : Nat} {np pos pos' : Pos}
theorem es_try_as (hK : X.K = G.K) (hxr : G.xr = xrOf cs) (hk : cs[k]? = some (C, fld)) (hN : X.N.Nodup) (hC : Names X x (.ref C)) (hm : PySem.W.exmOne X.K (.ref C) (.ref C) = some true)
    (hb : ESs X.nox ⟨X.K, G.xr, E0⟩ body mb) (hr : ∀ (W : WX) (pn : List (Addr × Obj)) (xe : Value → Shared → Prop), Takes (X.tr pn xe) W → PassesOwn (model X.prog X.w) X.A X.env xe → PSs (X.tr pn xe) body (tRS X.K G.xr W mr))
    (hsu : Su X G.xr i C fld (b₀ :: suite) ms) (hi : X.N[i]? = some nm) (hln : X.env.kindOf nm = some .local) (hs : X.stack = X.env :: X.outer := by rfl) (hf : X.env.frame = some X.env.locals := by rfl) :
    ES X G (.Try body [.ExceptHandler (some (.Name x np)) (some nm) (b₀ :: suite) pos'] [] [] pos) (sTry k mr mb (sGone i ms)) := by
  obtain ⟨ts, hsu, hread⟩ := hsu.ex
  refine ps_imp (ps_either (ps_try_thru0 hb) (ps_try_as (i := i) (ts := ts) (tb := fun W => tRS X.K G.xr W mr) (Wout := fun _ _ _ _ => False) hs hf hN hi hln hC takes0 (fun W pn xe tk po => hr W pn xe tk po) (fun a oe cls d pn hz hf => hsu a oe cls d pn hz hf))) fun D σ H h => ?_
  obtain ⟨H0, W0, pins, Wd, env, s, ok, h⟩ := h
  unfold sTry at h
  cases q : mr env s with
  | no =>
    rw [q] at h
    left
    rw [← hK] at ok
    refine ⟨H0, W0, pins, Wd, env, s, ok, ?_⟩
    have z := AftS.noX (E := E0) h
    rw [← hK] at z
    exact z
  | exc y env' s' =>
    rw [q] at h
    right
    rw [← hK] at ok
    simp only [] at h
    split at h
    · rename_i hy
      split at h
      · rename_i w hw
        refine ⟨H0, W0, pins, Wd, env, s, y, env', s', ok, q, fun W' H' c dd σ' ok' hx => ?_⟩
        rw [hxr] at hx
        obtain ⟨C', fld', w', d, e1, e2, rfl, rfl, hd⟩ := hx
        rw [hy, hk] at e1
        cases e1
        rw [hw] at e2
        cases e2
        refine ⟨true, hm, fun _ a na => ?_, fun z => nomatch z⟩
        unfold sGone at h
        split at h
        · rename_i li
          have ok2 : StOk X.K H0 W0 pins W' H' (σ'.set i (some (.ref a))) (env'.set i .no) s' := ok'.drop i _
          refine hread G.E _ H0 W0 pins W' a d w _ _ s' H' ok2 (by rw [List.getElem?_set_self (by rw [ok'.len]; exact li)]) hd ?_
          cases q2 : ms w (env'.set i .no) s' with
          | no => rw [q2] at h; exact h.elim
          | exc _ _ => rw [q2] at h; exact h.elim
          | ok fl s2 =>
            rw [q2] at h
            cases fl with
            | rt d => exact fun W2 H2 v e ws r => h W2 H2 v e ws (by rw [← hK]; exact r)
            | nx e => exact fun W2 H2 σ2 ok3 => h W2 H2 _ (by rw [← hK]; exact ok3.drop i none)
            | bk e => exact fun W2 H2 σ2 ok3 => h W2 H2 _ (by rw [← hK]; exact ok3.drop i none)
            | ct e => exact fun W2 H2 σ2 ok3 => h W2 H2 _ (by rw [← hK]; exact ok3.drop i none)
        · exact h.elim
      · exact h.elim
    · exact h.elim
/-- without a name -/
theorem es_try_only {m : MS} (hK : X.K = G.K) (hxr : G.xr = xrOf cs) (hk : cs[k]? = some (C, fld)) (hC : Names X x (.ref C)) (hm : PySem.W.exmOne X.K (.ref C) (.ref C) = some true)
    (hb : ESs X.nox ⟨X.K, G.xr, E0⟩ body mb) (hr : ∀ (W : WX) (pn : List (Addr × Obj)) (xe : Value → Shared → Prop), Takes (X.tr pn xe) W → PassesOwn (model X.prog X.w) X.A X.env xe → PSs (X.tr pn xe) body (tRS X.K G.xr W mr))
    (hsu : ∀ (a : Addr) (oe : Obj) (pn : List (Addr × Obj)), ESs (X.suite a ((a, oe) :: pn)) ⟨X.K, G.xr, E0⟩ (b₀ :: suite) m) (hs : X.stack = X.env :: X.outer := by rfl) (hf : X.env.frame = some X.env.locals := by rfl) :
    ES X G (.Try body [.ExceptHandler (some (.Name x np)) none (b₀ :: suite) pos'] [] [] pos) (sTry k mr mb (fun _ => m)) := by
  refine ps_imp (ps_either (ps_try_thru0 hb) (ps_try_only (ts := fun _ _ _ => tMS ⟨X.K, G.xr, E0⟩ m) (tb := fun W => tRS X.K G.xr W mr) (Wout := fun _ _ _ _ => False) hs hf hC takes0 (fun W pn xe tk po => hr W pn xe tk po) (fun a oe cls d pn hz hf => hsu a oe pn))) fun D σ H h => ?_
  obtain ⟨H0, W0, pins, Wd, env, s, ok, h⟩ := h
  unfold sTry at h
  cases q : mr env s with
  | no =>
    rw [q] at h
    left
    rw [← hK] at ok
    refine ⟨H0, W0, pins, Wd, env, s, ok, ?_⟩
    have z := AftS.noX (E := E0) h
    rw [← hK] at z
    exact z
  | exc y env' s' =>
    rw [q] at h
    right
    rw [← hK] at ok
    simp only [] at h
    split at h
    · rename_i hy
      split at h
      · rename_i w hw
        refine ⟨H0, W0, pins, Wd, env, s, y, env', s', ok, q, fun W' H' c dd σ' ok' hx => ?_⟩
        rw [hxr] at hx
        obtain ⟨C', fld', w', d, e1, e2, rfl, rfl, hd⟩ := hx
        rw [hy, hk] at e1
        cases e1
        refine ⟨true, hm, fun _ a na => ⟨H0, W0, pins, W', env', s', ok', ?_⟩, fun z => nomatch z⟩
        have z := AftS.noX (E := E0) h
        rw [← hK] at z
        exact z
      · exact h.elim
    · exact h.elim
end
end
end L2.Mir

set_option Elab.async false
set_option linter.all false
set_option maxRecDepth 100000
set_option maxHeartbeats 4000000
namespace L2.Mir
open PySem PySem.Spec PyProof.Rows
noncomputable section

theorem FnOkToX {P : Program} {w : World} {K : PySem.W.Frag} {mg : Str → Option Value} {base : Heap} {CX' : CXT} {k : Nat} {f : Addr} {fd : FuncData} {ps : List Str} {sp : Sp} (F : FnOk P w K mg base CX0 k f fd ps sp) : FnOk P w K mg base CX' k f fd ps sp :=
  ⟨F.len, fun A outer s H args us vs Q E hr he hb hv h => codeAny_mono (F.run A outer s H args us vs Q E hr he hb hv h) fun r s' hq => by
    cases r with
    | error e => exact False.elim hq
    | ok fl => cases fl <;> exact hq⟩

/-! ### in, not in -/
@[simp] def flat0 : D → Bool
  | .non => true
  | .bl _ => true
  | .int _ => true
  | .str _ => true
  | _ => false
def inD (x : D) (ds : List D) : Bool := ds.any fun z => deq z x
@[simp] def opIn (neg : Bool) (x y : D) : M D := fun s => match y with
  | .lst ds => if okD 60 x && okDs 59 ds then .ok (.bl (if neg then !inD x ds else inD x ds)) s else .no
  | .tup ds => if flat0 x && ds.all flat0 then .ok (.bl (if neg then !inD x ds else inD x ds)) s else .no
  | _ => .no
theorem flat0_rep {K : PySem.W.Frag} {W : Wd} {H : Hp} {d : D} {v : V} (h : flat0 d = true) (r : Rep K W H d v) : flatV v = true := by
  cases d <;> simp at h <;> simp only [Rep] at r <;> subst r <;> rfl
theorem flat0_eq {K : PySem.W.Frag} {W : Wd} {H : Hp} {d e : D} {v u : V} (h : flat0 d = true) (g : flat0 e = true) (r : Rep K W H d v) (q : Rep K W H e u) : eqV v u = deq d e := by
  cases d <;> simp at h <;> simp only [Rep] at r <;> subst r <;> cases e <;> simp at g <;> simp only [Rep] at q <;> subst q <;> simp [eqV, deq, toPy, PyData.eqv]
theorem flat0_all {K : PySem.W.Frag} {W : Wd} {H : Hp} : ∀ {ds : List D} {vs : List V}, ds.all flat0 = true → Reps K W H ds vs → vs.all flatV = true
  | [], vs, _, r => by simp only [Reps] at r; subst r; rfl
  | d :: ds, vs, h, r => by
    simp only [Reps] at r
    obtain ⟨v, w, rfl, h1, h2⟩ := r
    simp only [List.all_cons, Bool.and_eq_true] at h ⊢
    exact ⟨flat0_rep h.1 h1, flat0_all h.2 h2⟩
theorem flat0_in {K : PySem.W.Frag} {W : Wd} {H : Hp} {x : D} {u : V} (hx : flat0 x = true) (q : Rep K W H x u) : ∀ {ds : List D} {vs : List V}, ds.all flat0 = true → Reps K W H ds vs → inV u vs = inD x ds
  | [], vs, _, r => by simp only [Reps] at r; subst r; rfl
  | d :: ds, vs, h, r => by
    simp only [Reps] at r
    obtain ⟨v, w, rfl, h1, h2⟩ := r
    simp only [List.all_cons, Bool.and_eq_true] at h
    have ih := flat0_in hx q h.2 h2
    unfold inV inD at *
    simp only [List.any_cons]
    rw [ih, flat0_eq h.1 hx h1 q]
theorem any_toPys (x : D) : ∀ ds : List D, (toPys ds).any (fun z => PyData.eqv z (toPy x)) = inD x ds
  | [] => rfl
  | d :: ds => by
    have ih := any_toPys x ds
    unfold inD at *
    simp only [toPys, List.any_cons, ih]
    rfl
theorem Room.u65 {k : Nat} {A : Around} (r : Room k A) : A.units + 65 < cLine := by have := r.un; omega
section
variable {X : Cx} {G : Gx}
abbrev rInAll (K : PySem.W.Frag) : R2 := fun x y H Q => rInD K x y H Q ∨ rIn K false x y H Q
abbrev rNotInAll (K : PySem.W.Frag) : R2 := fun x y H Q => rNotInD K x y H Q ∨ rIn K true x y H Q
theorem or_in (hu : X.A.units + 65 < cLine) : OpR X (compareOp .In) (rInAll X.K) := (op_inD hu).or op_in_seq
theorem or_notin (hu : X.A.units + 65 < cLine) : OpR X (compareOp .NotIn) (rNotInAll X.K) := (op_notInD hu).or op_notIn_seq
theorem rb_in : RB G (rInAll G.K) (opIn false) := by
  intro W H s x y v u Q hs rx ry h
  unfold opIn at h
  split at h
  · rename_i ds
    split at h
    · rename_i hz
      rw [Bool.and_eq_true] at hz
      obtain ⟨a1, a2, a3⟩ := Rep.dp 60 x v hz.1 rx
      obtain ⟨b1, b2, b3⟩ := Rep.dp 60 (.lst ds) u (by simpa [okD] using hz.2) ry
      refine .inl ⟨_, _, a1, b1, shaped_of a2 a3, shaped_of b2 b3, ?_⟩
      rw [any_toPys]
      exact h.now hs (by simp)
    · exact h.elim
  · rename_i ds
    split at h
    · rename_i hz
      rw [Bool.and_eq_true] at hz
      obtain ⟨a, vs, rfl, h1, r1⟩ := rep_tup ry
      refine .inr ⟨a, vs, rfl, .inr h1, flat0_rep hz.1 rx, flat0_all hz.2 r1, ?_⟩
      rw [flat0_in hz.1 rx hz.2 r1]
      exact h.now hs (by simp)
    · exact h.elim
  · exact h.elim
theorem rb_notin : RB G (rNotInAll G.K) (opIn true) := by
  intro W H s x y v u Q hs rx ry h
  unfold opIn at h
  split at h
  · rename_i ds
    split at h
    · rename_i hz
      rw [Bool.and_eq_true] at hz
      obtain ⟨a1, a2, a3⟩ := Rep.dp 60 x v hz.1 rx
      obtain ⟨b1, b2, b3⟩ := Rep.dp 60 (.lst ds) u (by simpa [okD] using hz.2) ry
      refine .inl ⟨_, _, a1, b1, shaped_of a2 a3, shaped_of b2 b3, ?_⟩
      rw [any_toPys]
      exact h.now hs (by simp)
    · exact h.elim
  · rename_i ds
    split at h
    · rename_i hz
      rw [Bool.and_eq_true] at hz
      obtain ⟨a, vs, rfl, h1, r1⟩ := rep_tup ry
      refine .inr ⟨a, vs, rfl, .inr h1, flat0_rep hz.1 rx, flat0_all hz.2 r1, ?_⟩
      rw [flat0_in hz.1 rx hz.2 r1]
      exact h.now hs (by simp)
    · exact h.elim
  · exact h.elim
end

/-! ### functions as values -/
section
variable {X : Cx} {G : Gx} {W : WX} {xr : XR} {x : Str} {f : Addr} {p pos : Pos} {e : Expr} {es : List Expr} {ml : VE → M (List D)} {n i : Nat}
theorem ee_fn (hK : X.K = G.K) (hm : X.mg x = some (.ref f)) (hn : PySem.W.nsIn X.K mainGlobals x = some (some (.ref f))) (hg : Gl X x := by rfl) (hd : (x == ("__debug__" : Str)) = false := by decide) : EE X G (.Name x pos) (mC (.fn x)) :=
  pe_imp (pe_glob (v := .ref f) hg hm rfl hd) fun σ H Q h => by
    obtain ⟨W, env, s, hen, hs, h⟩ := h
    exact h W H (.ref f) (Ext.refl W H) hs (by simp only [Rep]; exact ⟨f, rfl, hK ▸ hn⟩)
/-- a def that a name may tell of -/
def Cal (X : Cx) (xr : XR) (n : Nat) (x : Str) (fm : List D → M D) : Prop := ∃ (k : Nat) (f : Addr) (fd : FuncData) (ps : List Str), FnOk X.prog X.w X.K X.mg X.base (L2.CX X.prog X.w) k f fd ps (spM X.K xr n fm) ∧ Room k X.A ∧ PySem.W.nsIn X.K mainGlobals x = some (some (.ref f)) ∧ PySem.W.keepIn X.K (.ref f) = true ∧ Binds X.K fd ps []
abbrev Tab := List (Str × (List D → M D))
def Tab.get (t : Tab) (x : Str) : Option (List D → M D) := match t with
  | [] => none
  | (y, f) :: r => if x = y then some f else Tab.get r x
@[simp] theorem Tab.get_nil (x : Str) : Tab.get [] x = none := rfl
@[simp] theorem Tab.get_cons (y : Str) (f : List D → M D) (r : Tab) (x : Str) : Tab.get ((y, f) :: r) x = if x = y then some f else Tab.get r x := rfl
theorem Tab.get_mem : ∀ {t : Tab} {x : Str} {f : List D → M D}, t.get x = some f → (x, f) ∈ t
  | [], x, f, h => by cases h
  | (y, g) :: r, x, f, h => by
    rw [Tab.get_cons] at h
    split at h
    · rename_i e
      cases h
      subst e
      exact List.mem_cons_self
    · exact List.mem_cons_of_mem _ (Tab.get_mem h)
@[simp] def mCallV (i : Nat) (t : Tab) (l : VE → M (List D)) : VE → M D := fun env s => match env[i]? with
  | some (some (.fn x)) => (match t.get x with
    | some f => (noX (l env s)).bind f
    | none => .no)
  | _ => .no
def tCV (K : PySem.W.Frag) (P : Program) (w : World) (mg : Str → Option Value) (base : Heap) (A : Around) (i : Nat) (ta : TA) (E : St → XK) : TE := fun σ H Q => ∃ f k fd ps sp, σ[i]? = some (some (.ref f)) ∧ FnOk P w K mg base (L2.CX P w) k f fd ps sp ∧ Room k A ∧ PySem.W.keepIn K (.ref f) = true ∧ Binds K fd ps [] ∧ ta σ H fun vs H1 => sp vs H1 Q (E σ)
theorem pe_callV {E : St → XK} {ta : TA} {y : Str} (hx : ∀ σ, PassesAt (L2.CX X.prog X.w) X σ (E σ)) (ha : PA X (e :: es) ta) (hN : X.N[i]? = some y) (hv : Vis X.env.scope y) (hd : (y == ("__debug__" : Str)) = false := by decide)
    (hcd : (y == ("__classdict__" : Str)) = false := by decide) (he : starEach (e :: es) X.env = (false, eval e X.env) :: starEach es X.env := by rfl) (hpl : (backTo pos (starEach es X.env)).any (·.1) = false := by rfl) :
    PE X (.Call (.Name y p) (e :: es) [] pos) (tCV X.K X.prog X.w X.mg X.base X.A i ta E) := by
  refine ⟨fun pins s σ H Q I h => ?_⟩
  obtain ⟨f, k, fd, ps, sp, hσ, F, hr, hk, hb, h⟩ := h
  refine wpAny_Call_Name_kw ?_
  refine thn ((pv (X := X) i hN hv hd hcd).run pins s σ H (fun v H' => v = .ref f ∧ H' = H) I ⟨.ref f, hσ, rfl, rfl⟩) fun u s1 ⟨v, H1, I1, r1, ev, eH⟩ => ?_
  subst ev eH
  obtain rfl : u = Value.ref f := r1
  refine PySem.W.callWith_K (h₀ := X.base) I1.ok.mod.kin hk (thn (ha.run pos pins s1 σ _ _ I1 h) fun us s2 ⟨vs, H2, I2, r, q⟩ => ⟨I2.kIn, ?_⟩) he hpl
  exact run_fnSD (E := E) (dvs := []) F hr hb .nil (hx σ) I2 r (by rw [List.append_nil]; exact q)
theorem Cal.ref {a : Addr} {fm : List D → M D} (c : Cal X xr n x fm) (h : PySem.W.nsIn X.K mainGlobals x = some (some (.ref a))) : ∃ (k : Nat) (fd : FuncData) (ps : List Str), FnOk X.prog X.w X.K X.mg X.base (L2.CX X.prog X.w) k a fd ps (spM X.K xr n fm) ∧ Room k X.A ∧ PySem.W.keepIn X.K (.ref a) = true ∧ Binds X.K fd ps [] := by
  obtain ⟨k, f, fd, ps, F, hr, hn, hk, hb⟩ := c
  rw [hn] at h
  cases h
  exact ⟨k, fd, ps, F, hr, hk, hb⟩
/-- .. what it raises goes on -/
@[simp] def mCallVX (i : Nat) (t : Tab) (l : VE → M (List D)) : VE → M D := fun env s => match env[i]? with
  | some (some (.fn x)) => (match t.get x with
    | some f => (l env s).bind f
    | none => .no)
  | _ => .no
/-- .. it raises nothing -/
@[simp] def mCallVL (i : Nat) (t : Tab) (l : VE → M (List D)) : VE → M D := fun env s => match env[i]? with
  | some (some (.fn x)) => (match t.get x with
    | some f => (l env s).bind fun ds s => noX (f ds s)
    | none => .no)
  | _ => .no
theorem ee_callVX {t : Tab} {y : Str} (tk : Takes X fun c d _ H => G.E c d H) (hK : X.K = G.K) (hc : ∀ p ∈ t, Cal X G.xr n p.1 p.2) (ha : EA X G (e :: es) ml) (hl : LenM ml n) (hN : X.N[i]? = some y := by rfl) (hv : Vis X.env.scope y := by first | exact Or.inl rfl | exact Or.inr (Or.inl rfl) | exact Or.inr (Or.inr rfl)) (hd : (y == ("__debug__" : Str)) = false := by decide)
    (hcd : (y == ("__classdict__" : Str)) = false := by decide) (he : starEach (e :: es) X.env = (false, eval e X.env) :: starEach es X.env := by rfl) (hpl : (backTo pos (starEach es X.env)).any (·.1) = false := by rfl) : EE X G (.Call (.Name y p) (e :: es) [] pos) (mCallVX i t ml) :=
  pe_imp (pe_callV (E := fun _ => G.E) (fun σ pins H s e s' I c => passes_call tk (fun _ _ _ _ h => h) pins σ H s e s' I c) ha hN hv hd hcd he hpl) fun σ H Q h => by
    obtain ⟨W, env, s, hen, hs, h⟩ := h
    unfold mCallVX at h
    split at h
    · rename_i x hx
      split at h
      · rename_i fm hf
        obtain ⟨v, hσ, rv⟩ := hen.2 i _ hx
        simp only [Rep] at rv
        obtain ⟨a, rfl, hn⟩ := rv
        obtain ⟨k, fd, ps, F, hr, hk, hb⟩ := (hc _ (Tab.get_mem hf)).ref (hK ▸ hn)
        refine ⟨a, k, fd, ps, _, hσ, F, hr, hk, hb, ?_⟩
        refine tML_bind hen hs h fun W1 H1 vs ds s1 e1 he1 hs1 rs q h1 => ?_
        exact ⟨by rw [rs.length, hl _ _ _ _ q], W1, ds, s1, by rw [hK]; exact rs, hs1, by rw [hK]; exact h1⟩
      · exact h.elim
    · exact h.elim
theorem ee_callVL {t : Tab} {y : Str} (hK : X.K = G.K) (hc : ∀ p ∈ t, Cal X xr n p.1 p.2) (ha : EA X G (e :: es) ml) (hl : LenM ml n) (hN : X.N[i]? = some y := by rfl) (hv : Vis X.env.scope y := by first | exact Or.inl rfl | exact Or.inr (Or.inl rfl) | exact Or.inr (Or.inr rfl)) (hd : (y == ("__debug__" : Str)) = false := by decide)
    (hcd : (y == ("__classdict__" : Str)) = false := by decide) (he : starEach (e :: es) X.env = (false, eval e X.env) :: starEach es X.env := by rfl) (hpl : (backTo pos (starEach es X.env)).any (·.1) = false := by rfl) : EE X G (.Call (.Name y p) (e :: es) [] pos) (mCallVL i t ml) :=
  pe_imp (pe_callV (E := fun _ => E0) (fun σ pins H s e s' I c => passL pins σ H s e s' I c) ha hN hv hd hcd he hpl) fun σ H Q h => by
    obtain ⟨W, env, s, hen, hs, h⟩ := h
    unfold mCallVL at h
    split at h
    · rename_i x hx
      split at h
      · rename_i fm hf
        obtain ⟨v, hσ, rv⟩ := hen.2 i _ hx
        simp only [Rep] at rv
        obtain ⟨a, rfl, hn⟩ := rv
        obtain ⟨k, fd, ps, F, hr, hk, hb⟩ := (hc _ (Tab.get_mem hf)).ref (hK ▸ hn)
        refine ⟨a, k, fd, ps, _, hσ, F, hr, hk, hb, ?_⟩
        refine tML_bind hen hs h fun W1 H1 vs ds s1 e1 he1 hs1 rs q h1 => ?_
        refine ⟨by rw [rs.length, hl _ _ _ _ q], W1, ds, s1, by rw [hK]; exact rs, hs1, ?_⟩
        show Aft _ W1 H1 (fm ds s1) Q
        cases q2 : fm ds s1 with
        | ok d s2 =>
          rw [q2] at h1
          intro W' H' v ex ws rp
          exact h1 W' H' v ex ws (hK ▸ rp)
        | exc _ _ => rw [q2] at h1; exact h1.elim
        | no => rw [q2] at h1; exact h1.elim
      · exact h.elim
    · exact h.elim
theorem re_callV {t : Tab} {y : Str} (tk : Takes X W) (hc : ∀ p ∈ t, Cal X xr n p.1 p.2) (ha : EA X ⟨X.K, xr, E0⟩ (e :: es) ml) (hl : LenM ml n) (hN : X.N[i]? = some y := by rfl) (hv : Vis X.env.scope y := by first | exact Or.inl rfl | exact Or.inr (Or.inl rfl) | exact Or.inr (Or.inr rfl)) (hd : (y == ("__debug__" : Str)) = false := by decide)
    (hcd : (y == ("__classdict__" : Str)) = false := by decide) (he : starEach (e :: es) X.env = (false, eval e X.env) :: starEach es X.env := by rfl) (hpl : (backTo pos (starEach es X.env)).any (·.1) = false := by rfl) : PE X (.Call (.Name y p) (e :: es) [] pos) (tR X.K xr W (mCallV i t ml)) :=
  pe_imp (pe_callV (E := fun σ => WE W σ) (fun σ => L2.passAt tk σ) ha hN hv hd hcd he hpl) fun σ H Q h => by
    obtain ⟨Wd, env, s, x, s', hen, hs, hq, h⟩ := h
    unfold mCallV at hq
    split at hq
    · rename_i x hx
      split at hq
      · rename_i fm hf
        obtain ⟨v, hσ, rv⟩ := hen.2 i _ hx
        simp only [Rep] at rv
        obtain ⟨a, rfl, hn⟩ := rv
        obtain ⟨k, fd, ps, F, hr, hk, hb⟩ := (hc _ (Tab.get_mem hf)).ref hn
        refine ⟨a, k, fd, ps, _, hσ, F, hr, hk, hb, Wd, env, s, hen, hs, ?_⟩
        cases q : ml env s with
        | exc y s1 => rw [q] at hq; cases hq
        | no => rw [q] at hq; cases hq
        | ok ds s1 =>
          rw [q] at hq
          have hq : fm ds s1 = .exc _ s' := hq
          intro W1 H1 vs e1 ws1 rs
          refine ⟨by rw [rs.length, hl _ _ _ _ q], W1, ds, s1, rs, ws1, ?_⟩
          show Aft _ W1 H1 (fm ds s1) Q
          rw [hq]
          exact fun W' H' c dd e2 ws2 r => h W' H' c dd (e1.trans e2) ws2 r
      · cases hq
    · cases hq
theorem cal_nil : ∀ p ∈ ([] : Tab), Cal X xr n p.1 p.2 := fun p h => by cases h
theorem cal_cons {y : Str} {fm : List D → M D} {t : Tab} (c : Cal X xr n y fm) (h : ∀ p ∈ t, Cal X xr n p.1 p.2) : ∀ p ∈ (y, fm) :: t, Cal X xr n p.1 p.2 := fun p hp => by
  rcases List.mem_cons.mp hp with rfl | hp
  · exact c
  · exact h p hp
end
section
variable {X : Cx} {G : Gx} {k n : Nat} {f : Addr} {fd : FuncData} {ps : List Str} {fm : List D → M D} {x : Str} {p pos : Pos} {xr : XR}
theorem ee_callX0 (F : FnOk X.prog X.w X.K X.mg X.base (L2.CX X.prog X.w) k f fd ps (spM X.K G.xr 0 fm)) (tk : Takes X fun c d _ H => G.E c d H) (hr : Room k X.A) (hm : X.mg x = some (.ref f)) (hk : PySem.W.keepIn X.K (.ref f) = true) (hb : Binds X.K fd ps [])
    (hK : X.K = G.K) (hg : Gl X x := by rfl) (hdb : (x == ("__debug__" : Str)) = false := by decide) : EE X G (.Call (.Name x p) [] [] pos) (mCB fm mNil) :=
  pe_imp (pe_call0 (E := G.E) F hr hg hm hk hb .nil (passes_call tk fun _ _ _ _ h => h) hdb) fun σ H Q h => by
    obtain ⟨W, env, s, hen, hs, h⟩ := h
    exact ⟨rfl, W, [], s, by simp [Reps], hs, by rw [hK]; exact h⟩
theorem ee_callL0 (F : FnOk X.prog X.w X.K X.mg X.base (L2.CX X.prog X.w) k f fd ps (spM X.K xr 0 fm)) (hr : Room k X.A) (hm : X.mg x = some (.ref f)) (hk : PySem.W.keepIn X.K (.ref f) = true) (hb : Binds X.K fd ps [])
    (hK : X.K = G.K) (hg : Gl X x := by rfl) (hdb : (x == ("__debug__" : Str)) = false := by decide) : EE X G (.Call (.Name x p) [] [] pos) (mCall fm mNil) :=
  pe_imp (pe_call0 (E := E0) F hr hg hm hk hb .nil passL hdb) fun σ H Q h => by
    obtain ⟨W, env, s, hen, hs, h⟩ := h
    refine ⟨rfl, W, [], s, by simp [Reps], hs, ?_⟩
    simp only [mCall, mNil, bind_ok] at h
    cases q2 : fm [] s with
    | ok d s2 =>
      rw [q2] at h
      intro W' H' v ex ws rp
      exact h W' H' v ex ws (hK ▸ rp)
    | exc _ _ => rw [q2] at h; exact h.elim
    | no => rw [q2] at h; exact h.elim
end
theorem exm_own {K : PySem.W.Frag} {S : Addr} (h1 : PySem.W.subIn K (.ref S) (.type "BaseException") = some true) (h2 : PySem.W.isClsIn K S = true) (h3 : PySem.W.typeIn K (.ref S) = some (.type "type")) (h4 : PySem.W.subIn K (.ref S) (.ref S) = some true) : PySem.W.exmOne K (.ref S) (.ref S) = some true := by
  unfold PySem.W.exmOne
  rw [if_pos (by rw [h1]; rfl)]
  have h5 : (PySem.W.clsIn K S).isSome = true := h2
  show (if ((PySem.W.clsIn K S).isSome && PySem.W.typeIn K (.ref S) == some (.type "type")) = true then PySem.W.subIn K (.ref S) (.ref S) else none) = some true
  rw [if_pos (by rw [h5, h3]; rfl), h4]
end
end L2.Mir

set_option Elab.async false
set_option linter.all false
set_option maxRecDepth 100000
set_option maxHeartbeats 4000000
namespace L2.Mir.W
open PySem PySem.Spec PyProof.Rows
def topS (i : Nat) : Stmt := PySem.Challenge.pw_bendwright_k30_whole_two_round_arcs.main.body.getD i (.Pass ⟨0, 0, 0, 0⟩)
def xr0 : XR := fun _ _ _ _ _ => False
abbrev s_divisor : Stmt := topS 4
abbrev nm_divisor : List Str := ["one", "other"]
theorem sc_divisor : FnScope nm_divisor ["one", "other"] (defScope s_divisor) := ⟨rfl, rfl, rfl, by decide +kernel, rfl, by decide +kernel, by decide +kernel⟩
abbrev s_part : Stmt := topS 5
abbrev nm_part : List Str := ["above", "below", "common"]
theorem sc_part : FnScope nm_part ["above", "below"] (defScope s_part) := ⟨rfl, rfl, rfl, by decide +kernel, rfl, by decide +kernel, by decide +kernel⟩
abbrev s_is_part : Stmt := topS 6
abbrev nm_is_part : List Str := ["value", "number"]
theorem sc_is_part : FnScope nm_is_part ["value"] (defScope s_is_part) := ⟨rfl, rfl, rfl, by decide +kernel, rfl, by decide +kernel, by decide +kernel⟩
abbrev s_plus : Stmt := topS 7
abbrev nm_plus : List Str := ["one", "other"]
theorem sc_plus : FnScope nm_plus ["one", "other"] (defScope s_plus) := ⟨rfl, rfl, rfl, by decide +kernel, rfl, by decide +kernel, by decide +kernel⟩
abbrev s_minus : Stmt := topS 8
abbrev nm_minus : List Str := ["one", "other"]
theorem sc_minus : FnScope nm_minus ["one", "other"] (defScope s_minus) := ⟨rfl, rfl, rfl, by decide +kernel, rfl, by decide +kernel, by decide +kernel⟩
abbrev s_times : Stmt := topS 9
abbrev nm_times : List Str := ["one", "other"]
theorem sc_times : FnScope nm_times ["one", "other"] (defScope s_times) := ⟨rfl, rfl, rfl, by decide +kernel, rfl, by decide +kernel, by decide +kernel⟩
abbrev s_over : Stmt := topS 10
abbrev nm_over : List Str := ["one", "other"]
theorem sc_over : FnScope nm_over ["one", "other"] (defScope s_over) := ⟨rfl, rfl, rfl, by decide +kernel, rfl, by decide +kernel, by decide +kernel⟩
abbrev s_is_spot : Stmt := topS 12
abbrev nm_is_spot : List Str := ["value", "one"]
theorem sc_is_spot : FnScope nm_is_spot ["value"] (defScope s_is_spot) := ⟨rfl, rfl, rfl, by decide +kernel, rfl, by decide +kernel, by decide +kernel⟩
abbrev s_is_way : Stmt := topS 13
abbrev nm_is_way : List Str := ["value"]
theorem sc_is_way : FnScope nm_is_way ["value"] (defScope s_is_way) := ⟨rfl, rfl, rfl, by decide +kernel, rfl, by decide +kernel, by decide +kernel⟩
abbrev s_dot : Stmt := topS 14
abbrev nm_dot : List Str := ["one", "other"]
theorem sc_dot : FnScope nm_dot ["one", "other"] (defScope s_dot) := ⟨rfl, rfl, rfl, by decide +kernel, rfl, by decide +kernel, by decide +kernel⟩
abbrev s_crossed : Stmt := topS 15
abbrev nm_crossed : List Str := ["one", "other"]
theorem sc_crossed : FnScope nm_crossed ["one", "other"] (defScope s_crossed) := ⟨rfl, rfl, rfl, by decide +kernel, rfl, by decide +kernel, by decide +kernel⟩
abbrev s_put : Stmt := topS 16
abbrev nm_put : List Str := ["one", "other", "factor"]
theorem sc_put : FnScope nm_put ["one", "other", "factor"] (defScope s_put) := ⟨rfl, rfl, rfl, by decide +kernel, rfl, by decide +kernel, by decide +kernel⟩
abbrev s_less : Stmt := topS 17
abbrev nm_less : List Str := ["one", "other"]
theorem sc_less : FnScope nm_less ["one", "other"] (defScope s_less) := ⟨rfl, rfl, rfl, by decide +kernel, rfl, by decide +kernel, by decide +kernel⟩
abbrev s_way_of : Stmt := topS 18
abbrev nm_way_of : List Str := ["half", "square", "low"]
theorem sc_way_of : FnScope nm_way_of ["half"] (defScope s_way_of) := ⟨rfl, rfl, rfl, by decide +kernel, rfl, by decide +kernel, by decide +kernel⟩
abbrev s_turned : Stmt := topS 19
abbrev nm_turned : List Str := ["way"]
theorem sc_turned : FnScope nm_turned ["way"] (defScope s_turned) := ⟨rfl, rfl, rfl, by decide +kernel, rfl, by decide +kernel, by decide +kernel⟩
abbrev s_second_length : Stmt := topS 20
abbrev nm_second_length : List Str := ["first", "way", "last", "end", "length", "gap", "above", "low"]
theorem sc_second_length : FnScope nm_second_length ["first", "way", "last", "end", "length"] (defScope s_second_length) := ⟨rfl, rfl, rfl, by decide +kernel, rfl, by decide +kernel, by decide +kernel⟩
abbrev s_joint : Stmt := topS 21
abbrev nm_joint : List Str := ["first", "way", "last", "end", "length", "other", "whole", "one", "two"]
theorem sc_joint : FnScope nm_joint ["first", "way", "last", "end", "length"] (defScope s_joint) := ⟨rfl, rfl, rfl, by decide +kernel, rfl, by decide +kernel, by decide +kernel⟩
abbrev s_way_there : Stmt := topS 22
abbrev nm_way_there : List Str := ["first", "way", "last", "end", "length", "other"]
theorem sc_way_there : FnScope nm_way_there ["first", "way", "last", "end", "length"] (defScope s_way_there) := ⟨rfl, rfl, rfl, by decide +kernel, rfl, by decide +kernel, by decide +kernel⟩
abbrev s_middle : Stmt := topS 23
abbrev nm_middle : List Str := ["spot", "way", "other", "gap", "low"]
theorem sc_middle : FnScope nm_middle ["spot", "way", "other"] (defScope s_middle) := ⟨rfl, rfl, rfl, by decide +kernel, rfl, by decide +kernel, by decide +kernel⟩
abbrev s_bend : Stmt := topS 24
abbrev nm_bend : List Str := ["spot", "way", "other", "gap"]
theorem sc_bend : FnScope nm_bend ["spot", "way", "other"] (defScope s_bend) := ⟨rfl, rfl, rfl, by decide +kernel, rfl, by decide +kernel, by decide +kernel⟩
abbrev s_way_at : Stmt := topS 25
abbrev nm_way_at : List Str := ["spot", "way", "other", "gap", "along"]
theorem sc_way_at : FnScope nm_way_at ["spot", "way", "other"] (defScope s_way_at) := ⟨rfl, rfl, rfl, by decide +kernel, rfl, by decide +kernel, by decide +kernel⟩
abbrev s_arcs : Stmt := topS 26
abbrev nm_arcs : List Str := ["first", "way", "last", "end", "length", "spot"]
theorem sc_arcs : FnScope nm_arcs ["first", "way", "last", "end", "length"] (defScope s_arcs) := ⟨rfl, rfl, rfl, by decide +kernel, rfl, by decide +kernel, by decide +kernel⟩
abbrev s_goes_on : Stmt := topS 27
abbrev nm_goes_on : List Str := ["first", "way", "last", "end", "length", "one", "other"]
theorem sc_goes_on : FnScope nm_goes_on ["first", "way", "last", "end", "length"] (defScope s_goes_on) := ⟨rfl, rfl, rfl, by decide +kernel, rfl, by decide +kernel, by decide +kernel⟩
abbrev s_joints_circle : Stmt := topS 28
abbrev nm_joints_circle : List Str := ["first", "way", "last", "end", "spots", "number", "spot"]
theorem sc_joints_circle : FnScope nm_joints_circle ["first", "way", "last", "end"] (defScope s_joints_circle) := ⟨rfl, rfl, rfl, by decide +kernel, rfl, by decide +kernel, by decide +kernel⟩
abbrev s_circle : Stmt := topS 29
abbrev nm_circle : List Str := ["one", "two", "three", "first", "second", "low", "a", "b", "x", "y"]
theorem sc_circle : FnScope nm_circle ["one", "two", "three"] (defScope s_circle) := ⟨rfl, rfl, rfl, by decide +kernel, rfl, by decide +kernel, by decide +kernel⟩
abbrev s_moved : Stmt := topS 30
abbrev nm_moved : List Str := ["arc", "table", "shift", "spots"]
theorem sc_moved : FnScope nm_moved ["arc", "table", "shift"] (defScope s_moved) := ⟨rfl, rfl, rfl, by decide +kernel, rfl, by decide +kernel, by decide +kernel⟩
abbrev s_rotated : Stmt := topS 31
abbrev nm_rotated : List Str := ["spot", "table", "cosine", "sine", "first"]
theorem sc_rotated : FnScope nm_rotated ["spot", "table"] (defScope s_rotated) := ⟨rfl, rfl, rfl, by decide +kernel, rfl, by decide +kernel, by decide +kernel⟩
abbrev s_turned_back : Stmt := topS 32
abbrev nm_turned_back : List Str := ["arc", "way"]
theorem sc_turned_back : FnScope nm_turned_back ["arc"] (defScope s_turned_back) := ⟨rfl, rfl, rfl, by decide +kernel, rfl, by decide +kernel, by decide +kernel⟩
abbrev s_is_on : Stmt := topS 33
abbrev nm_is_on : List Str := ["arc", "spot", "centre", "one", "other"]
theorem sc_is_on : FnScope nm_is_on ["arc", "spot"] (defScope s_is_on) := ⟨rfl, rfl, rfl, by decide +kernel, rfl, by decide +kernel, by decide +kernel⟩
abbrev s__law_state : Stmt := topS 35
abbrev nm__law_state : List Str := ["script", "numbers_left", "cell"]
theorem sc__law_state : FnScope nm__law_state ["script"] (defScope s__law_state) := ⟨rfl, rfl, rfl, by decide +kernel, rfl, by decide +kernel, by decide +kernel⟩
abbrev s__law_take : Stmt := topS 36
abbrev nm__law_take : List Str := ["state", "most", "numbers_left", "at", "cell", "stirred"]
theorem sc__law_take : FnScope nm__law_take ["state", "most"] (defScope s__law_take) := ⟨rfl, rfl, rfl, by decide +kernel, rfl, by decide +kernel, by decide +kernel⟩
abbrev s__law_part : Stmt := topS 38
abbrev nm__law_part : List Str := ["above", "below", "one", "other"]
theorem sc__law_part : FnScope nm__law_part ["above", "below"] (defScope s__law_part) := ⟨rfl, rfl, rfl, by decide +kernel, rfl, by decide +kernel, by decide +kernel⟩
abbrev s__law_add : Stmt := topS 39
abbrev nm__law_add : List Str := ["one", "other"]
theorem sc__law_add : FnScope nm__law_add ["one", "other"] (defScope s__law_add) := ⟨rfl, rfl, rfl, by decide +kernel, rfl, by decide +kernel, by decide +kernel⟩
abbrev s__law_mul : Stmt := topS 40
abbrev nm__law_mul : List Str := ["one", "other"]
theorem sc__law_mul : FnScope nm__law_mul ["one", "other"] (defScope s__law_mul) := ⟨rfl, rfl, rfl, by decide +kernel, rfl, by decide +kernel, by decide +kernel⟩
abbrev s__law_neg : Stmt := topS 41
abbrev nm__law_neg : List Str := ["one"]
theorem sc__law_neg : FnScope nm__law_neg ["one"] (defScope s__law_neg) := ⟨rfl, rfl, rfl, by decide +kernel, rfl, by decide +kernel, by decide +kernel⟩
abbrev s__law_over : Stmt := topS 42
abbrev nm__law_over : List Str := ["one", "other"]
theorem sc__law_over : FnScope nm__law_over ["one", "other"] (defScope s__law_over) := ⟨rfl, rfl, rfl, by decide +kernel, rfl, by decide +kernel, by decide +kernel⟩
abbrev s__law_fraction : Stmt := topS 49
abbrev nm__law_fraction : List Str := ["state", "most"]
theorem sc__law_fraction : FnScope nm__law_fraction ["state", "most"] (defScope s__law_fraction) := ⟨rfl, rfl, rfl, by decide +kernel, rfl, by decide +kernel, by decide +kernel⟩
abbrev s__law_minus : Stmt := topS 50
abbrev nm__law_minus : List Str := ["one", "other"]
theorem sc__law_minus : FnScope nm__law_minus ["one", "other"] (defScope s__law_minus) := ⟨rfl, rfl, rfl, by decide +kernel, rfl, by decide +kernel, by decide +kernel⟩
abbrev s__law_dot : Stmt := topS 51
abbrev nm__law_dot : List Str := ["one", "other"]
theorem sc__law_dot : FnScope nm__law_dot ["one", "other"] (defScope s__law_dot) := ⟨rfl, rfl, rfl, by decide +kernel, rfl, by decide +kernel, by decide +kernel⟩
abbrev s__law_cross : Stmt := topS 52
abbrev nm__law_cross : List Str := ["one", "other"]
theorem sc__law_cross : FnScope nm__law_cross ["one", "other"] (defScope s__law_cross) := ⟨rfl, rfl, rfl, by decide +kernel, rfl, by decide +kernel, by decide +kernel⟩
abbrev s__law_put : Stmt := topS 53
abbrev nm__law_put : List Str := ["one", "other", "factor"]
theorem sc__law_put : FnScope nm__law_put ["one", "other", "factor"] (defScope s__law_put) := ⟨rfl, rfl, rfl, by decide +kernel, rfl, by decide +kernel, by decide +kernel⟩
abbrev s__law_way : Stmt := topS 54
abbrev nm__law_way : List Str := ["state", "half", "square", "low", "told"]
theorem sc__law_way : FnScope nm__law_way ["state"] (defScope s__law_way) := ⟨rfl, rfl, rfl, by decide +kernel, rfl, by decide +kernel, by decide +kernel⟩
abbrev s__law_spot : Stmt := topS 55
abbrev nm__law_spot : List Str := ["state"]
theorem sc__law_spot : FnScope nm__law_spot ["state"] (defScope s__law_spot) := ⟨rfl, rfl, rfl, by decide +kernel, rfl, by decide +kernel, by decide +kernel⟩
abbrev s__law_word : Stmt := topS 56
abbrev nm__law_word : List Str := ["call", "given", "told", "error"]
theorem sc__law_word : FnScope nm__law_word ["call", "given"] (defScope s__law_word) := ⟨rfl, rfl, rfl, by decide +kernel, rfl, by decide +kernel, by decide +kernel⟩
abbrev s__law_pairs : Stmt := topS 57
abbrev nm__law_pairs : List Str := ["state", "half", "way", "first", "last", "square", "low", "told", "factor", "quarter", "due"]
theorem sc__law_pairs : FnScope nm__law_pairs ["state", "half", "way", "first", "last"] (defScope s__law_pairs) := ⟨rfl, rfl, rfl, by decide +kernel, rfl, by decide +kernel, by decide +kernel⟩
abbrev s__law_single : Stmt := topS 58
abbrev nm__law_single : List Str := ["state", "way", "first", "last", "gap", "square", "cross", "told", "centre", "one", "other", "radius", "across", "arc", "spot", "far", "back", "half", "table", "shift", "fresh"]
theorem sc__law_single : FnScope nm__law_single ["state", "way", "first", "last"] (defScope s__law_single) := ⟨rfl, rfl, rfl, by decide +kernel, rfl, by decide +kernel, by decide +kernel⟩
abbrev s__law_two : Stmt := topS 59
abbrev nm__law_two : List Str := ["state", "way", "end", "first", "last", "length", "gap", "low", "top", "given", "other", "one", "two", "there", "whole", "spot", "rows", "middle_way"]
theorem sc__law_two : FnScope nm__law_two ["state", "way", "end", "first", "last"] (defScope s__law_two) := ⟨rfl, rfl, rfl, by decide +kernel, rfl, by decide +kernel, by decide +kernel⟩
abbrev s__law_circles : Stmt := topS 60
abbrev nm__law_circles : List Str := ["first", "way", "last", "end", "spot", "spots", "number", "told", "round_told", "gaps", "one", "gap"]
theorem sc__law_circles : FnScope nm__law_circles ["first", "way", "last", "end", "spot"] (defScope s__law_circles) := ⟨rfl, rfl, rfl, by decide +kernel, rfl, by decide +kernel, by decide +kernel⟩
abbrev s__law_round : Stmt := topS 61
abbrev nm__law_round : List Str := ["first", "way", "last", "end", "length"]
theorem sc__law_round : FnScope nm__law_round ["first", "way", "last", "end", "length"] (defScope s__law_round) := ⟨rfl, rfl, rfl, by decide +kernel, rfl, by decide +kernel, by decide +kernel⟩
abbrev s__law_joint : Stmt := topS 62
abbrev nm__law_joint : List Str := ["first", "way", "last", "end", "length", "error"]
theorem sc__law_joint : FnScope nm__law_joint ["first", "way", "last", "end", "length"] (defScope s__law_joint) := ⟨rfl, rfl, rfl, by decide +kernel, rfl, by decide +kernel, by decide +kernel⟩
abbrev s__law_odd : Stmt := topS 63
abbrev nm__law_odd : List Str := ["one", "bad", "value"]
theorem sc__law_odd : FnScope nm__law_odd [] (defScope s__law_odd) := ⟨rfl, rfl, rfl, by decide +kernel, rfl, by decide +kernel, by decide +kernel⟩
abbrev s_law : Stmt := topS 64
abbrev nm_law : List Str := ["script", "state", "turn", "half", "way", "more", "end", "first", "last"]
theorem sc_law : FnScope nm_law ["script"] (defScope s_law) := ⟨rfl, rfl, rfl, by decide +kernel, rfl, by decide +kernel, by decide +kernel⟩
noncomputable section
/-! mirrors -/
abbrev f__law_take : List D → M D := fTake
def m_divisor : MS := (sSeq (sPar false 0 1 (mCons (mCB bAbs (mCons (mVar 0) mNil)) (mCons (mCB bAbs (mCons (mVar 1) mNil)) mNil))) (sSeq (sWhile (mCmpT opNe (mVar 1) (mC (.int 0))) (sPar false 0 1 (mCons (mVar 1) (mCons (mBin opMod (mVar 0) (mVar 1)) mNil)))) (sRet (mVar 0))))
def f_divisor : List D → M D := runDef 2 m_divisor
def m_part : MS := (sSeq (sIf (mCmpT (opCmp pLt) (mVar 1) (mC (.int 0))) (sPar false 0 1 (mCons (mBin opSub (mC (.int 0)) (mVar 0)) (mCons (mBin opSub (mC (.int 0)) (mVar 1)) mNil))) sNx) (sSeq (sSet false 2 (mCB f_divisor (mCons (mVar 0) (mCons (mVar 1) mNil)))) (sRet (mTup (mCons (mBin opDiv (mVar 0) (mVar 2)) (mCons (mBin opDiv (mVar 1) (mVar 2)) mNil))))))
def f_part : List D → M D := runDef 3 m_part
def m_is_part : MS := (sSeq (sIf (mOrT (mNotT (mTru (mIsi "tuple" (mVar 0)))) (mCmpT opNe (mCB bLen (mCons (mVar 0) mNil)) (mC (.int 2)))) (sRet (mC (.bl false))) sNx) (sSeq (sIf (mNotT (mTru (mCB bAll (mCons (mLc (.n 1) [1] (mSeq (mVar 0)) tsYes (mAnd (mIsi "int" (mVar 1)) (mNot (mIsi "bool" (mVar 1))))) mNil)))) (sRet (mC (.bl false))) sNx) (sRet (mAnd (mBin (opCmp pGe) (mBin opIx (mVar 0) (mC (.int 1))) (mC (.int 1))) (mBin opEq (mCB f_divisor (mCons (mBin opIx (mVar 0) (mC (.int 0))) (mCons (mBin opIx (mVar 0) (mC (.int 1))) mNil))) (mC (.int 1)))))))
def f_is_part : List D → M D := runDef 2 m_is_part
def m_plus : MS := (sRet (mCB f_part (mCons (mBin opAdd (mBin opMul (mBin opIx (mVar 0) (mC (.int 0))) (mBin opIx (mVar 1) (mC (.int 1)))) (mBin opMul (mBin opIx (mVar 1) (mC (.int 0))) (mBin opIx (mVar 0) (mC (.int 1))))) (mCons (mBin opMul (mBin opIx (mVar 0) (mC (.int 1))) (mBin opIx (mVar 1) (mC (.int 1)))) mNil))))
def f_plus : List D → M D := runDef 2 m_plus
def m_minus : MS := (sRet (mCB f_part (mCons (mBin opSub (mBin opMul (mBin opIx (mVar 0) (mC (.int 0))) (mBin opIx (mVar 1) (mC (.int 1)))) (mBin opMul (mBin opIx (mVar 1) (mC (.int 0))) (mBin opIx (mVar 0) (mC (.int 1))))) (mCons (mBin opMul (mBin opIx (mVar 0) (mC (.int 1))) (mBin opIx (mVar 1) (mC (.int 1)))) mNil))))
def f_minus : List D → M D := runDef 2 m_minus
def m_times : MS := (sRet (mCB f_part (mCons (mBin opMul (mBin opIx (mVar 0) (mC (.int 0))) (mBin opIx (mVar 1) (mC (.int 0)))) (mCons (mBin opMul (mBin opIx (mVar 0) (mC (.int 1))) (mBin opIx (mVar 1) (mC (.int 1)))) mNil))))
def f_times : List D → M D := runDef 2 m_times
def m_over : MS := (sRet (mCB f_part (mCons (mBin opMul (mBin opIx (mVar 0) (mC (.int 0))) (mBin opIx (mVar 1) (mC (.int 1)))) (mCons (mBin opMul (mBin opIx (mVar 0) (mC (.int 1))) (mBin opIx (mVar 1) (mC (.int 0)))) mNil))))
def f_over : List D → M D := runDef 2 m_over
def m_is_spot : MS := (sRet (mAnd (mIsi "tuple" (mVar 0)) (mAnd (mBin opEq (mCB bLen (mCons (mVar 0) mNil)) (mC (.int 2))) (mCB bAll (mCons (mLc (.n 1) [1] (mSeq (mVar 0)) tsYes (mCall f_is_part (mCons (mVar 1) mNil))) mNil)))))
def f_is_spot : List D → M D := runDef 2 m_is_spot
def m_dot : MS := (sRet (mCB f_plus (mCons (mCB f_times (mCons (mBin opIx (mVar 0) (mC (.int 0))) (mCons (mBin opIx (mVar 1) (mC (.int 0))) mNil))) (mCons (mCB f_times (mCons (mBin opIx (mVar 0) (mC (.int 1))) (mCons (mBin opIx (mVar 1) (mC (.int 1))) mNil))) mNil))))
def f_dot : List D → M D := runDef 2 m_dot
def m_is_way : MS := (sRet (mAnd (mCB f_is_spot (mCons (mVar 0) mNil)) (mBin opEq (mCB f_dot (mCons (mVar 0) (mCons (mVar 0) mNil))) (mTup (mCons (mC (.int 1)) (mCons (mC (.int 1)) mNil))))))
def f_is_way : List D → M D := runDef 1 m_is_way
def m_crossed : MS := (sRet (mCB f_minus (mCons (mCB f_times (mCons (mBin opIx (mVar 0) (mC (.int 0))) (mCons (mBin opIx (mVar 1) (mC (.int 1))) mNil))) (mCons (mCB f_times (mCons (mBin opIx (mVar 0) (mC (.int 1))) (mCons (mBin opIx (mVar 1) (mC (.int 0))) mNil))) mNil))))
def f_crossed : List D → M D := runDef 2 m_crossed
def m_put : MS := (sRet (mTup (mCons (mCB f_plus (mCons (mBin opIx (mVar 0) (mC (.int 0))) (mCons (mCB f_times (mCons (mVar 2) (mCons (mBin opIx (mVar 1) (mC (.int 0))) mNil))) mNil))) (mCons (mCB f_plus (mCons (mBin opIx (mVar 0) (mC (.int 1))) (mCons (mCB f_times (mCons (mVar 2) (mCons (mBin opIx (mVar 1) (mC (.int 1))) mNil))) mNil))) mNil))))
def f_put : List D → M D := runDef 3 m_put
def m_less : MS := (sRet (mCB f_put (mCons (mVar 0) (mCons (mVar 1) (mCons (mTup (mCons (mBin opSub (mC (.int 0)) (mC (.int 1))) (mCons (mC (.int 1)) mNil))) mNil)))))
def f_less : List D → M D := runDef 2 m_less
def m_way_of : MS := (sSeq (sSet false 1 (mCB f_times (mCons (mVar 0) (mCons (mVar 0) mNil)))) (sSeq (sSet false 2 (mCB f_plus (mCons (mTup (mCons (mC (.int 1)) (mCons (mC (.int 1)) mNil))) (mCons (mVar 1) mNil)))) (sRet (mTup (mCons (mCB f_over (mCons (mCB f_minus (mCons (mTup (mCons (mC (.int 1)) (mCons (mC (.int 1)) mNil))) (mCons (mVar 1) mNil))) (mCons (mVar 2) mNil))) (mCons (mCB f_over (mCons (mCB f_times (mCons (mTup (mCons (mC (.int 2)) (mCons (mC (.int 1)) mNil))) (mCons (mVar 0) mNil))) (mCons (mVar 2) mNil))) mNil))))))
def f_way_of : List D → M D := runDef 3 m_way_of
def m_turned : MS := (sRet (mTup (mCons (mCB f_times (mCons (mTup (mCons (mBin opSub (mC (.int 0)) (mC (.int 1))) (mCons (mC (.int 1)) mNil))) (mCons (mBin opIx (mVar 0) (mC (.int 1))) mNil))) (mCons (mBin opIx (mVar 0) (mC (.int 0))) mNil))))
def f_turned : List D → M D := runDef 1 m_turned
def m_second_length : MS := (sSeq (sSet false 5 (mCB f_less (mCons (mVar 2) (mCons (mVar 0) mNil)))) (sSeq (sSet false 6 (mCB f_minus (mCons (mCB f_over (mCons (mCB f_dot (mCons (mVar 5) (mCons (mVar 5) mNil))) (mCons (mTup (mCons (mC (.int 2)) (mCons (mC (.int 1)) mNil))) mNil))) (mCons (mCB f_times (mCons (mVar 4) (mCons (mCB f_dot (mCons (mVar 5) (mCons (mVar 1) mNil))) mNil))) mNil)))) (sSeq (sSet false 7 (mCB f_minus (mCons (mCB f_dot (mCons (mVar 5) (mCons (mVar 3) mNil))) (mCons (mCB f_times (mCons (mVar 4) (mCons (mCB f_minus (mCons (mCB f_dot (mCons (mVar 1) (mCons (mVar 3) mNil))) (mCons (mTup (mCons (mC (.int 1)) (mCons (mC (.int 1)) mNil))) mNil))) mNil))) mNil)))) (sSeq (sIf (mCmpT opEq (mBin opIx (mVar 7) (mC (.int 0))) (mC (.int 0))) (sRaise 0 (PySem.Str.ofString "length")) sNx) (sRet (mCB f_over (mCons (mVar 6) (mCons (mVar 7) mNil))))))))
def f_second_length : List D → M D := runDef 8 m_second_length
def m_joint : MS := (sSeq (sSet false 5 (mCB f_second_length (mCons (mVar 0) (mCons (mVar 1) (mCons (mVar 2) (mCons (mVar 3) (mCons (mVar 4) mNil))))))) (sSeq (sSet false 6 (mCB f_plus (mCons (mVar 4) (mCons (mVar 5) mNil)))) (sSeq (sIf (mCmpT opEq (mBin opIx (mVar 6) (mC (.int 0))) (mC (.int 0))) (sRaise 0 (PySem.Str.ofString "joint")) sNx) (sSeq (sPar false 7 8 (mCons (mCB f_put (mCons (mVar 0) (mCons (mVar 1) (mCons (mVar 4) mNil)))) (mCons (mCB f_put (mCons (mVar 2) (mCons (mVar 3) (mCons (mCB f_times (mCons (mTup (mCons (mBin opSub (mC (.int 0)) (mC (.int 1))) (mCons (mC (.int 1)) mNil))) (mCons (mVar 5) mNil))) mNil)))) mNil))) (sRet (mCB f_put (mCons (mVar 7) (mCons (mCB f_less (mCons (mVar 8) (mCons (mVar 7) mNil))) (mCons (mCB f_over (mCons (mVar 4) (mCons (mVar 6) mNil))) mNil)))))))))
def f_joint : List D → M D := runDef 9 m_joint
def m_way_there : MS := (sSeq (sSet false 5 (mCB f_second_length (mCons (mVar 0) (mCons (mVar 1) (mCons (mVar 2) (mCons (mVar 3) (mCons (mVar 4) mNil))))))) (sRet (mCB f_less (mCons (mCB f_put (mCons (mVar 2) (mCons (mVar 3) (mCons (mCB f_times (mCons (mTup (mCons (mBin opSub (mC (.int 0)) (mC (.int 1))) (mCons (mC (.int 1)) mNil))) (mCons (mVar 5) mNil))) mNil)))) (mCons (mCB f_put (mCons (mVar 0) (mCons (mVar 1) (mCons (mVar 4) mNil)))) mNil)))))
def f_way_there : List D → M D := runDef 6 m_way_there
def m_middle : MS := (sSeq (sSet false 3 (mCB f_less (mCons (mVar 2) (mCons (mVar 0) mNil)))) (sSeq (sSet false 4 (mCB f_times (mCons (mTup (mCons (mC (.int 2)) (mCons (mC (.int 1)) mNil))) (mCons (mCB f_dot (mCons (mVar 3) (mCons (mCB f_turned (mCons (mVar 1) mNil)) mNil))) mNil)))) (sSeq (sIf (mCmpT opEq (mBin opIx (mVar 4) (mC (.int 0))) (mC (.int 0))) (sRet (mC .non)) sNx) (sRet (mCB f_put (mCons (mVar 0) (mCons (mCB f_turned (mCons (mVar 1) mNil)) (mCons (mCB f_over (mCons (mCB f_dot (mCons (mVar 3) (mCons (mVar 3) mNil))) (mCons (mVar 4) mNil))) mNil))))))))
def f_middle : List D → M D := runDef 5 m_middle
def m_bend : MS := (sSeq (sSet false 3 (mCB f_less (mCons (mVar 2) (mCons (mVar 0) mNil)))) (sSeq (sIf (mCmpT opEq (mBin opIx (mCB f_dot (mCons (mVar 3) (mCons (mVar 3) mNil))) (mC (.int 0))) (mC (.int 0))) (sRaise 0 (PySem.Str.ofString "points")) sNx) (sRet (mCB f_over (mCons (mCB f_times (mCons (mTup (mCons (mC (.int 2)) (mCons (mC (.int 1)) mNil))) (mCons (mCB f_crossed (mCons (mVar 1) (mCons (mVar 3) mNil))) mNil))) (mCons (mCB f_dot (mCons (mVar 3) (mCons (mVar 3) mNil))) mNil))))))
def f_bend : List D → M D := runDef 4 m_bend
def m_way_at : MS := (sSeq (sSet false 3 (mCB f_less (mCons (mVar 2) (mCons (mVar 0) mNil)))) (sSeq (sIf (mCmpT opEq (mBin opIx (mCB f_dot (mCons (mVar 3) (mCons (mVar 3) mNil))) (mC (.int 0))) (mC (.int 0))) (sRaise 0 (PySem.Str.ofString "points")) sNx) (sSeq (sSet false 4 (mCB f_over (mCons (mCB f_times (mCons (mTup (mCons (mC (.int 2)) (mCons (mC (.int 1)) mNil))) (mCons (mCB f_dot (mCons (mVar 1) (mCons (mVar 3) mNil))) mNil))) (mCons (mCB f_dot (mCons (mVar 3) (mCons (mVar 3) mNil))) mNil)))) (sRet (mCB f_less (mCons (mTup (mCons (mCB f_times (mCons (mVar 4) (mCons (mBin opIx (mVar 3) (mC (.int 0))) mNil))) (mCons (mCB f_times (mCons (mVar 4) (mCons (mBin opIx (mVar 3) (mC (.int 1))) mNil))) mNil))) (mCons (mVar 1) mNil)))))))
def f_way_at : List D → M D := runDef 5 m_way_at
def m_arcs : MS := (sSeq (sSet false 5 (mCB f_joint (mCons (mVar 0) (mCons (mVar 1) (mCons (mVar 2) (mCons (mVar 3) (mCons (mVar 4) mNil))))))) (sRet (mTup (mCons (mTup (mCons (mVar 0) (mCons (mVar 1) (mCons (mVar 5) mNil)))) (mCons (mTup (mCons (mVar 5) (mCons (mCB f_way_at (mCons (mVar 0) (mCons (mVar 1) (mCons (mVar 5) mNil)))) (mCons (mVar 2) mNil)))) mNil)))))
def f_arcs : List D → M D := runDef 6 m_arcs
def m_goes_on : MS := (sSeq (sAsg false (.t [(.n 5), (.n 6)]) (mCB f_arcs (mCons (mVar 0) (mCons (mVar 1) (mCons (mVar 2) (mCons (mVar 3) (mCons (mVar 4) mNil))))))) (sRet (mBin opEq (mCB f_way_at (mCons (mBin opIx (mVar 6) (mC (.int 0))) (mCons (mBin opIx (mVar 6) (mC (.int 1))) (mCons (mBin opIx (mVar 6) (mC (.int 2))) mNil)))) (mVar 3))))
def f_goes_on : List D → M D := runDef 7 m_goes_on
def m_circle : MS := (sSeq (sPar false 3 4 (mCons (mCB f_less (mCons (mVar 1) (mCons (mVar 0) mNil))) (mCons (mCB f_less (mCons (mVar 2) (mCons (mVar 0) mNil))) mNil))) (sSeq (sSet false 5 (mCB f_times (mCons (mTup (mCons (mC (.int 2)) (mCons (mC (.int 1)) mNil))) (mCons (mCB f_crossed (mCons (mVar 3) (mCons (mVar 4) mNil))) mNil)))) (sSeq (sIf (mCmpT opEq (mBin opIx (mVar 5) (mC (.int 0))) (mC (.int 0))) (sRet (mC .non)) sNx) (sSeq (sPar false 6 7 (mCons (mCB f_dot (mCons (mVar 3) (mCons (mVar 3) mNil))) (mCons (mCB f_dot (mCons (mVar 4) (mCons (mVar 4) mNil))) mNil))) (sSeq (sSet false 8 (mCB f_over (mCons (mCB f_minus (mCons (mCB f_times (mCons (mVar 6) (mCons (mBin opIx (mVar 4) (mC (.int 1))) mNil))) (mCons (mCB f_times (mCons (mVar 7) (mCons (mBin opIx (mVar 3) (mC (.int 1))) mNil))) mNil))) (mCons (mVar 5) mNil)))) (sSeq (sSet false 9 (mCB f_over (mCons (mCB f_minus (mCons (mCB f_times (mCons (mVar 7) (mCons (mBin opIx (mVar 3) (mC (.int 0))) mNil))) (mCons (mCB f_times (mCons (mVar 6) (mCons (mBin opIx (mVar 4) (mC (.int 0))) mNil))) mNil))) (mCons (mVar 5) mNil)))) (sRet (mTup (mCons (mCB f_put (mCons (mVar 0) (mCons (mTup (mCons (mVar 8) (mCons (mVar 9) mNil))) (mCons (mTup (mCons (mC (.int 1)) (mCons (mC (.int 1)) mNil))) mNil)))) (mCons (mCB f_plus (mCons (mCB f_times (mCons (mVar 8) (mCons (mVar 8) mNil))) (mCons (mCB f_times (mCons (mVar 9) (mCons (mVar 9) mNil))) mNil))) mNil))))))))))
def f_circle : List D → M D := runDef 10 m_circle
def m_joints_circle : MS := (sSeq (sSetO false 4 (mLst mNil)) (sSeq (sFor (.n 5) (mRng2 (mCons (mC (.int 1)) (mCons (mC (.int 12)) mNil))) (sSeq (sTry 0 (rHide (mCR f_joint (mCons (mVar 0) (mCons (mVar 1) (mCons (mVar 2) (mCons (mVar 3) (mCons (mTup (mCons (mVar 5) (mCons (mC (.int 1)) mNil))) mNil))))))) (sSet false 6 (mCall f_joint (mCons (mVar 0) (mCons (mVar 1) (mCons (mVar 2) (mCons (mVar 3) (mCons (mTup (mCons (mVar 5) (mCons (mC (.int 1)) mNil))) mNil))))))) (fun _ => sCt)) (sIf (mCmpT (opIn true) (mVar 6) (mVar 4)) (sApp false 4 (mVar 6)) sNx))) (sSeq (sIf (mCmpT (opCmp pLt) (mCB bLen (mCons (mVar 4) mNil)) (mC (.int 3))) (sRaise 0 (PySem.Str.ofString "joint")) sNx) (sRet (mCB f_circle (mCons (mBin opIx (mVar 4) (mC (.int 0))) (mCons (mBin opIx (mVar 4) (mC (.int 1))) (mCons (mBin opIx (mVar 4) (mC (.int 2))) mNil))))))))
def f_joints_circle : List D → M D := runDef 7 m_joints_circle
def m_rotated : MS := (sSeq (sAsg false (.t [(.n 2), (.n 3)]) (mVar 1)) (sSeq (sSet false 4 (mCB f_minus (mCons (mCB f_times (mCons (mVar 2) (mCons (mBin opIx (mVar 0) (mC (.int 0))) mNil))) (mCons (mCB f_times (mCons (mVar 3) (mCons (mBin opIx (mVar 0) (mC (.int 1))) mNil))) mNil)))) (sRet (mTup (mCons (mVar 4) (mCons (mCB f_plus (mCons (mCB f_times (mCons (mVar 3) (mCons (mBin opIx (mVar 0) (mC (.int 0))) mNil))) (mCons (mCB f_times (mCons (mVar 2) (mCons (mBin opIx (mVar 0) (mC (.int 1))) mNil))) mNil))) mNil))))))
def f_rotated : List D → M D := runDef 5 m_rotated
def m_moved : MS := (sSeq (sIf (mNotT (mTru (mCB f_is_way (mCons (mVar 1) mNil)))) (sRaise 0 (PySem.Str.ofString "turn")) sNx) (sSeq (sSet false 3 (mLst (mCons (mCB f_rotated (mCons (mBin opIx (mVar 0) (mC (.int 0))) (mCons (mVar 1) mNil))) (mCons (mCB f_rotated (mCons (mBin opIx (mVar 0) (mC (.int 1))) (mCons (mVar 1) mNil))) (mCons (mCB f_rotated (mCons (mBin opIx (mVar 0) (mC (.int 2))) (mCons (mVar 1) mNil))) mNil))))) (sRet (mTup (mCons (mCB f_put (mCons (mBin opIx (mVar 3) (mC (.int 0))) (mCons (mVar 2) (mCons (mTup (mCons (mC (.int 1)) (mCons (mC (.int 1)) mNil))) mNil)))) (mCons (mBin opIx (mVar 3) (mC (.int 1))) (mCons (mCB f_put (mCons (mBin opIx (mVar 3) (mC (.int 2))) (mCons (mVar 2) (mCons (mTup (mCons (mC (.int 1)) (mCons (mC (.int 1)) mNil))) mNil)))) mNil)))))))
def f_moved : List D → M D := runDef 4 m_moved
def m_turned_back : MS := (sSeq (sSet false 1 (mCB f_way_at (mCons (mBin opIx (mVar 0) (mC (.int 0))) (mCons (mBin opIx (mVar 0) (mC (.int 1))) (mCons (mBin opIx (mVar 0) (mC (.int 2))) mNil))))) (sRet (mTup (mCons (mBin opIx (mVar 0) (mC (.int 2))) (mCons (mTup (mCons (mCB f_times (mCons (mTup (mCons (mBin opSub (mC (.int 0)) (mC (.int 1))) (mCons (mC (.int 1)) mNil))) (mCons (mBin opIx (mVar 1) (mC (.int 0))) mNil))) (mCons (mCB f_times (mCons (mTup (mCons (mBin opSub (mC (.int 0)) (mC (.int 1))) (mCons (mC (.int 1)) mNil))) (mCons (mBin opIx (mVar 1) (mC (.int 1))) mNil))) mNil))) (mCons (mBin opIx (mVar 0) (mC (.int 0))) mNil))))))
def f_turned_back : List D → M D := runDef 2 m_turned_back
def m_is_on : MS := (sSeq (sSet false 2 (mCB f_middle (mCons (mBin opIx (mVar 0) (mC (.int 0))) (mCons (mBin opIx (mVar 0) (mC (.int 1))) (mCons (mBin opIx (mVar 0) (mC (.int 2))) mNil))))) (sSeq (sIf (mCmpT (opIs false) (mVar 2) (mC .non)) (sRet (mBin opEq (mBin opIx (mCB f_crossed (mCons (mCB f_less (mCons (mBin opIx (mVar 0) (mC (.int 2))) (mCons (mBin opIx (mVar 0) (mC (.int 0))) mNil))) (mCons (mCB f_less (mCons (mVar 1) (mCons (mBin opIx (mVar 0) (mC (.int 0))) mNil))) mNil))) (mC (.int 0))) (mC (.int 0)))) sNx) (sSeq (sPar false 3 4 (mCons (mCB f_less (mCons (mBin opIx (mVar 0) (mC (.int 0))) (mCons (mVar 2) mNil))) (mCons (mCB f_less (mCons (mVar 1) (mCons (mVar 2) mNil))) mNil))) (sRet (mBin opEq (mCB f_dot (mCons (mVar 3) (mCons (mVar 3) mNil))) (mCB f_dot (mCons (mVar 4) (mCons (mVar 4) mNil))))))))
def f_is_on : List D → M D := runDef 5 m_is_on
def m__law_part : MS := (sSeq (sPar false 2 3 (mCons (mCB bAbs (mCons (mVar 0) mNil)) (mCons (mCB bAbs (mCons (mVar 1) mNil)) mNil))) (sSeq (sWhile (mCmpT opNe (mVar 3) (mC (.int 0))) (sPar false 2 3 (mCons (mVar 3) (mCons (mBin opMod (mCB bInt (mCons (mVar 2) mNil)) (mVar 3)) mNil)))) (sSeq (sSet false 2 (mIf (mCmpT (opCmp pLt) (mVar 1) (mC (.int 0))) (mBin opSub (mC (.int 0)) (mVar 2)) (mVar 2))) (sRet (mTup (mCons (mBin opDiv (mVar 0) (mVar 2)) (mCons (mBin opDiv (mVar 1) (mVar 2)) mNil)))))))
def f__law_part : List D → M D := runDef 4 m__law_part
def m__law_add : MS := (sRet (mCB f__law_part (mCons (mBin opAdd (mBin opMul (mBin opIx (mVar 0) (mC (.int 0))) (mBin opIx (mVar 1) (mC (.int 1)))) (mBin opMul (mBin opIx (mVar 1) (mC (.int 0))) (mBin opIx (mVar 0) (mC (.int 1))))) (mCons (mBin opMul (mBin opIx (mVar 0) (mC (.int 1))) (mBin opIx (mVar 1) (mC (.int 1)))) mNil))))
def f__law_add : List D → M D := runDef 2 m__law_add
def m__law_mul : MS := (sRet (mCB f__law_part (mCons (mBin opMul (mBin opIx (mVar 0) (mC (.int 0))) (mBin opIx (mVar 1) (mC (.int 0)))) (mCons (mBin opMul (mBin opIx (mVar 0) (mC (.int 1))) (mBin opIx (mVar 1) (mC (.int 1)))) mNil))))
def f__law_mul : List D → M D := runDef 2 m__law_mul
def m__law_neg : MS := (sRet (mTup (mCons (mBin opSub (mC (.int 0)) (mBin opIx (mVar 0) (mC (.int 0)))) (mCons (mBin opIx (mVar 0) (mC (.int 1))) mNil))))
def f__law_neg : List D → M D := runDef 1 m__law_neg
def m__law_over : MS := (sRet (mCB f__law_part (mCons (mBin opMul (mBin opIx (mVar 0) (mC (.int 0))) (mBin opIx (mVar 1) (mC (.int 1)))) (mCons (mBin opMul (mBin opIx (mVar 0) (mC (.int 1))) (mBin opIx (mVar 1) (mC (.int 0)))) mNil))))
def f__law_over : List D → M D := runDef 2 m__law_over
def m__law_fraction : MS := (sRet (mCB f__law_part (mCons (mBin opSub (mCB f__law_take (mCons (mVar 0) (mCons (mBin opAdd (mBin opMul (mC (.int 2)) (mVar 1)) (mC (.int 1))) mNil))) (mVar 1)) (mCons (mBin opAdd (mC (.int 1)) (mCB f__law_take (mCons (mVar 0) (mCons (mC (.int 3)) mNil)))) mNil))))
def f__law_fraction : List D → M D := runDef 2 m__law_fraction
def m__law_minus : MS := (sRet (mTup (mCons (mCB f__law_add (mCons (mBin opIx (mVar 0) (mC (.int 0))) (mCons (mCB f__law_neg (mCons (mBin opIx (mVar 1) (mC (.int 0))) mNil)) mNil))) (mCons (mCB f__law_add (mCons (mBin opIx (mVar 0) (mC (.int 1))) (mCons (mCB f__law_neg (mCons (mBin opIx (mVar 1) (mC (.int 1))) mNil)) mNil))) mNil))))
def f__law_minus : List D → M D := runDef 2 m__law_minus
def m__law_dot : MS := (sRet (mCB f__law_add (mCons (mCB f__law_mul (mCons (mBin opIx (mVar 0) (mC (.int 0))) (mCons (mBin opIx (mVar 1) (mC (.int 0))) mNil))) (mCons (mCB f__law_mul (mCons (mBin opIx (mVar 0) (mC (.int 1))) (mCons (mBin opIx (mVar 1) (mC (.int 1))) mNil))) mNil))))
def f__law_dot : List D → M D := runDef 2 m__law_dot
def m__law_cross : MS := (sRet (mCB f__law_add (mCons (mCB f__law_mul (mCons (mBin opIx (mVar 0) (mC (.int 0))) (mCons (mBin opIx (mVar 1) (mC (.int 1))) mNil))) (mCons (mCB f__law_neg (mCons (mCB f__law_mul (mCons (mBin opIx (mVar 0) (mC (.int 1))) (mCons (mBin opIx (mVar 1) (mC (.int 0))) mNil))) mNil)) mNil))))
def f__law_cross : List D → M D := runDef 2 m__law_cross
def m__law_put : MS := (sRet (mTup (mCons (mCB f__law_add (mCons (mBin opIx (mVar 0) (mC (.int 0))) (mCons (mCB f__law_mul (mCons (mVar 2) (mCons (mBin opIx (mVar 1) (mC (.int 0))) mNil))) mNil))) (mCons (mCB f__law_add (mCons (mBin opIx (mVar 0) (mC (.int 1))) (mCons (mCB f__law_mul (mCons (mVar 2) (mCons (mBin opIx (mVar 1) (mC (.int 1))) mNil))) mNil))) mNil))))
def f__law_put : List D → M D := runDef 3 m__law_put
def m__law_way : MS := (sSeq (sSet false 1 (mCB f__law_fraction (mCons (mVar 0) (mCons (mC (.int 3)) mNil)))) (sSeq (sSet false 2 (mCB f__law_mul (mCons (mVar 1) (mCons (mVar 1) mNil)))) (sSeq (sSet false 3 (mCB f__law_add (mCons (mTup (mCons (mC (.int 1)) (mCons (mC (.int 1)) mNil))) (mCons (mVar 2) mNil)))) (sSeq (sSet false 4 (mTup (mCons (mCB f__law_over (mCons (mCB f__law_add (mCons (mTup (mCons (mC (.int 1)) (mCons (mC (.int 1)) mNil))) (mCons (mCB f__law_neg (mCons (mVar 2) mNil)) mNil))) (mCons (mVar 3) mNil))) (mCons (mCB f__law_over (mCons (mCB f__law_mul (mCons (mTup (mCons (mC (.int 2)) (mCons (mC (.int 1)) mNil))) (mCons (mVar 1) mNil))) (mCons (mVar 3) mNil))) mNil)))) (sRet (mTup (mCons (mVar 1) (mCons (mIf (mCmpT opEq (mCB f__law_take (mCons (mVar 0) (mCons (mC (.int 2)) mNil))) (mC (.int 0))) (mVar 4) (mTup (mCons (mCB f__law_neg (mCons (mBin opIx (mVar 4) (mC (.int 0))) mNil)) (mCons (mCB f__law_neg (mCons (mBin opIx (mVar 4) (mC (.int 1))) mNil)) mNil)))) mNil))))))))
def f__law_way : List D → M D := runDef 5 m__law_way
def m__law_spot : MS := (sRet (mTup (mCons (mCB f__law_fraction (mCons (mVar 0) (mCons (mC (.int 4)) mNil))) (mCons (mCB f__law_fraction (mCons (mVar 0) (mCons (mC (.int 4)) mNil))) mNil))))
def f__law_spot : List D → M D := runDef 1 m__law_spot
def m__law_round : MS := (sRet (mCB f_joints_circle (mCons (mVar 0) (mCons (mVar 1) (mCons (mVar 2) (mCons (mVar 3) mNil))))))
def f__law_round : List D → M D := runDef 5 m__law_round
def m__law_word : MS := (sTry 0 (rHide (fun env s => (noX ((mCmpT opEq (mCB bLen (mCons (mVar 1) mNil)) (mC (.int 3))) env s)).bind fun b s => if b = true then (mCallV 0 [("moved", f_moved), ("bend", f_bend), ("way_at", f_way_at)] (mCons (mBin opIx (mVar 1) (mC (.int 0))) (mCons (mBin opIx (mVar 1) (mC (.int 1))) (mCons (mBin opIx (mVar 1) (mC (.int 2))) mNil)))) env s else (mCallV 0 [("joint", f_joint), ("goes_on", f_goes_on), ("_law_round", f__law_round), ("second_length", f_second_length)] (mCons (mBin opIx (mVar 1) (mC (.int 0))) (mCons (mBin opIx (mVar 1) (mC (.int 1))) (mCons (mBin opIx (mVar 1) (mC (.int 2))) (mCons (mBin opIx (mVar 1) (mC (.int 3))) (mCons (mBin opIx (mVar 1) (mC (.int 4))) mNil)))))) env s)) (sSeq (sSet false 2 (mIf (mCmpT opEq (mCB bLen (mCons (mVar 1) mNil)) (mC (.int 3))) (mCallVL 0 [("moved", f_moved), ("bend", f_bend), ("way_at", f_way_at)] (mCons (mBin opIx (mVar 1) (mC (.int 0))) (mCons (mBin opIx (mVar 1) (mC (.int 1))) (mCons (mBin opIx (mVar 1) (mC (.int 2))) mNil)))) (mCallVL 0 [("joint", f_joint), ("goes_on", f_goes_on), ("_law_round", f__law_round), ("second_length", f_second_length)] (mCons (mBin opIx (mVar 1) (mC (.int 0))) (mCons (mBin opIx (mVar 1) (mC (.int 1))) (mCons (mBin opIx (mVar 1) (mC (.int 2))) (mCons (mBin opIx (mVar 1) (mC (.int 3))) (mCons (mBin opIx (mVar 1) (mC (.int 4))) mNil)))))))) (sRet (mC (.str (PySem.Str.ofString ""))))) (sGone 3 (fun w => fun _ s => .ok (.rt (.str w)) s)))
def f__law_word : List D → M D := runDef 4 m__law_word
def q__law_pairs_1 : MS := (sSet false 5 (mCB f__law_mul (mCons (mVar 1) (mCons (mVar 1) mNil))))
def q__law_pairs_2 : MS := (sSet false 6 (mCB f__law_add (mCons (mTup (mCons (mC (.int 1)) (mCons (mC (.int 1)) mNil))) (mCons (mVar 5) mNil))))
def q__law_pairs_3 : MS := (sSet false 7 (mTup (mCons (mCB f__law_over (mCons (mCB f__law_add (mCons (mTup (mCons (mC (.int 1)) (mCons (mC (.int 1)) mNil))) (mCons (mCB f__law_neg (mCons (mVar 5) mNil)) mNil))) (mCons (mVar 6) mNil))) (mCons (mCB f__law_over (mCons (mCB f__law_mul (mCons (mTup (mCons (mC (.int 2)) (mCons (mC (.int 1)) mNil))) (mCons (mVar 1) mNil))) (mCons (mVar 6) mNil))) mNil))))
def q__law_pairs_4 : MS := (sSet false 8 (mCB f__law_fraction (mCons (mVar 0) (mCons (mC (.int 3)) mNil))))
def q__law_pairs_5 : MS := (sIf (mOrT (mCmpT opNe (mCB f_way_of (mCons (mVar 1) mNil)) (mVar 7)) (mOrT (mCmpT (opIs true) (mCB f_is_way (mCons (mVar 7) mNil)) (mC (.bl true))) (mOrT (mCmpT (opIs true) (mCB f_is_way (mCons (mVar 2) mNil)) (mC (.bl true))) (mOrT (mCmpT (opIs true) (mCB f_is_spot (mCons (mVar 3) mNil)) (mC (.bl true))) (mCmpT opNe (mCB f_is_way (mCons (mVar 3) mNil)) (mBin opEq (mCB f__law_dot (mCons (mVar 3) (mCons (mVar 3) mNil))) (mTup (mCons (mC (.int 1)) (mCons (mC (.int 1)) mNil))))))))) (sRet (mC (.bl false))) sNx)
def q__law_pairs_6 : MS := (sIf (mOrT (mCmpT opNe (mCB f_dot (mCons (mVar 3) (mCons (mVar 4) mNil))) (mCB f__law_dot (mCons (mVar 3) (mCons (mVar 4) mNil)))) (mOrT (mCmpT opNe (mCB f_crossed (mCons (mVar 3) (mCons (mVar 4) mNil))) (mCB f__law_cross (mCons (mVar 3) (mCons (mVar 4) mNil)))) (mCmpT opNe (mCB f_less (mCons (mVar 3) (mCons (mVar 4) mNil))) (mCB f__law_minus (mCons (mVar 3) (mCons (mVar 4) mNil)))))) (sRet (mC (.bl false))) sNx)
def q__law_pairs_7 : MS := (sIf (mCmpT opNe (mCB f_put (mCons (mVar 3) (mCons (mVar 4) (mCons (mVar 8) mNil)))) (mCB f__law_put (mCons (mVar 3) (mCons (mVar 4) (mCons (mVar 8) mNil))))) (sRet (mC (.bl false))) sNx)
def q__law_pairs_8 : MS := (sSet false 9 (mTup (mCons (mCB f__law_neg (mCons (mBin opIx (mVar 3) (mC (.int 1))) mNil)) (mCons (mBin opIx (mVar 3) (mC (.int 0))) mNil))))
def q__law_pairs_9 : MS := (sSet false 10 (mTup (mCons (mCB f__law_add (mCons (mCB f__law_mul (mCons (mBin opIx (mVar 2) (mC (.int 0))) (mCons (mBin opIx (mVar 3) (mC (.int 0))) mNil))) (mCons (mCB f__law_neg (mCons (mCB f__law_mul (mCons (mBin opIx (mVar 2) (mC (.int 1))) (mCons (mBin opIx (mVar 3) (mC (.int 1))) mNil))) mNil)) mNil))) (mCons (mCB f__law_add (mCons (mCB f__law_mul (mCons (mBin opIx (mVar 2) (mC (.int 1))) (mCons (mBin opIx (mVar 3) (mC (.int 0))) mNil))) (mCons (mCB f__law_mul (mCons (mBin opIx (mVar 2) (mC (.int 0))) (mCons (mBin opIx (mVar 3) (mC (.int 1))) mNil))) mNil))) mNil))))
def q__law_pairs_10 : MS := (sRet (mAnd (mBin opEq (mCB f_turned (mCons (mVar 3) mNil)) (mVar 9)) (mBin opEq (mCB f_rotated (mCons (mVar 3) (mCons (mVar 2) mNil))) (mVar 10))))
def m__law_pairs : MS := (sSeq q__law_pairs_1 (sSeq q__law_pairs_2 (sSeq q__law_pairs_3 (sSeq q__law_pairs_4 (sSeq q__law_pairs_5 (sSeq q__law_pairs_6 (sSeq q__law_pairs_7 (sSeq q__law_pairs_8 (sSeq q__law_pairs_9 q__law_pairs_10)))))))))
def f__law_pairs : List D → M D := runDef 11 m__law_pairs
def q__law_single_1 : MS := (sSet false 4 (mCB f__law_minus (mCons (mVar 3) (mCons (mVar 2) mNil))))
def q__law_single_2 : MS := (sIf (mCmpT opEq (mVar 4) (mTup (mCons (mTup (mCons (mC (.int 0)) (mCons (mC (.int 1)) mNil))) (mCons (mTup (mCons (mC (.int 0)) (mCons (mC (.int 1)) mNil))) mNil)))) (sRet (mAnd (mBin opEq (mCB f__law_word (mCons (mC (.fn "bend")) (mCons (mTup (mCons (mVar 2) (mCons (mVar 1) (mCons (mVar 3) mNil)))) mNil))) (mC (.str (PySem.Str.ofString "points")))) (mBin opEq (mCB f__law_word (mCons (mC (.fn "way_at")) (mCons (mTup (mCons (mVar 2) (mCons (mVar 1) (mCons (mVar 3) mNil)))) mNil))) (mC (.str (PySem.Str.ofString "points")))))) sNx)
def q__law_single_3 : MS := (sPar false 5 6 (mCons (mCB f__law_dot (mCons (mVar 4) (mCons (mVar 4) mNil))) (mCons (mCB f__law_cross (mCons (mVar 1) (mCons (mVar 4) mNil))) mNil)))
def q__law_single_4 : MS := (sPar false 7 8 (mCons (mCB f_way_at (mCons (mVar 2) (mCons (mVar 1) (mCons (mVar 3) mNil)))) (mCons (mCB f_middle (mCons (mVar 2) (mCons (mVar 1) (mCons (mVar 3) mNil)))) mNil)))
def q__law_single_5 : MS := (sIf (mOrT (mCmpT opNe (mCB f_bend (mCons (mVar 2) (mCons (mVar 1) (mCons (mVar 3) mNil)))) (mCB f__law_over (mCons (mCB f__law_mul (mCons (mTup (mCons (mC (.int 2)) (mCons (mC (.int 1)) mNil))) (mCons (mVar 6) mNil))) (mCons (mVar 5) mNil)))) (mCmpT (opIs true) (mCB f_is_way (mCons (mVar 7) mNil)) (mC (.bl true)))) (sRet (mC (.bl false))) sNx)
def q__law_single_6 : MS := (sIf (mOrT (mCmpT opNe (mCB f__law_dot (mCons (mVar 7) (mCons (mVar 4) mNil))) (mCB f__law_dot (mCons (mVar 1) (mCons (mVar 4) mNil)))) (mCmpT opNe (mCB f__law_cross (mCons (mVar 4) (mCons (mVar 7) mNil))) (mVar 6))) (sRet (mC (.bl false))) sNx)
def q__law_single_7 : MS := (sIf (mCmpT opEq (mVar 6) (mTup (mCons (mC (.int 0)) (mCons (mC (.int 1)) mNil)))) (sRet (mAnd (mBin (opIs false) (mVar 8) (mC .non)) (mAnd (mBin opEq (mVar 7) (mVar 1)) (mBin (opIs false) (mCB f_is_on (mCons (mTup (mCons (mVar 2) (mCons (mVar 1) (mCons (mVar 3) mNil)))) (mCons (mCB f__law_put (mCons (mVar 2) (mCons (mVar 4) (mCons (mTup (mCons (mC (.int 3)) (mCons (mC (.int 1)) mNil))) mNil)))) mNil))) (mC (.bl true)))))) sNx)
def q__law_single_8 : MS := (sPar false 9 10 (mCons (mCB f__law_minus (mCons (mVar 2) (mCons (mVar 8) mNil))) (mCons (mCB f__law_minus (mCons (mVar 3) (mCons (mVar 8) mNil))) mNil)))
def q__law_single_9 : MS := (sSet false 11 (mCB f__law_dot (mCons (mVar 9) (mCons (mVar 9) mNil))))
def q__law_single_10 : MS := (sIf (mOrT (mCmpT opNe (mVar 11) (mCB f__law_dot (mCons (mVar 10) (mCons (mVar 10) mNil)))) (mOrT (mCmpT opNe (mCB f__law_dot (mCons (mVar 9) (mCons (mVar 1) mNil))) (mTup (mCons (mC (.int 0)) (mCons (mC (.int 1)) mNil)))) (mCmpT opNe (mCB f__law_dot (mCons (mVar 10) (mCons (mVar 7) mNil))) (mTup (mCons (mC (.int 0)) (mCons (mC (.int 1)) mNil)))))) (sRet (mC (.bl false))) sNx)
def q__law_single_11 : MS := (sIf (mCmpT opNe (mCB f__law_mul (mCons (mCB f__law_mul (mCons (mCB f_bend (mCons (mVar 2) (mCons (mVar 1) (mCons (mVar 3) mNil)))) (mCons (mCB f_bend (mCons (mVar 2) (mCons (mVar 1) (mCons (mVar 3) mNil)))) mNil))) (mCons (mVar 11) mNil))) (mTup (mCons (mC (.int 1)) (mCons (mC (.int 1)) mNil)))) (sRet (mC (.bl false))) sNx)
def q__law_single_12 : MS := (sSet false 12 (mCB f__law_put (mCons (mVar 8) (mCons (mCB f__law_minus (mCons (mVar 8) (mCons (mVar 2) mNil))) (mCons (mTup (mCons (mC (.int 1)) (mCons (mC (.int 1)) mNil))) mNil)))))
def q__law_single_13 : MS := (sIf (mCmpT opNe (mCB f_circle (mCons (mVar 2) (mCons (mVar 3) (mCons (mVar 12) mNil)))) (mIf (mCmpT opEq (mVar 12) (mVar 3)) (mC .non) (mTup (mCons (mVar 8) (mCons (mVar 11) mNil))))) (sRet (mC (.bl false))) sNx)
def q__law_single_14 : MS := (sPar false 13 14 (mCons (mTup (mCons (mVar 2) (mCons (mVar 1) (mCons (mVar 3) mNil)))) (mCons (mCB f__law_spot (mCons (mVar 0) mNil)) mNil)))
def q__law_single_15 : MS := (sSet false 15 (mCB f__law_minus (mCons (mVar 14) (mCons (mVar 8) mNil))))
def q__law_single_16 : MS := (sIf (mOrT (mCmpT opNe (mCB f_is_on (mCons (mVar 13) (mCons (mVar 14) mNil))) (mBin opEq (mCB f__law_dot (mCons (mVar 15) (mCons (mVar 15) mNil))) (mVar 11))) (mOrT (mCmpT (opIs true) (mCB f_is_on (mCons (mVar 13) (mCons (mVar 2) mNil))) (mC (.bl true))) (mCmpT (opIs true) (mCB f_is_on (mCons (mVar 13) (mCons (mVar 3) mNil))) (mC (.bl true))))) (sRet (mC (.bl false))) sNx)
def q__law_single_17 : MS := (sSet false 16 (mCB f_turned_back (mCons (mVar 13) mNil)))
def q__law_single_18 : MS := (sIf (mOrT (mCmpT opNe (mVar 16) (mTup (mCons (mVar 3) (mCons (mTup (mCons (mCB f__law_neg (mCons (mBin opIx (mVar 7) (mC (.int 0))) mNil)) (mCons (mCB f__law_neg (mCons (mBin opIx (mVar 7) (mC (.int 1))) mNil)) mNil))) (mCons (mVar 2) mNil))))) (mOrT (mCmpT opNe (mCB f_turned_back (mCons (mVar 16) mNil)) (mVar 13)) (mCmpT opNe (mCB f_bend (mCons (mBin opIx (mVar 16) (mC (.int 0))) (mCons (mBin opIx (mVar 16) (mC (.int 1))) (mCons (mBin opIx (mVar 16) (mC (.int 2))) mNil)))) (mCB f__law_neg (mCons (mCB f_bend (mCons (mVar 2) (mCons (mVar 1) (mCons (mVar 3) mNil)))) mNil))))) (sRet (mC (.bl false))) sNx)
def q__law_single_19 : MS := (sAsg false (.t [(.n 17), (.n 18)]) (mCB f__law_way (mCons (mVar 0) mNil)))
def q__law_single_20 : MS := (sSet false 19 (mCB f__law_spot (mCons (mVar 0) mNil)))
def q__law_single_21 : MS := (sSet false 20 (mCB f_moved (mCons (mVar 13) (mCons (mVar 18) (mCons (mVar 19) mNil)))))
def q__law_single_22 : MS := (sIf (mCmpT opNe (mVar 20) (mTup (mCons (mCB f__law_put (mCons (mCB f_rotated (mCons (mVar 2) (mCons (mVar 18) mNil))) (mCons (mVar 19) (mCons (mTup (mCons (mC (.int 1)) (mCons (mC (.int 1)) mNil))) mNil)))) (mCons (mCB f_rotated (mCons (mVar 1) (mCons (mVar 18) mNil))) (mCons (mCB f__law_put (mCons (mCB f_rotated (mCons (mVar 3) (mCons (mVar 18) mNil))) (mCons (mVar 19) (mCons (mTup (mCons (mC (.int 1)) (mCons (mC (.int 1)) mNil))) mNil)))) mNil))))) (sRet (mC (.bl false))) sNx)
def q__law_single_23 : MS := (sIf (mOrT (mCmpT opNe (mCB f_bend (mCons (mBin opIx (mVar 20) (mC (.int 0))) (mCons (mBin opIx (mVar 20) (mC (.int 1))) (mCons (mBin opIx (mVar 20) (mC (.int 2))) mNil)))) (mCB f_bend (mCons (mVar 2) (mCons (mVar 1) (mCons (mVar 3) mNil))))) (mCmpT opNe (mCB f__law_word (mCons (mC (.fn "moved")) (mCons (mTup (mCons (mVar 13) (mCons (mTup (mCons (mTup (mCons (mC (.int 1)) (mCons (mC (.int 1)) mNil))) (mCons (mTup (mCons (mC (.int 1)) (mCons (mC (.int 1)) mNil))) mNil))) (mCons (mVar 19) mNil)))) mNil))) (mC (.str (PySem.Str.ofString "turn"))))) (sRet (mC (.bl false))) sNx)
def q__law_single_24 : MS := (sRet (mBin opEq (mCB f_middle (mCons (mBin opIx (mVar 20) (mC (.int 0))) (mCons (mBin opIx (mVar 20) (mC (.int 1))) (mCons (mBin opIx (mVar 20) (mC (.int 2))) mNil)))) (mCB f__law_put (mCons (mCB f_rotated (mCons (mVar 8) (mCons (mVar 18) mNil))) (mCons (mVar 19) (mCons (mTup (mCons (mC (.int 1)) (mCons (mC (.int 1)) mNil))) mNil))))))
def m__law_single : MS := (sSeq q__law_single_1 (sSeq q__law_single_2 (sSeq q__law_single_3 (sSeq q__law_single_4 (sSeq q__law_single_5 (sSeq q__law_single_6 (sSeq q__law_single_7 (sSeq q__law_single_8 (sSeq q__law_single_9 (sSeq q__law_single_10 (sSeq q__law_single_11 (sSeq q__law_single_12 (sSeq q__law_single_13 (sSeq q__law_single_14 (sSeq q__law_single_15 (sSeq q__law_single_16 (sSeq q__law_single_17 (sSeq q__law_single_18 (sSeq q__law_single_19 (sSeq q__law_single_20 (sSeq q__law_single_21 (sSeq q__law_single_22 (sSeq q__law_single_23 q__law_single_24)))))))))))))))))))))))
def f__law_single : List D → M D := runDef 21 m__law_single
def m__law_joint : MS := (sTry 0 (rHide (mCR f_joint (mCons (mVar 0) (mCons (mVar 1) (mCons (mVar 2) (mCons (mVar 3) (mCons (mVar 4) mNil))))))) (sRet (mCall f_joint (mCons (mVar 0) (mCons (mVar 1) (mCons (mVar 2) (mCons (mVar 3) (mCons (mVar 4) mNil))))))) (sGone 5 (fun _ => (sRet (mC .non)))))
def f__law_joint : List D → M D := runDef 6 m__law_joint
def m__law_circles : MS := (sSeq (sSet false 5 (mLst mNil)) (sSeq (sFor (.n 6) (mRng2 (mCons (mC (.int 1)) (mCons (mC (.int 12)) mNil))) (sSeq (sSet false 7 (mCB f__law_joint (mCons (mVar 0) (mCons (mVar 1) (mCons (mVar 2) (mCons (mVar 3) (mCons (mTup (mCons (mVar 6) (mCons (mC (.int 1)) mNil))) mNil))))))) (sSet false 5 (mIf (mAndT (mCmpT (opIs true) (mVar 7) (mC .non)) (mCmpT (opIn true) (mVar 7) (mVar 5))) (mBin opAdd (mVar 5) (mLst (mCons (mVar 7) mNil))) (mVar 5))))) (sSeq (sIf (mCmpT (opCmp pLt) (mCB bLen (mCons (mVar 5) mNil)) (mC (.int 3))) (sRet (mBin opEq (mCB f__law_word (mCons (mC (.fn "_law_round")) (mCons (mTup (mCons (mVar 0) (mCons (mVar 1) (mCons (mVar 2) (mCons (mVar 3) (mCons (mTup (mCons (mC (.int 1)) (mCons (mC (.int 1)) mNil))) mNil)))))) mNil))) (mC (.str (PySem.Str.ofString "joint"))))) sNx) (sSeq (sSet false 8 (mCB f_joints_circle (mCons (mVar 0) (mCons (mVar 1) (mCons (mVar 2) (mCons (mVar 3) mNil)))))) (sSeq (sIf (mCmpT opNe (mVar 8) (mCB f_circle (mCons (mBin opIx (mVar 5) (mC (.int 0))) (mCons (mBin opIx (mVar 5) (mC (.int 1))) (mCons (mBin opIx (mVar 5) (mC (.int 2))) mNil))))) (sRet (mC (.bl false))) sNx) (sSeq (sIf (mCmpT (opIs false) (mVar 8) (mC .non)) (sRet (mBin opEq (mCB bLen (mCons (mLc (.n 10) [10] (mSeq (mBin opAdd (mVar 5) (mLst (mCons (mVar 4) mNil)))) (mCmpT opNe (mCall f__law_cross (mCons (mCall f__law_minus (mCons (mBin opIx (mVar 5) (mC (.int 1))) (mCons (mBin opIx (mVar 5) (mC (.int 0))) mNil))) (mCons (mCall f__law_minus (mCons (mVar 10) (mCons (mBin opIx (mVar 5) (mC (.int 0))) mNil))) mNil))) (mTup (mCons (mC (.int 0)) (mCons (mC (.int 1)) mNil)))) (mVar 10)) mNil)) (mC (.int 0)))) sNx) (sSeq (sSet false 9 (mLc (.n 10) [10] (mSeq (mBin opAdd (mVar 5) (mLst (mCons (mVar 4) mNil)))) tsYes (mCall f__law_minus (mCons (mVar 10) (mCons (mBin opIx (mVar 8) (mC (.int 0))) mNil))))) (sRet (mBin opEq (mCB bLen (mCons (mLc (.n 11) [11] (mSeq (mVar 9)) (mCmpT opNe (mCall f__law_dot (mCons (mVar 11) (mCons (mVar 11) mNil))) (mBin opIx (mVar 8) (mC (.int 1)))) (mVar 11)) mNil)) (mC (.int 0)))))))))))
def f__law_circles : List D → M D := runDef 12 m__law_circles
def q__law_two_1 : MS := (sSet false 5 (mCB f__law_part (mCons (mBin opAdd (mC (.int 1)) (mCB f__law_take (mCons (mVar 0) (mCons (mC (.int 6)) mNil)))) (mCons (mBin opAdd (mC (.int 1)) (mCB f__law_take (mCons (mVar 0) (mCons (mC (.int 2)) mNil)))) mNil))))
def q__law_two_2 : MS := (sSet false 6 (mCB f__law_minus (mCons (mVar 4) (mCons (mVar 3) mNil))))
def q__law_two_3 : MS := (sSet false 7 (mCB f__law_add (mCons (mCB f__law_dot (mCons (mVar 6) (mCons (mVar 2) mNil))) (mCons (mCB f__law_neg (mCons (mCB f__law_mul (mCons (mVar 5) (mCons (mCB f__law_add (mCons (mCB f__law_dot (mCons (mVar 1) (mCons (mVar 2) mNil))) (mCons (mTup (mCons (mNeg (mC (.int 1))) (mCons (mC (.int 1)) mNil))) mNil))) mNil))) mNil)) mNil))))
def q__law_two_4 : MS := (sSet false 8 (mCB f__law_add (mCons (mCB f__law_mul (mCons (mTup (mCons (mC (.int 1)) (mCons (mC (.int 2)) mNil))) (mCons (mCB f__law_dot (mCons (mVar 6) (mCons (mVar 6) mNil))) mNil))) (mCons (mCB f__law_neg (mCons (mCB f__law_mul (mCons (mVar 5) (mCons (mCB f__law_dot (mCons (mVar 6) (mCons (mVar 1) mNil))) mNil))) mNil)) mNil))))
def q__law_two_5 : MS := (sSet false 9 (mTup (mCons (mVar 3) (mCons (mVar 1) (mCons (mVar 4) (mCons (mVar 2) (mCons (mVar 5) mNil)))))))
def q__law_two_6 : MS := (sIf (mCmpT opEq (mVar 7) (mTup (mCons (mC (.int 0)) (mCons (mC (.int 1)) mNil)))) (sRet (mAnd (mBin opEq (mCB f__law_word (mCons (mC (.fn "second_length")) (mCons (mVar 9) mNil))) (mC (.str (PySem.Str.ofString "length")))) (mBin opEq (mCB f__law_word (mCons (mC (.fn "joint")) (mCons (mVar 9) mNil))) (mC (.str (PySem.Str.ofString "length")))))) sNx)
def q__law_two_7 : MS := (sSet false 10 (mCB f__law_over (mCons (mVar 8) (mCons (mVar 7) mNil))))
def q__law_two_8 : MS := (sIf (mCmpT opNe (mCB f_second_length (mCons (mVar 3) (mCons (mVar 1) (mCons (mVar 4) (mCons (mVar 2) (mCons (mVar 5) mNil)))))) (mVar 10)) (sRet (mC (.bl false))) sNx)
def q__law_two_9 : MS := (sPar false 11 12 (mCons (mCB f__law_put (mCons (mVar 3) (mCons (mVar 1) (mCons (mVar 5) mNil)))) (mCons (mCB f__law_put (mCons (mVar 4) (mCons (mVar 2) (mCons (mCB f__law_neg (mCons (mVar 10) mNil)) mNil)))) mNil)))
def q__law_two_10 : MS := (sPar false 13 14 (mCons (mCB f__law_minus (mCons (mVar 12) (mCons (mVar 11) mNil))) (mCons (mCB f__law_add (mCons (mVar 5) (mCons (mVar 10) mNil))) mNil)))
def q__law_two_11 : MS := (sIf (mOrT (mCmpT opNe (mCB f_way_there (mCons (mVar 3) (mCons (mVar 1) (mCons (mVar 4) (mCons (mVar 2) (mCons (mVar 5) mNil)))))) (mVar 13)) (mCmpT opNe (mCB f__law_dot (mCons (mVar 13) (mCons (mVar 13) mNil))) (mCB f__law_mul (mCons (mVar 14) (mCons (mVar 14) mNil))))) (sRet (mC (.bl false))) sNx)
def q__law_two_12 : MS := (sIf (mCmpT opEq (mVar 14) (mTup (mCons (mC (.int 0)) (mCons (mC (.int 1)) mNil)))) (sRet (mBin opEq (mCB f__law_word (mCons (mC (.fn "joint")) (mCons (mVar 9) mNil))) (mC (.str (PySem.Str.ofString "joint"))))) sNx)
def q__law_two_13 : MS := (sSet false 15 (mCB f__law_put (mCons (mVar 11) (mCons (mVar 13) (mCons (mCB f__law_over (mCons (mVar 5) (mCons (mVar 14) mNil))) mNil)))))
def q__law_two_14 : MS := (sIf (mCmpT opNe (mCB f_joint (mCons (mVar 3) (mCons (mVar 1) (mCons (mVar 4) (mCons (mVar 2) (mCons (mVar 5) mNil)))))) (mVar 15)) (sRet (mC (.bl false))) sNx)
def q__law_two_15 : MS := (sIf (mOrT (mCmpT opEq (mVar 15) (mVar 3)) (mCmpT opEq (mVar 15) (mVar 4))) (sRet (mBin opEq (mCB f__law_word (mCons (mC (.fn "goes_on")) (mCons (mVar 9) mNil))) (mC (.str (PySem.Str.ofString "points"))))) sNx)
def q__law_two_16 : MS := (sSet false 16 (mCB f_arcs (mCons (mVar 3) (mCons (mVar 1) (mCons (mVar 4) (mCons (mVar 2) (mCons (mVar 5) mNil)))))))
def q__law_two_17 : MS := (sSet false 17 (mTup (mCons (mCB f__law_over (mCons (mBin opIx (mVar 13) (mC (.int 0))) (mCons (mVar 14) mNil))) (mCons (mCB f__law_over (mCons (mBin opIx (mVar 13) (mC (.int 1))) (mCons (mVar 14) mNil))) mNil))))
def q__law_two_18 : MS := (sIf (mOrT (mCmpT opNe (mVar 16) (mTup (mCons (mTup (mCons (mVar 3) (mCons (mVar 1) (mCons (mVar 15) mNil)))) (mCons (mTup (mCons (mVar 15) (mCons (mVar 17) (mCons (mVar 4) mNil)))) mNil)))) (mCmpT (opIs true) (mCB f_goes_on (mCons (mVar 3) (mCons (mVar 1) (mCons (mVar 4) (mCons (mVar 2) (mCons (mVar 5) mNil)))))) (mC (.bl true)))) (sRet (mC (.bl false))) sNx)
def q__law_two_19 : MS := (sRet (mCB f__law_circles (mCons (mVar 3) (mCons (mVar 1) (mCons (mVar 4) (mCons (mVar 2) (mCons (mVar 15) mNil)))))))
def m__law_two : MS := (sSeq q__law_two_1 (sSeq q__law_two_2 (sSeq q__law_two_3 (sSeq q__law_two_4 (sSeq q__law_two_5 (sSeq q__law_two_6 (sSeq q__law_two_7 (sSeq q__law_two_8 (sSeq q__law_two_9 (sSeq q__law_two_10 (sSeq q__law_two_11 (sSeq q__law_two_12 (sSeq q__law_two_13 (sSeq q__law_two_14 (sSeq q__law_two_15 (sSeq q__law_two_16 (sSeq q__law_two_17 (sSeq q__law_two_18 q__law_two_19))))))))))))))))))
def f__law_two : List D → M D := runDef 18 m__law_two
def m__law_odd : MS := (sSeq (sSet false 0 (mTup (mCons (mC (.int 1)) (mCons (mC (.int 1)) mNil)))) (sSeq (sSet false 1 (mLst (mCons (mC .non) (mCons (mTup (mCons (mVar 0) mNil)) (mCons (mLst (mCons (mVar 0) (mCons (mVar 0) mNil))) (mCons (mTup (mCons (mVar 0) (mCons (mC (.int 1)) mNil))) (mCons (mTup (mCons (mVar 0) (mCons (mTup (mCons (mC (.int 2)) (mCons (mC (.int 2)) mNil))) mNil))) mNil))))))) (sSeq (sIf (mOrT (mCmpT opNe (mLc (.n 2) [2] (mSeq (mVar 1)) tsYes (mCall f_is_spot (mCons (mVar 2) mNil))) (mBin opMul (mLst (mCons (mC (.bl false)) mNil)) (mC (.int 5)))) (mCmpT opNe (mLc (.n 2) [2] (mSeq (mBin opAdd (mVar 1) (mLst (mCons (mTup (mCons (mVar 0) (mCons (mVar 0) mNil))) (mCons (mTup (mCons (mTup (mCons (mC (.int 0)) (mCons (mC (.int 1)) mNil))) (mCons (mTup (mCons (mC (.int 0)) (mCons (mC (.int 1)) mNil))) mNil))) mNil))))) tsYes (mCall f_is_way (mCons (mVar 2) mNil))) (mBin opMul (mLst (mCons (mC (.bl false)) mNil)) (mC (.int 7))))) (sRet (mC (.bl false))) sNx) (sRet (mAnd (mBin (opIs false) (mCB f_circle (mCons (mTup (mCons (mTup (mCons (mC (.int 0)) (mCons (mC (.int 1)) mNil))) (mCons (mTup (mCons (mC (.int 0)) (mCons (mC (.int 1)) mNil))) mNil))) (mCons (mTup (mCons (mTup (mCons (mC (.int 1)) (mCons (mC (.int 1)) mNil))) (mCons (mTup (mCons (mC (.int 1)) (mCons (mC (.int 1)) mNil))) mNil))) (mCons (mTup (mCons (mTup (mCons (mC (.int 2)) (mCons (mC (.int 1)) mNil))) (mCons (mTup (mCons (mC (.int 2)) (mCons (mC (.int 1)) mNil))) mNil))) mNil)))) (mC .non)) (mBin opEq (mCB f_circle (mCons (mTup (mCons (mTup (mCons (mC (.int 1)) (mCons (mC (.int 1)) mNil))) (mCons (mTup (mCons (mC (.int 0)) (mCons (mC (.int 1)) mNil))) mNil))) (mCons (mTup (mCons (mTup (mCons (mC (.int 0)) (mCons (mC (.int 1)) mNil))) (mCons (mTup (mCons (mC (.int 1)) (mCons (mC (.int 1)) mNil))) mNil))) (mCons (mTup (mCons (mTup (mCons (mNeg (mC (.int 1))) (mCons (mC (.int 1)) mNil))) (mCons (mTup (mCons (mC (.int 0)) (mCons (mC (.int 1)) mNil))) mNil))) mNil)))) (mTup (mCons (mTup (mCons (mTup (mCons (mC (.int 0)) (mCons (mC (.int 1)) mNil))) (mCons (mTup (mCons (mC (.int 0)) (mCons (mC (.int 1)) mNil))) mNil))) (mCons (mTup (mCons (mC (.int 1)) (mCons (mC (.int 1)) mNil))) mNil)))))))))
def f__law_odd : List D → M D := runDef 3 m__law_odd
def l_1 : MS := (sFor (.n 2) (mRng1 (mCons (mC (.int 3)) mNil)) (sSeq (sAsg false (.t [(.n 3), (.n 4)]) (mCall f__law_way (mCons (mVar 1) mNil))) (sSeq (sAsg false (.t [(.n 5), (.n 6)]) (mCall f__law_way (mCons (mVar 1) mNil))) (sSeq (sPar false 7 8 (mCons (mCall f__law_spot (mCons (mVar 1) mNil)) (mCons (mCall f__law_spot (mCons (mVar 1) mNil)) mNil))) (sIf (mOrT (mNotT (mTru (mCall f__law_pairs (mCons (mVar 1) (mCons (mVar 3) (mCons (mVar 4) (mCons (mVar 7) (mCons (mVar 8) mNil)))))))) (mOrT (mNotT (mTru (mCall f__law_single (mCons (mVar 1) (mCons (mVar 4) (mCons (mVar 7) (mCons (mVar 8) mNil))))))) (mNotT (mTru (mCall f__law_two (mCons (mVar 1) (mCons (mVar 4) (mCons (mVar 6) (mCons (mVar 7) (mCons (mVar 8) mNil)))))))))) (sRet (mC (.bl false))) sNx)))))
def l_2 : MS := (sRet (mCall f__law_odd mNil))
def m_law : MS := (sSeq l_1 l_2)
end
/-! what stands -/
abbrev c_Misstep : Stmt := inCls (topS 2) 0
section
variable {C0 : Addr}
variable {P : Program} {w : World} {K : PySem.W.Frag} {mg : Str → Option Value} {base : Heap} {f0 f1 f2 f3 f4 f5 f6 f7 f8 f9 f10 f11 f12 f13 f14 f15 f16 f17 f18 f19 f20 f21 f22 f23 f24 f25 f26 f27 f28 f29 f30 f31 f32 f33 f34 f35 f36 f37 f38 f39 f40 f41 f42 f43 f44 f45 f46 f47 f48 f49 f50 f51 : Addr} {fd0 fd1 fd2 fd3 fd4 fd5 fd6 fd7 fd8 fd9 fd10 fd11 fd12 fd13 fd14 fd15 fd16 fd17 fd18 fd19 fd20 fd21 fd22 fd23 fd24 fd25 fd26 fd27 fd28 fd29 fd30 fd31 fd32 fd33 fd34 fd35 fd36 fd37 fd38 fd39 fd40 fd41 fd42 fd43 fd44 fd45 fd46 fd47 fd48 fd49 fd50 fd51 : FuncData}
structure Tx (P : Program) (K : PySem.W.Frag) (mg : Str → Option Value) (C0 : Addr) (f0 f1 f2 f3 f4 f5 f6 f7 f8 f9 f10 f11 f12 f13 f14 f15 f16 f17 f18 f19 f20 f21 f22 f23 f24 f25 f26 f27 f28 f29 f30 f31 f32 f33 f34 f35 f36 f37 f38 f39 f40 f41 f42 f43 f44 f45 f46 f47 f48 f49 f50 f51 : Addr) (fd0 fd1 fd2 fd3 fd4 fd5 fd6 fd7 fd8 fd9 fd10 fd11 fd12 fd13 fd14 fd15 fd16 fd17 fd18 fd19 fd20 fd21 fd22 fd23 fd24 fd25 fd26 fd27 fd28 fd29 fd30 fd31 fd32 fd33 fd34 fd35 fd36 fd37 fd38 fd39 fd40 fd41 fd42 fd43 fd44 fd45 fd46 fd47 fd48 fd49 fd50 fd51 : FuncData) : Prop where
  F_divisor : Fun K "divisor" "divisor" s_divisor f0 fd0
  m_divisor : mg "divisor" = some (.ref f0)
  b_divisor : Binds K fd0 ["one", "other"] []
  F_part : Fun K "part" "part" s_part f1 fd1
  m_part : mg "part" = some (.ref f1)
  b_part : Binds K fd1 ["above", "below"] []
  F_is_part : Fun K "is_part" "is_part" s_is_part f2 fd2
  m_is_part : mg "is_part" = some (.ref f2)
  b_is_part : Binds K fd2 ["value"] []
  F_plus : Fun K "plus" "plus" s_plus f3 fd3
  m_plus : mg "plus" = some (.ref f3)
  b_plus : Binds K fd3 ["one", "other"] []
  F_minus : Fun K "minus" "minus" s_minus f4 fd4
  m_minus : mg "minus" = some (.ref f4)
  b_minus : Binds K fd4 ["one", "other"] []
  F_times : Fun K "times" "times" s_times f5 fd5
  m_times : mg "times" = some (.ref f5)
  b_times : Binds K fd5 ["one", "other"] []
  F_over : Fun K "over" "over" s_over f6 fd6
  m_over : mg "over" = some (.ref f6)
  b_over : Binds K fd6 ["one", "other"] []
  F_is_spot : Fun K "is_spot" "is_spot" s_is_spot f7 fd7
  m_is_spot : mg "is_spot" = some (.ref f7)
  b_is_spot : Binds K fd7 ["value"] []
  F_is_way : Fun K "is_way" "is_way" s_is_way f8 fd8
  m_is_way : mg "is_way" = some (.ref f8)
  b_is_way : Binds K fd8 ["value"] []
  F_dot : Fun K "dot" "dot" s_dot f9 fd9
  m_dot : mg "dot" = some (.ref f9)
  b_dot : Binds K fd9 ["one", "other"] []
  F_crossed : Fun K "crossed" "crossed" s_crossed f10 fd10
  m_crossed : mg "crossed" = some (.ref f10)
  b_crossed : Binds K fd10 ["one", "other"] []
  F_put : Fun K "put" "put" s_put f11 fd11
  m_put : mg "put" = some (.ref f11)
  b_put : Binds K fd11 ["one", "other", "factor"] []
  F_less : Fun K "less" "less" s_less f12 fd12
  m_less : mg "less" = some (.ref f12)
  b_less : Binds K fd12 ["one", "other"] []
  F_way_of : Fun K "way_of" "way_of" s_way_of f13 fd13
  m_way_of : mg "way_of" = some (.ref f13)
  b_way_of : Binds K fd13 ["half"] []
  F_turned : Fun K "turned" "turned" s_turned f14 fd14
  m_turned : mg "turned" = some (.ref f14)
  b_turned : Binds K fd14 ["way"] []
  F_second_length : Fun K "second_length" "second_length" s_second_length f15 fd15
  m_second_length : mg "second_length" = some (.ref f15)
  b_second_length : Binds K fd15 ["first", "way", "last", "end", "length"] []
  n_second_length : PySem.W.nsIn K mainGlobals "second_length" = some (some (.ref f15))
  F_joint : Fun K "joint" "joint" s_joint f16 fd16
  m_joint : mg "joint" = some (.ref f16)
  b_joint : Binds K fd16 ["first", "way", "last", "end", "length"] []
  n_joint : PySem.W.nsIn K mainGlobals "joint" = some (some (.ref f16))
  F_way_there : Fun K "way_there" "way_there" s_way_there f17 fd17
  m_way_there : mg "way_there" = some (.ref f17)
  b_way_there : Binds K fd17 ["first", "way", "last", "end", "length"] []
  F_middle : Fun K "middle" "middle" s_middle f18 fd18
  m_middle : mg "middle" = some (.ref f18)
  b_middle : Binds K fd18 ["spot", "way", "other"] []
  F_bend : Fun K "bend" "bend" s_bend f19 fd19
  m_bend : mg "bend" = some (.ref f19)
  b_bend : Binds K fd19 ["spot", "way", "other"] []
  n_bend : PySem.W.nsIn K mainGlobals "bend" = some (some (.ref f19))
  F_way_at : Fun K "way_at" "way_at" s_way_at f20 fd20
  m_way_at : mg "way_at" = some (.ref f20)
  b_way_at : Binds K fd20 ["spot", "way", "other"] []
  n_way_at : PySem.W.nsIn K mainGlobals "way_at" = some (some (.ref f20))
  F_arcs : Fun K "arcs" "arcs" s_arcs f21 fd21
  m_arcs : mg "arcs" = some (.ref f21)
  b_arcs : Binds K fd21 ["first", "way", "last", "end", "length"] []
  F_goes_on : Fun K "goes_on" "goes_on" s_goes_on f22 fd22
  m_goes_on : mg "goes_on" = some (.ref f22)
  b_goes_on : Binds K fd22 ["first", "way", "last", "end", "length"] []
  n_goes_on : PySem.W.nsIn K mainGlobals "goes_on" = some (some (.ref f22))
  F_joints_circle : Fun K "joints_circle" "joints_circle" s_joints_circle f23 fd23
  m_joints_circle : mg "joints_circle" = some (.ref f23)
  b_joints_circle : Binds K fd23 ["first", "way", "last", "end"] []
  F_circle : Fun K "circle" "circle" s_circle f24 fd24
  m_circle : mg "circle" = some (.ref f24)
  b_circle : Binds K fd24 ["one", "two", "three"] []
  F_moved : Fun K "moved" "moved" s_moved f25 fd25
  m_moved : mg "moved" = some (.ref f25)
  b_moved : Binds K fd25 ["arc", "table", "shift"] []
  n_moved : PySem.W.nsIn K mainGlobals "moved" = some (some (.ref f25))
  F_rotated : Fun K "rotated" "rotated" s_rotated f26 fd26
  m_rotated : mg "rotated" = some (.ref f26)
  b_rotated : Binds K fd26 ["spot", "table"] []
  F_turned_back : Fun K "turned_back" "turned_back" s_turned_back f27 fd27
  m_turned_back : mg "turned_back" = some (.ref f27)
  b_turned_back : Binds K fd27 ["arc"] []
  F_is_on : Fun K "is_on" "is_on" s_is_on f28 fd28
  m_is_on : mg "is_on" = some (.ref f28)
  b_is_on : Binds K fd28 ["arc", "spot"] []
  F__law_state : Fun K "_law_state" "_law_state" s__law_state f29 fd29
  m__law_state : mg "_law_state" = some (.ref f29)
  b__law_state : Binds K fd29 ["script"] []
  F__law_take : Fun K "_law_take" "_law_take" s__law_take f30 fd30
  m__law_take : mg "_law_take" = some (.ref f30)
  b__law_take : Binds K fd30 ["state", "most"] []
  F__law_part : Fun K "_law_part" "_law_part" s__law_part f31 fd31
  m__law_part : mg "_law_part" = some (.ref f31)
  b__law_part : Binds K fd31 ["above", "below"] []
  F__law_add : Fun K "_law_add" "_law_add" s__law_add f32 fd32
  m__law_add : mg "_law_add" = some (.ref f32)
  b__law_add : Binds K fd32 ["one", "other"] []
  F__law_mul : Fun K "_law_mul" "_law_mul" s__law_mul f33 fd33
  m__law_mul : mg "_law_mul" = some (.ref f33)
  b__law_mul : Binds K fd33 ["one", "other"] []
  F__law_neg : Fun K "_law_neg" "_law_neg" s__law_neg f34 fd34
  m__law_neg : mg "_law_neg" = some (.ref f34)
  b__law_neg : Binds K fd34 ["one"] []
  F__law_over : Fun K "_law_over" "_law_over" s__law_over f35 fd35
  m__law_over : mg "_law_over" = some (.ref f35)
  b__law_over : Binds K fd35 ["one", "other"] []
  F__law_fraction : Fun K "_law_fraction" "_law_fraction" s__law_fraction f36 fd36
  m__law_fraction : mg "_law_fraction" = some (.ref f36)
  b__law_fraction : Binds K fd36 ["state", "most"] []
  F__law_minus : Fun K "_law_minus" "_law_minus" s__law_minus f37 fd37
  m__law_minus : mg "_law_minus" = some (.ref f37)
  b__law_minus : Binds K fd37 ["one", "other"] []
  F__law_dot : Fun K "_law_dot" "_law_dot" s__law_dot f38 fd38
  m__law_dot : mg "_law_dot" = some (.ref f38)
  b__law_dot : Binds K fd38 ["one", "other"] []
  F__law_cross : Fun K "_law_cross" "_law_cross" s__law_cross f39 fd39
  m__law_cross : mg "_law_cross" = some (.ref f39)
  b__law_cross : Binds K fd39 ["one", "other"] []
  F__law_put : Fun K "_law_put" "_law_put" s__law_put f40 fd40
  m__law_put : mg "_law_put" = some (.ref f40)
  b__law_put : Binds K fd40 ["one", "other", "factor"] []
  F__law_way : Fun K "_law_way" "_law_way" s__law_way f41 fd41
  m__law_way : mg "_law_way" = some (.ref f41)
  b__law_way : Binds K fd41 ["state"] []
  F__law_spot : Fun K "_law_spot" "_law_spot" s__law_spot f42 fd42
  m__law_spot : mg "_law_spot" = some (.ref f42)
  b__law_spot : Binds K fd42 ["state"] []
  F__law_word : Fun K "_law_word" "_law_word" s__law_word f43 fd43
  m__law_word : mg "_law_word" = some (.ref f43)
  b__law_word : Binds K fd43 ["call", "given"] []
  F__law_pairs : Fun K "_law_pairs" "_law_pairs" s__law_pairs f44 fd44
  m__law_pairs : mg "_law_pairs" = some (.ref f44)
  b__law_pairs : Binds K fd44 ["state", "half", "way", "first", "last"] []
  F__law_single : Fun K "_law_single" "_law_single" s__law_single f45 fd45
  m__law_single : mg "_law_single" = some (.ref f45)
  b__law_single : Binds K fd45 ["state", "way", "first", "last"] []
  F__law_two : Fun K "_law_two" "_law_two" s__law_two f46 fd46
  m__law_two : mg "_law_two" = some (.ref f46)
  b__law_two : Binds K fd46 ["state", "way", "end", "first", "last"] []
  F__law_circles : Fun K "_law_circles" "_law_circles" s__law_circles f47 fd47
  m__law_circles : mg "_law_circles" = some (.ref f47)
  b__law_circles : Binds K fd47 ["first", "way", "last", "end", "spot"] []
  F__law_round : Fun K "_law_round" "_law_round" s__law_round f48 fd48
  m__law_round : mg "_law_round" = some (.ref f48)
  b__law_round : Binds K fd48 ["first", "way", "last", "end", "length"] []
  n__law_round : PySem.W.nsIn K mainGlobals "_law_round" = some (some (.ref f48))
  F__law_joint : Fun K "_law_joint" "_law_joint" s__law_joint f49 fd49
  m__law_joint : mg "_law_joint" = some (.ref f49)
  b__law_joint : Binds K fd49 ["first", "way", "last", "end", "length"] []
  F__law_odd : Fun K "_law_odd" "_law_odd" s__law_odd f50 fd50
  m__law_odd : mg "_law_odd" = some (.ref f50)
  b__law_odd : Binds K fd50 [] []
  F_law : Fun K "law" "law" s_law f51 fd51
  m_law : mg "law" = some (.ref f51)
  b_law : Binds K fd51 ["script"] []
  g_Misstep : mg "Misstep" = some (.ref C0)
  X_Misstep : ExI P K C0 "Misstep.__init__" "word" "word" (PySem.Str.ofString "this may not be done: ") c_Misstep
  x_Misstep : XfC K C0
  e_Misstep : PySem.W.exmOne K (.ref C0) (.ref C0) = some true
  z_super : mg "super" = none
  z_abs : mg "abs" = none
  z_all : mg "all" = none
  z_bool : mg "bool" = none
  z_int : mg "int" = none
  z_isinstance : mg "isinstance" = none
  z_len : mg "len" = none
  z_range : mg "range" = none
  z_tuple : mg "tuple" = none
end
end L2.Mir.W

set_option Elab.async false
set_option linter.all false
set_option maxRecDepth 100000
set_option maxHeartbeats 4000000
namespace L2.Mir.W
open PySem PySem.Spec PyProof.Rows
section
variable {C0 : Addr}
variable {P : Program} {w : World} {K : PySem.W.Frag} {mg : Str → Option Value} {base : Heap} {f0 f1 f2 f3 f4 f5 f6 f7 f8 f9 f10 f11 f12 f13 f14 f15 f16 f17 f18 f19 f20 f21 f22 f23 f24 f25 f26 f27 f28 f29 f30 f31 f32 f33 f34 f35 f36 f37 f38 f39 f40 f41 f42 f43 f44 f45 f46 f47 f48 f49 f50 f51 : Addr} {fd0 fd1 fd2 fd3 fd4 fd5 fd6 fd7 fd8 fd9 fd10 fd11 fd12 fd13 fd14 fd15 fd16 fd17 fd18 fd19 fd20 fd21 fd22 fd23 fd24 fd25 fd26 fd27 fd28 fd29 fd30 fd31 fd32 fd33 fd34 fd35 fd36 fd37 fd38 fd39 fd40 fd41 fd42 fd43 fd44 fd45 fd46 fd47 fd48 fd49 fd50 fd51 : FuncData}
/-! the walks -/
theorem ok_divisor (T : Tx P K mg C0 f0 f1 f2 f3 f4 f5 f6 f7 f8 f9 f10 f11 f12 f13 f14 f15 f16 f17 f18 f19 f20 f21 f22 f23 f24 f25 f26 f27 f28 f29 f30 f31 f32 f33 f34 f35 f36 f37 f38 f39 f40 f41 f42 f43 f44 f45 f46 f47 f48 f49 f50 f51 fd0 fd1 fd2 fd3 fd4 fd5 fd6 fd7 fd8 fd9 fd10 fd11 fd12 fd13 fd14 fd15 fd16 fd17 fd18 fd19 fd20 fd21 fd22 fd23 fd24 fd25 fd26 fd27 fd28 fd29 fd30 fd31 fd32 fd33 fd34 fd35 fd36 fd37 fd38 fd39 fd40 fd41 fd42 fd43 fd44 fd45 fd46 fd47 fd48 fd49 fd50 fd51) : FnOk P w K mg base (L2.CX P w) 1 f0 fd0 ["one", "other"] (spM K (xrOf [(C0, "word")]) 2 f_divisor) :=
  have nd := sc_divisor.nd
  fn_okX (m := m_divisor) (N := nm_divisor) (ps := ["one", "other"]) 0 rfl rfl rfl T.F_divisor sc_divisor fun cdv A outer s H E hr tk po => (es_cons (es_par false 0 1 rfl nd (ea_cons (ee_callB call_abs rc_abs T.z_abs (by decide +kernel) (ea_cons (ee_var 0) ea_nil)) (ea_cons (ee_callB call_abs rc_abs T.z_abs (by decide +kernel) (ea_cons (ee_var 1) ea_nil)) ea_nil))) (es_cons (es_while po (et_cmp (op_neD hr.units) rb_ne (ee_var 1) ee_int) (es_one (es_par false 0 1 rfl nd (ea_cons (ee_var 1) (ea_cons (ee_bin op_mod rb_mod (ee_var 0) (ee_var 1)) ea_nil))))) (es_one (es_ret (ee_var 0)))))
theorem ok_part (T : Tx P K mg C0 f0 f1 f2 f3 f4 f5 f6 f7 f8 f9 f10 f11 f12 f13 f14 f15 f16 f17 f18 f19 f20 f21 f22 f23 f24 f25 f26 f27 f28 f29 f30 f31 f32 f33 f34 f35 f36 f37 f38 f39 f40 f41 f42 f43 f44 f45 f46 f47 f48 f49 f50 f51 fd0 fd1 fd2 fd3 fd4 fd5 fd6 fd7 fd8 fd9 fd10 fd11 fd12 fd13 fd14 fd15 fd16 fd17 fd18 fd19 fd20 fd21 fd22 fd23 fd24 fd25 fd26 fd27 fd28 fd29 fd30 fd31 fd32 fd33 fd34 fd35 fd36 fd37 fd38 fd39 fd40 fd41 fd42 fd43 fd44 fd45 fd46 fd47 fd48 fd49 fd50 fd51) : FnOk P w K mg base (L2.CX P w) 2 f1 fd1 ["above", "below"] (spM K (xrOf [(C0, "word")]) 2 f_part) :=
  have nd := sc_part.nd
  fn_okX (m := m_part) (N := nm_part) (ps := ["above", "below"]) 1 rfl rfl rfl T.F_part sc_part fun cdv A outer s H E hr tk po => (es_cons (es_if (et_cmp op_lt (rb_cmp (p := pLt)) (ee_var 1) ee_int) (es_one (es_par false 0 1 rfl nd (ea_cons (ee_bin op_sub rb_sub ee_int (ee_var 0)) (ea_cons (ee_bin op_sub rb_sub ee_int (ee_var 1)) ea_nil)))) es_nil) (es_cons (es_set false 2 nd (ee_callX (ok_divisor T) tk (hr.mono (by decide)) T.m_divisor T.F_divisor.kp T.b_divisor rfl (ea_cons (ee_var 0) (ea_cons (ee_var 1) ea_nil)) (lc (lc ln)))) (es_one (es_ret (ee_tup (ea_cons (ee_bin op_divA rb_div (ee_var 0) (ee_var 2)) (ea_cons (ee_bin op_divA rb_div (ee_var 1) (ee_var 2)) ea_nil)) (lc (lc ln)))))))
theorem ok_is_part (T : Tx P K mg C0 f0 f1 f2 f3 f4 f5 f6 f7 f8 f9 f10 f11 f12 f13 f14 f15 f16 f17 f18 f19 f20 f21 f22 f23 f24 f25 f26 f27 f28 f29 f30 f31 f32 f33 f34 f35 f36 f37 f38 f39 f40 f41 f42 f43 f44 f45 f46 f47 f48 f49 f50 f51 fd0 fd1 fd2 fd3 fd4 fd5 fd6 fd7 fd8 fd9 fd10 fd11 fd12 fd13 fd14 fd15 fd16 fd17 fd18 fd19 fd20 fd21 fd22 fd23 fd24 fd25 fd26 fd27 fd28 fd29 fd30 fd31 fd32 fd33 fd34 fd35 fd36 fd37 fd38 fd39 fd40 fd41 fd42 fd43 fd44 fd45 fd46 fd47 fd48 fd49 fd50 fd51) : FnOk P w K mg base (L2.CX P w) 2 f2 fd2 ["value"] (spM K (xrOf [(C0, "word")]) 1 f_is_part) :=
  have nd := sc_is_part.nd
  fn_okX (m := m_is_part) (N := nm_is_part) (ps := ["value"]) 1 rfl rfl rfl T.F_is_part sc_is_part fun cdv A outer s H E hr tk po => (es_cons (es_if (et_w (ew_or (et_not (et_val (ee_isi (T := "tuple") rfl (ee_var 0) T.z_isinstance (by decide +kernel) T.z_tuple (by decide +kernel)) rfl)) (ew_or1 (et_cmp (op_neD hr.units) rb_ne (ee_callB call_len rc_len T.z_len PySem.boot_len (ea_cons (ee_var 0) ea_nil)) ee_int)))) (es_one (es_ret ee_bl)) es_nil) (es_cons (es_if (et_not (et_val (ee_callB (cr_all rfl) rc_all T.z_all (by decide +kernel) (ea_cons (ee_lc (own := [("number", 1)]) (p := (.n 1)) rfl nd (ei_seq rfl (ee_var 0)) (blkOk_by (N := nm_is_part) (sc := defScope s_is_part) (by decide +kernel)) (by decide) (fun _ _ _ _ _ => (eg_name nd)) (fun _ _ _ _ _ => ets_nil) (fun _ _ _ _ _ => (ee_and (ee_isi (T := "int") rfl (ee_var 1) T.z_isinstance (by decide +kernel) T.z_int (by decide +kernel)) (ee_one (ee_not (ee_isi (T := "bool") rfl (ee_var 1) T.z_isinstance (by decide +kernel) T.z_bool (by decide +kernel))))))) ea_nil)) rfl)) (es_one (es_ret ee_bl)) es_nil) (es_one (es_ret (ee_and (ee_cmp op_ge (rb_cmp (p := pGe)) (ee_ix rfl (ee_var 0) ee_int) ee_int) (ee_one (ee_cmp (op_eqD hr.units) rb_eq (ee_callX (ok_divisor T) tk (hr.mono (by decide)) T.m_divisor T.F_divisor.kp T.b_divisor rfl (ea_cons (ee_ix rfl (ee_var 0) ee_int) (ea_cons (ee_ix rfl (ee_var 0) ee_int) ea_nil)) (lc (lc ln))) ee_int)))))))
theorem ok_plus (T : Tx P K mg C0 f0 f1 f2 f3 f4 f5 f6 f7 f8 f9 f10 f11 f12 f13 f14 f15 f16 f17 f18 f19 f20 f21 f22 f23 f24 f25 f26 f27 f28 f29 f30 f31 f32 f33 f34 f35 f36 f37 f38 f39 f40 f41 f42 f43 f44 f45 f46 f47 f48 f49 f50 f51 fd0 fd1 fd2 fd3 fd4 fd5 fd6 fd7 fd8 fd9 fd10 fd11 fd12 fd13 fd14 fd15 fd16 fd17 fd18 fd19 fd20 fd21 fd22 fd23 fd24 fd25 fd26 fd27 fd28 fd29 fd30 fd31 fd32 fd33 fd34 fd35 fd36 fd37 fd38 fd39 fd40 fd41 fd42 fd43 fd44 fd45 fd46 fd47 fd48 fd49 fd50 fd51) : FnOk P w K mg base (L2.CX P w) 3 f3 fd3 ["one", "other"] (spM K (xrOf [(C0, "word")]) 2 f_plus) :=
  have nd := sc_plus.nd
  fn_okX (m := m_plus) (N := nm_plus) (ps := ["one", "other"]) 2 rfl rfl rfl T.F_plus sc_plus fun cdv A outer s H E hr tk po => (es_one (es_ret (ee_callX (ok_part T) tk (hr.mono (by decide)) T.m_part T.F_part.kp T.b_part rfl (ea_cons (ee_bin or_add rb_add (ee_bin or_mul rb_mul (ee_ix rfl (ee_var 0) ee_int) (ee_ix rfl (ee_var 1) ee_int)) (ee_bin or_mul rb_mul (ee_ix rfl (ee_var 1) ee_int) (ee_ix rfl (ee_var 0) ee_int))) (ea_cons (ee_bin or_mul rb_mul (ee_ix rfl (ee_var 0) ee_int) (ee_ix rfl (ee_var 1) ee_int)) ea_nil)) (lc (lc ln)))))
theorem ok_minus (T : Tx P K mg C0 f0 f1 f2 f3 f4 f5 f6 f7 f8 f9 f10 f11 f12 f13 f14 f15 f16 f17 f18 f19 f20 f21 f22 f23 f24 f25 f26 f27 f28 f29 f30 f31 f32 f33 f34 f35 f36 f37 f38 f39 f40 f41 f42 f43 f44 f45 f46 f47 f48 f49 f50 f51 fd0 fd1 fd2 fd3 fd4 fd5 fd6 fd7 fd8 fd9 fd10 fd11 fd12 fd13 fd14 fd15 fd16 fd17 fd18 fd19 fd20 fd21 fd22 fd23 fd24 fd25 fd26 fd27 fd28 fd29 fd30 fd31 fd32 fd33 fd34 fd35 fd36 fd37 fd38 fd39 fd40 fd41 fd42 fd43 fd44 fd45 fd46 fd47 fd48 fd49 fd50 fd51) : FnOk P w K mg base (L2.CX P w) 3 f4 fd4 ["one", "other"] (spM K (xrOf [(C0, "word")]) 2 f_minus) :=
  have nd := sc_minus.nd
  fn_okX (m := m_minus) (N := nm_minus) (ps := ["one", "other"]) 2 rfl rfl rfl T.F_minus sc_minus fun cdv A outer s H E hr tk po => (es_one (es_ret (ee_callX (ok_part T) tk (hr.mono (by decide)) T.m_part T.F_part.kp T.b_part rfl (ea_cons (ee_bin op_sub rb_sub (ee_bin or_mul rb_mul (ee_ix rfl (ee_var 0) ee_int) (ee_ix rfl (ee_var 1) ee_int)) (ee_bin or_mul rb_mul (ee_ix rfl (ee_var 1) ee_int) (ee_ix rfl (ee_var 0) ee_int))) (ea_cons (ee_bin or_mul rb_mul (ee_ix rfl (ee_var 0) ee_int) (ee_ix rfl (ee_var 1) ee_int)) ea_nil)) (lc (lc ln)))))
theorem ok_times (T : Tx P K mg C0 f0 f1 f2 f3 f4 f5 f6 f7 f8 f9 f10 f11 f12 f13 f14 f15 f16 f17 f18 f19 f20 f21 f22 f23 f24 f25 f26 f27 f28 f29 f30 f31 f32 f33 f34 f35 f36 f37 f38 f39 f40 f41 f42 f43 f44 f45 f46 f47 f48 f49 f50 f51 fd0 fd1 fd2 fd3 fd4 fd5 fd6 fd7 fd8 fd9 fd10 fd11 fd12 fd13 fd14 fd15 fd16 fd17 fd18 fd19 fd20 fd21 fd22 fd23 fd24 fd25 fd26 fd27 fd28 fd29 fd30 fd31 fd32 fd33 fd34 fd35 fd36 fd37 fd38 fd39 fd40 fd41 fd42 fd43 fd44 fd45 fd46 fd47 fd48 fd49 fd50 fd51) : FnOk P w K mg base (L2.CX P w) 3 f5 fd5 ["one", "other"] (spM K (xrOf [(C0, "word")]) 2 f_times) :=
  have nd := sc_times.nd
  fn_okX (m := m_times) (N := nm_times) (ps := ["one", "other"]) 2 rfl rfl rfl T.F_times sc_times fun cdv A outer s H E hr tk po => (es_one (es_ret (ee_callX (ok_part T) tk (hr.mono (by decide)) T.m_part T.F_part.kp T.b_part rfl (ea_cons (ee_bin or_mul rb_mul (ee_ix rfl (ee_var 0) ee_int) (ee_ix rfl (ee_var 1) ee_int)) (ea_cons (ee_bin or_mul rb_mul (ee_ix rfl (ee_var 0) ee_int) (ee_ix rfl (ee_var 1) ee_int)) ea_nil)) (lc (lc ln)))))
theorem ok_over (T : Tx P K mg C0 f0 f1 f2 f3 f4 f5 f6 f7 f8 f9 f10 f11 f12 f13 f14 f15 f16 f17 f18 f19 f20 f21 f22 f23 f24 f25 f26 f27 f28 f29 f30 f31 f32 f33 f34 f35 f36 f37 f38 f39 f40 f41 f42 f43 f44 f45 f46 f47 f48 f49 f50 f51 fd0 fd1 fd2 fd3 fd4 fd5 fd6 fd7 fd8 fd9 fd10 fd11 fd12 fd13 fd14 fd15 fd16 fd17 fd18 fd19 fd20 fd21 fd22 fd23 fd24 fd25 fd26 fd27 fd28 fd29 fd30 fd31 fd32 fd33 fd34 fd35 fd36 fd37 fd38 fd39 fd40 fd41 fd42 fd43 fd44 fd45 fd46 fd47 fd48 fd49 fd50 fd51) : FnOk P w K mg base (L2.CX P w) 3 f6 fd6 ["one", "other"] (spM K (xrOf [(C0, "word")]) 2 f_over) :=
  have nd := sc_over.nd
  fn_okX (m := m_over) (N := nm_over) (ps := ["one", "other"]) 2 rfl rfl rfl T.F_over sc_over fun cdv A outer s H E hr tk po => (es_one (es_ret (ee_callX (ok_part T) tk (hr.mono (by decide)) T.m_part T.F_part.kp T.b_part rfl (ea_cons (ee_bin or_mul rb_mul (ee_ix rfl (ee_var 0) ee_int) (ee_ix rfl (ee_var 1) ee_int)) (ea_cons (ee_bin or_mul rb_mul (ee_ix rfl (ee_var 0) ee_int) (ee_ix rfl (ee_var 1) ee_int)) ea_nil)) (lc (lc ln)))))
theorem ok_is_spot (T : Tx P K mg C0 f0 f1 f2 f3 f4 f5 f6 f7 f8 f9 f10 f11 f12 f13 f14 f15 f16 f17 f18 f19 f20 f21 f22 f23 f24 f25 f26 f27 f28 f29 f30 f31 f32 f33 f34 f35 f36 f37 f38 f39 f40 f41 f42 f43 f44 f45 f46 f47 f48 f49 f50 f51 fd0 fd1 fd2 fd3 fd4 fd5 fd6 fd7 fd8 fd9 fd10 fd11 fd12 fd13 fd14 fd15 fd16 fd17 fd18 fd19 fd20 fd21 fd22 fd23 fd24 fd25 fd26 fd27 fd28 fd29 fd30 fd31 fd32 fd33 fd34 fd35 fd36 fd37 fd38 fd39 fd40 fd41 fd42 fd43 fd44 fd45 fd46 fd47 fd48 fd49 fd50 fd51) : FnOk P w K mg base (L2.CX P w) 3 f7 fd7 ["value"] (spM K (xrOf [(C0, "word")]) 1 f_is_spot) :=
  have nd := sc_is_spot.nd
  fn_okX (m := m_is_spot) (N := nm_is_spot) (ps := ["value"]) 2 rfl rfl rfl T.F_is_spot sc_is_spot fun cdv A outer s H E hr tk po => (es_one (es_ret (ee_and (ee_isi (T := "tuple") rfl (ee_var 0) T.z_isinstance (by decide +kernel) T.z_tuple (by decide +kernel)) (ee_and (ee_cmp (op_eqD hr.units) rb_eq (ee_callB call_len rc_len T.z_len PySem.boot_len (ea_cons (ee_var 0) ea_nil)) ee_int) (ee_one (ee_callB (cr_all rfl) rc_all T.z_all (by decide +kernel) (ea_cons (ee_lc (own := [("one", 1)]) (p := (.n 1)) rfl nd (ei_seq rfl (ee_var 0)) (blkOk_by (N := nm_is_spot) (sc := defScope s_is_spot) (by decide +kernel)) (by decide) (fun _ _ _ _ _ => (eg_name nd)) (fun _ _ _ _ _ => ets_nil) (fun _ _ _ _ _ => (ee_callL (ok_is_part T) (hr.mono (by decide)) T.m_is_part T.F_is_part.kp T.b_is_part rfl (ea_cons (ee_var 1) ea_nil) (lc ln)))) ea_nil)))))))
theorem ok_dot (T : Tx P K mg C0 f0 f1 f2 f3 f4 f5 f6 f7 f8 f9 f10 f11 f12 f13 f14 f15 f16 f17 f18 f19 f20 f21 f22 f23 f24 f25 f26 f27 f28 f29 f30 f31 f32 f33 f34 f35 f36 f37 f38 f39 f40 f41 f42 f43 f44 f45 f46 f47 f48 f49 f50 f51 fd0 fd1 fd2 fd3 fd4 fd5 fd6 fd7 fd8 fd9 fd10 fd11 fd12 fd13 fd14 fd15 fd16 fd17 fd18 fd19 fd20 fd21 fd22 fd23 fd24 fd25 fd26 fd27 fd28 fd29 fd30 fd31 fd32 fd33 fd34 fd35 fd36 fd37 fd38 fd39 fd40 fd41 fd42 fd43 fd44 fd45 fd46 fd47 fd48 fd49 fd50 fd51) : FnOk P w K mg base (L2.CX P w) 4 f9 fd9 ["one", "other"] (spM K (xrOf [(C0, "word")]) 2 f_dot) :=
  have nd := sc_dot.nd
  fn_okX (m := m_dot) (N := nm_dot) (ps := ["one", "other"]) 3 rfl rfl rfl T.F_dot sc_dot fun cdv A outer s H E hr tk po => (es_one (es_ret (ee_callX (ok_plus T) tk (hr.mono (by decide)) T.m_plus T.F_plus.kp T.b_plus rfl (ea_cons (ee_callX (ok_times T) tk (hr.mono (by decide)) T.m_times T.F_times.kp T.b_times rfl (ea_cons (ee_ix rfl (ee_var 0) ee_int) (ea_cons (ee_ix rfl (ee_var 1) ee_int) ea_nil)) (lc (lc ln))) (ea_cons (ee_callX (ok_times T) tk (hr.mono (by decide)) T.m_times T.F_times.kp T.b_times rfl (ea_cons (ee_ix rfl (ee_var 0) ee_int) (ea_cons (ee_ix rfl (ee_var 1) ee_int) ea_nil)) (lc (lc ln))) ea_nil)) (lc (lc ln)))))
theorem ok_is_way (T : Tx P K mg C0 f0 f1 f2 f3 f4 f5 f6 f7 f8 f9 f10 f11 f12 f13 f14 f15 f16 f17 f18 f19 f20 f21 f22 f23 f24 f25 f26 f27 f28 f29 f30 f31 f32 f33 f34 f35 f36 f37 f38 f39 f40 f41 f42 f43 f44 f45 f46 f47 f48 f49 f50 f51 fd0 fd1 fd2 fd3 fd4 fd5 fd6 fd7 fd8 fd9 fd10 fd11 fd12 fd13 fd14 fd15 fd16 fd17 fd18 fd19 fd20 fd21 fd22 fd23 fd24 fd25 fd26 fd27 fd28 fd29 fd30 fd31 fd32 fd33 fd34 fd35 fd36 fd37 fd38 fd39 fd40 fd41 fd42 fd43 fd44 fd45 fd46 fd47 fd48 fd49 fd50 fd51) : FnOk P w K mg base (L2.CX P w) 5 f8 fd8 ["value"] (spM K (xrOf [(C0, "word")]) 1 f_is_way) :=
  have nd := sc_is_way.nd
  fn_okX (m := m_is_way) (N := nm_is_way) (ps := ["value"]) 4 rfl rfl rfl T.F_is_way sc_is_way fun cdv A outer s H E hr tk po => (es_one (es_ret (ee_and (ee_callX (ok_is_spot T) tk (hr.mono (by decide)) T.m_is_spot T.F_is_spot.kp T.b_is_spot rfl (ea_cons (ee_var 0) ea_nil) (lc ln)) (ee_one (ee_cmp (op_eqD hr.units) rb_eq (ee_callX (ok_dot T) tk (hr.mono (by decide)) T.m_dot T.F_dot.kp T.b_dot rfl (ea_cons (ee_var 0) (ea_cons (ee_var 0) ea_nil)) (lc (lc ln))) (ee_tup (ea_cons ee_int (ea_cons ee_int ea_nil)) (lc (lc ln))))))))
theorem ok_crossed (T : Tx P K mg C0 f0 f1 f2 f3 f4 f5 f6 f7 f8 f9 f10 f11 f12 f13 f14 f15 f16 f17 f18 f19 f20 f21 f22 f23 f24 f25 f26 f27 f28 f29 f30 f31 f32 f33 f34 f35 f36 f37 f38 f39 f40 f41 f42 f43 f44 f45 f46 f47 f48 f49 f50 f51 fd0 fd1 fd2 fd3 fd4 fd5 fd6 fd7 fd8 fd9 fd10 fd11 fd12 fd13 fd14 fd15 fd16 fd17 fd18 fd19 fd20 fd21 fd22 fd23 fd24 fd25 fd26 fd27 fd28 fd29 fd30 fd31 fd32 fd33 fd34 fd35 fd36 fd37 fd38 fd39 fd40 fd41 fd42 fd43 fd44 fd45 fd46 fd47 fd48 fd49 fd50 fd51) : FnOk P w K mg base (L2.CX P w) 4 f10 fd10 ["one", "other"] (spM K (xrOf [(C0, "word")]) 2 f_crossed) :=
  have nd := sc_crossed.nd
  fn_okX (m := m_crossed) (N := nm_crossed) (ps := ["one", "other"]) 3 rfl rfl rfl T.F_crossed sc_crossed fun cdv A outer s H E hr tk po => (es_one (es_ret (ee_callX (ok_minus T) tk (hr.mono (by decide)) T.m_minus T.F_minus.kp T.b_minus rfl (ea_cons (ee_callX (ok_times T) tk (hr.mono (by decide)) T.m_times T.F_times.kp T.b_times rfl (ea_cons (ee_ix rfl (ee_var 0) ee_int) (ea_cons (ee_ix rfl (ee_var 1) ee_int) ea_nil)) (lc (lc ln))) (ea_cons (ee_callX (ok_times T) tk (hr.mono (by decide)) T.m_times T.F_times.kp T.b_times rfl (ea_cons (ee_ix rfl (ee_var 0) ee_int) (ea_cons (ee_ix rfl (ee_var 1) ee_int) ea_nil)) (lc (lc ln))) ea_nil)) (lc (lc ln)))))
theorem ok_put (T : Tx P K mg C0 f0 f1 f2 f3 f4 f5 f6 f7 f8 f9 f10 f11 f12 f13 f14 f15 f16 f17 f18 f19 f20 f21 f22 f23 f24 f25 f26 f27 f28 f29 f30 f31 f32 f33 f34 f35 f36 f37 f38 f39 f40 f41 f42 f43 f44 f45 f46 f47 f48 f49 f50 f51 fd0 fd1 fd2 fd3 fd4 fd5 fd6 fd7 fd8 fd9 fd10 fd11 fd12 fd13 fd14 fd15 fd16 fd17 fd18 fd19 fd20 fd21 fd22 fd23 fd24 fd25 fd26 fd27 fd28 fd29 fd30 fd31 fd32 fd33 fd34 fd35 fd36 fd37 fd38 fd39 fd40 fd41 fd42 fd43 fd44 fd45 fd46 fd47 fd48 fd49 fd50 fd51) : FnOk P w K mg base (L2.CX P w) 4 f11 fd11 ["one", "other", "factor"] (spM K (xrOf [(C0, "word")]) 3 f_put) :=
  have nd := sc_put.nd
  fn_okX (m := m_put) (N := nm_put) (ps := ["one", "other", "factor"]) 3 rfl rfl rfl T.F_put sc_put fun cdv A outer s H E hr tk po => (es_one (es_ret (ee_tup (ea_cons (ee_callX (ok_plus T) tk (hr.mono (by decide)) T.m_plus T.F_plus.kp T.b_plus rfl (ea_cons (ee_ix rfl (ee_var 0) ee_int) (ea_cons (ee_callX (ok_times T) tk (hr.mono (by decide)) T.m_times T.F_times.kp T.b_times rfl (ea_cons (ee_var 2) (ea_cons (ee_ix rfl (ee_var 1) ee_int) ea_nil)) (lc (lc ln))) ea_nil)) (lc (lc ln))) (ea_cons (ee_callX (ok_plus T) tk (hr.mono (by decide)) T.m_plus T.F_plus.kp T.b_plus rfl (ea_cons (ee_ix rfl (ee_var 0) ee_int) (ea_cons (ee_callX (ok_times T) tk (hr.mono (by decide)) T.m_times T.F_times.kp T.b_times rfl (ea_cons (ee_var 2) (ea_cons (ee_ix rfl (ee_var 1) ee_int) ea_nil)) (lc (lc ln))) ea_nil)) (lc (lc ln))) ea_nil)) (lc (lc ln)))))
theorem ok_less (T : Tx P K mg C0 f0 f1 f2 f3 f4 f5 f6 f7 f8 f9 f10 f11 f12 f13 f14 f15 f16 f17 f18 f19 f20 f21 f22 f23 f24 f25 f26 f27 f28 f29 f30 f31 f32 f33 f34 f35 f36 f37 f38 f39 f40 f41 f42 f43 f44 f45 f46 f47 f48 f49 f50 f51 fd0 fd1 fd2 fd3 fd4 fd5 fd6 fd7 fd8 fd9 fd10 fd11 fd12 fd13 fd14 fd15 fd16 fd17 fd18 fd19 fd20 fd21 fd22 fd23 fd24 fd25 fd26 fd27 fd28 fd29 fd30 fd31 fd32 fd33 fd34 fd35 fd36 fd37 fd38 fd39 fd40 fd41 fd42 fd43 fd44 fd45 fd46 fd47 fd48 fd49 fd50 fd51) : FnOk P w K mg base (L2.CX P w) 5 f12 fd12 ["one", "other"] (spM K (xrOf [(C0, "word")]) 2 f_less) :=
  have nd := sc_less.nd
  fn_okX (m := m_less) (N := nm_less) (ps := ["one", "other"]) 4 rfl rfl rfl T.F_less sc_less fun cdv A outer s H E hr tk po => (es_one (es_ret (ee_callX (ok_put T) tk (hr.mono (by decide)) T.m_put T.F_put.kp T.b_put rfl (ea_cons (ee_var 0) (ea_cons (ee_var 1) (ea_cons (ee_tup (ea_cons (ee_bin op_sub rb_sub ee_int ee_int) (ea_cons ee_int ea_nil)) (lc (lc ln))) ea_nil))) (lc (lc (lc ln))))))
theorem ok_way_of (T : Tx P K mg C0 f0 f1 f2 f3 f4 f5 f6 f7 f8 f9 f10 f11 f12 f13 f14 f15 f16 f17 f18 f19 f20 f21 f22 f23 f24 f25 f26 f27 f28 f29 f30 f31 f32 f33 f34 f35 f36 f37 f38 f39 f40 f41 f42 f43 f44 f45 f46 f47 f48 f49 f50 f51 fd0 fd1 fd2 fd3 fd4 fd5 fd6 fd7 fd8 fd9 fd10 fd11 fd12 fd13 fd14 fd15 fd16 fd17 fd18 fd19 fd20 fd21 fd22 fd23 fd24 fd25 fd26 fd27 fd28 fd29 fd30 fd31 fd32 fd33 fd34 fd35 fd36 fd37 fd38 fd39 fd40 fd41 fd42 fd43 fd44 fd45 fd46 fd47 fd48 fd49 fd50 fd51) : FnOk P w K mg base (L2.CX P w) 4 f13 fd13 ["half"] (spM K (xrOf [(C0, "word")]) 1 f_way_of) :=
  have nd := sc_way_of.nd
  fn_okX (m := m_way_of) (N := nm_way_of) (ps := ["half"]) 3 rfl rfl rfl T.F_way_of sc_way_of fun cdv A outer s H E hr tk po => (es_cons (es_set false 1 nd (ee_callX (ok_times T) tk (hr.mono (by decide)) T.m_times T.F_times.kp T.b_times rfl (ea_cons (ee_var 0) (ea_cons (ee_var 0) ea_nil)) (lc (lc ln)))) (es_cons (es_set false 2 nd (ee_callX (ok_plus T) tk (hr.mono (by decide)) T.m_plus T.F_plus.kp T.b_plus rfl (ea_cons (ee_tup (ea_cons ee_int (ea_cons ee_int ea_nil)) (lc (lc ln))) (ea_cons (ee_var 1) ea_nil)) (lc (lc ln)))) (es_one (es_ret (ee_tup (ea_cons (ee_callX (ok_over T) tk (hr.mono (by decide)) T.m_over T.F_over.kp T.b_over rfl (ea_cons (ee_callX (ok_minus T) tk (hr.mono (by decide)) T.m_minus T.F_minus.kp T.b_minus rfl (ea_cons (ee_tup (ea_cons ee_int (ea_cons ee_int ea_nil)) (lc (lc ln))) (ea_cons (ee_var 1) ea_nil)) (lc (lc ln))) (ea_cons (ee_var 2) ea_nil)) (lc (lc ln))) (ea_cons (ee_callX (ok_over T) tk (hr.mono (by decide)) T.m_over T.F_over.kp T.b_over rfl (ea_cons (ee_callX (ok_times T) tk (hr.mono (by decide)) T.m_times T.F_times.kp T.b_times rfl (ea_cons (ee_tup (ea_cons ee_int (ea_cons ee_int ea_nil)) (lc (lc ln))) (ea_cons (ee_var 0) ea_nil)) (lc (lc ln))) (ea_cons (ee_var 2) ea_nil)) (lc (lc ln))) ea_nil)) (lc (lc ln)))))))
theorem ok_turned (T : Tx P K mg C0 f0 f1 f2 f3 f4 f5 f6 f7 f8 f9 f10 f11 f12 f13 f14 f15 f16 f17 f18 f19 f20 f21 f22 f23 f24 f25 f26 f27 f28 f29 f30 f31 f32 f33 f34 f35 f36 f37 f38 f39 f40 f41 f42 f43 f44 f45 f46 f47 f48 f49 f50 f51 fd0 fd1 fd2 fd3 fd4 fd5 fd6 fd7 fd8 fd9 fd10 fd11 fd12 fd13 fd14 fd15 fd16 fd17 fd18 fd19 fd20 fd21 fd22 fd23 fd24 fd25 fd26 fd27 fd28 fd29 fd30 fd31 fd32 fd33 fd34 fd35 fd36 fd37 fd38 fd39 fd40 fd41 fd42 fd43 fd44 fd45 fd46 fd47 fd48 fd49 fd50 fd51) : FnOk P w K mg base (L2.CX P w) 4 f14 fd14 ["way"] (spM K (xrOf [(C0, "word")]) 1 f_turned) :=
  have nd := sc_turned.nd
  fn_okX (m := m_turned) (N := nm_turned) (ps := ["way"]) 3 rfl rfl rfl T.F_turned sc_turned fun cdv A outer s H E hr tk po => (es_one (es_ret (ee_tup (ea_cons (ee_callX (ok_times T) tk (hr.mono (by decide)) T.m_times T.F_times.kp T.b_times rfl (ea_cons (ee_tup (ea_cons (ee_bin op_sub rb_sub ee_int ee_int) (ea_cons ee_int ea_nil)) (lc (lc ln))) (ea_cons (ee_ix rfl (ee_var 0) ee_int) ea_nil)) (lc (lc ln))) (ea_cons (ee_ix rfl (ee_var 0) ee_int) ea_nil)) (lc (lc ln)))))
theorem ok_second_length (T : Tx P K mg C0 f0 f1 f2 f3 f4 f5 f6 f7 f8 f9 f10 f11 f12 f13 f14 f15 f16 f17 f18 f19 f20 f21 f22 f23 f24 f25 f26 f27 f28 f29 f30 f31 f32 f33 f34 f35 f36 f37 f38 f39 f40 f41 f42 f43 f44 f45 f46 f47 f48 f49 f50 f51 fd0 fd1 fd2 fd3 fd4 fd5 fd6 fd7 fd8 fd9 fd10 fd11 fd12 fd13 fd14 fd15 fd16 fd17 fd18 fd19 fd20 fd21 fd22 fd23 fd24 fd25 fd26 fd27 fd28 fd29 fd30 fd31 fd32 fd33 fd34 fd35 fd36 fd37 fd38 fd39 fd40 fd41 fd42 fd43 fd44 fd45 fd46 fd47 fd48 fd49 fd50 fd51) : FnOk P w K mg base (L2.CX P w) 6 f15 fd15 ["first", "way", "last", "end", "length"] (spM K (xrOf [(C0, "word")]) 5 f_second_length) :=
  have nd := sc_second_length.nd
  fn_okX (m := m_second_length) (N := nm_second_length) (ps := ["first", "way", "last", "end", "length"]) 5 rfl rfl rfl T.F_second_length sc_second_length fun cdv A outer s H E hr tk po => (es_cons (es_set false 5 nd (ee_callX (ok_less T) tk (hr.mono (by decide)) T.m_less T.F_less.kp T.b_less rfl (ea_cons (ee_var 2) (ea_cons (ee_var 0) ea_nil)) (lc (lc ln)))) (es_cons (es_set false 6 nd (ee_callX (ok_minus T) tk (hr.mono (by decide)) T.m_minus T.F_minus.kp T.b_minus rfl (ea_cons (ee_callX (ok_over T) tk (hr.mono (by decide)) T.m_over T.F_over.kp T.b_over rfl (ea_cons (ee_callX (ok_dot T) tk (hr.mono (by decide)) T.m_dot T.F_dot.kp T.b_dot rfl (ea_cons (ee_var 5) (ea_cons (ee_var 5) ea_nil)) (lc (lc ln))) (ea_cons (ee_tup (ea_cons ee_int (ea_cons ee_int ea_nil)) (lc (lc ln))) ea_nil)) (lc (lc ln))) (ea_cons (ee_callX (ok_times T) tk (hr.mono (by decide)) T.m_times T.F_times.kp T.b_times rfl (ea_cons (ee_var 4) (ea_cons (ee_callX (ok_dot T) tk (hr.mono (by decide)) T.m_dot T.F_dot.kp T.b_dot rfl (ea_cons (ee_var 5) (ea_cons (ee_var 1) ea_nil)) (lc (lc ln))) ea_nil)) (lc (lc ln))) ea_nil)) (lc (lc ln)))) (es_cons (es_set false 7 nd (ee_callX (ok_minus T) tk (hr.mono (by decide)) T.m_minus T.F_minus.kp T.b_minus rfl (ea_cons (ee_callX (ok_dot T) tk (hr.mono (by decide)) T.m_dot T.F_dot.kp T.b_dot rfl (ea_cons (ee_var 5) (ea_cons (ee_var 3) ea_nil)) (lc (lc ln))) (ea_cons (ee_callX (ok_times T) tk (hr.mono (by decide)) T.m_times T.F_times.kp T.b_times rfl (ea_cons (ee_var 4) (ea_cons (ee_callX (ok_minus T) tk (hr.mono (by decide)) T.m_minus T.F_minus.kp T.b_minus rfl (ea_cons (ee_callX (ok_dot T) tk (hr.mono (by decide)) T.m_dot T.F_dot.kp T.b_dot rfl (ea_cons (ee_var 1) (ea_cons (ee_var 3) ea_nil)) (lc (lc ln))) (ea_cons (ee_tup (ea_cons ee_int (ea_cons ee_int ea_nil)) (lc (lc ln))) ea_nil)) (lc (lc ln))) ea_nil)) (lc (lc ln))) ea_nil)) (lc (lc ln)))) (es_cons (es_if (et_cmp (op_eqD hr.units) rb_eq (ee_ix rfl (ee_var 7) ee_int) ee_int) (es_one (es_raise (k := 0) T.X_Misstep rfl tk rfl rfl (hr.mono (by decide)) T.g_Misstep T.z_super (by rw [sizeLine_eq]; decide))) es_nil) (es_one (es_ret (ee_callX (ok_over T) tk (hr.mono (by decide)) T.m_over T.F_over.kp T.b_over rfl (ea_cons (ee_var 6) (ea_cons (ee_var 7) ea_nil)) (lc (lc ln)))))))))
theorem ok_joint (T : Tx P K mg C0 f0 f1 f2 f3 f4 f5 f6 f7 f8 f9 f10 f11 f12 f13 f14 f15 f16 f17 f18 f19 f20 f21 f22 f23 f24 f25 f26 f27 f28 f29 f30 f31 f32 f33 f34 f35 f36 f37 f38 f39 f40 f41 f42 f43 f44 f45 f46 f47 f48 f49 f50 f51 fd0 fd1 fd2 fd3 fd4 fd5 fd6 fd7 fd8 fd9 fd10 fd11 fd12 fd13 fd14 fd15 fd16 fd17 fd18 fd19 fd20 fd21 fd22 fd23 fd24 fd25 fd26 fd27 fd28 fd29 fd30 fd31 fd32 fd33 fd34 fd35 fd36 fd37 fd38 fd39 fd40 fd41 fd42 fd43 fd44 fd45 fd46 fd47 fd48 fd49 fd50 fd51) : FnOk P w K mg base (L2.CX P w) 7 f16 fd16 ["first", "way", "last", "end", "length"] (spM K (xrOf [(C0, "word")]) 5 f_joint) :=
  have nd := sc_joint.nd
  fn_okX (m := m_joint) (N := nm_joint) (ps := ["first", "way", "last", "end", "length"]) 6 rfl rfl rfl T.F_joint sc_joint fun cdv A outer s H E hr tk po => (es_cons (es_set false 5 nd (ee_callX (ok_second_length T) tk (hr.mono (by decide)) T.m_second_length T.F_second_length.kp T.b_second_length rfl (ea_cons (ee_var 0) (ea_cons (ee_var 1) (ea_cons (ee_var 2) (ea_cons (ee_var 3) (ea_cons (ee_var 4) ea_nil))))) (lc (lc (lc (lc (lc ln))))))) (es_cons (es_set false 6 nd (ee_callX (ok_plus T) tk (hr.mono (by decide)) T.m_plus T.F_plus.kp T.b_plus rfl (ea_cons (ee_var 4) (ea_cons (ee_var 5) ea_nil)) (lc (lc ln)))) (es_cons (es_if (et_cmp (op_eqD hr.units) rb_eq (ee_ix rfl (ee_var 6) ee_int) ee_int) (es_one (es_raise (k := 0) T.X_Misstep rfl tk rfl rfl (hr.mono (by decide)) T.g_Misstep T.z_super (by rw [sizeLine_eq]; decide))) es_nil) (es_cons (es_par false 7 8 rfl nd (ea_cons (ee_callX (ok_put T) tk (hr.mono (by decide)) T.m_put T.F_put.kp T.b_put rfl (ea_cons (ee_var 0) (ea_cons (ee_var 1) (ea_cons (ee_var 4) ea_nil))) (lc (lc (lc ln)))) (ea_cons (ee_callX (ok_put T) tk (hr.mono (by decide)) T.m_put T.F_put.kp T.b_put rfl (ea_cons (ee_var 2) (ea_cons (ee_var 3) (ea_cons (ee_callX (ok_times T) tk (hr.mono (by decide)) T.m_times T.F_times.kp T.b_times rfl (ea_cons (ee_tup (ea_cons (ee_bin op_sub rb_sub ee_int ee_int) (ea_cons ee_int ea_nil)) (lc (lc ln))) (ea_cons (ee_var 5) ea_nil)) (lc (lc ln))) ea_nil))) (lc (lc (lc ln)))) ea_nil))) (es_one (es_ret (ee_callX (ok_put T) tk (hr.mono (by decide)) T.m_put T.F_put.kp T.b_put rfl (ea_cons (ee_var 7) (ea_cons (ee_callX (ok_less T) tk (hr.mono (by decide)) T.m_less T.F_less.kp T.b_less rfl (ea_cons (ee_var 8) (ea_cons (ee_var 7) ea_nil)) (lc (lc ln))) (ea_cons (ee_callX (ok_over T) tk (hr.mono (by decide)) T.m_over T.F_over.kp T.b_over rfl (ea_cons (ee_var 4) (ea_cons (ee_var 6) ea_nil)) (lc (lc ln))) ea_nil))) (lc (lc (lc ln))))))))))
theorem ok_way_there (T : Tx P K mg C0 f0 f1 f2 f3 f4 f5 f6 f7 f8 f9 f10 f11 f12 f13 f14 f15 f16 f17 f18 f19 f20 f21 f22 f23 f24 f25 f26 f27 f28 f29 f30 f31 f32 f33 f34 f35 f36 f37 f38 f39 f40 f41 f42 f43 f44 f45 f46 f47 f48 f49 f50 f51 fd0 fd1 fd2 fd3 fd4 fd5 fd6 fd7 fd8 fd9 fd10 fd11 fd12 fd13 fd14 fd15 fd16 fd17 fd18 fd19 fd20 fd21 fd22 fd23 fd24 fd25 fd26 fd27 fd28 fd29 fd30 fd31 fd32 fd33 fd34 fd35 fd36 fd37 fd38 fd39 fd40 fd41 fd42 fd43 fd44 fd45 fd46 fd47 fd48 fd49 fd50 fd51) : FnOk P w K mg base (L2.CX P w) 7 f17 fd17 ["first", "way", "last", "end", "length"] (spM K (xrOf [(C0, "word")]) 5 f_way_there) :=
  have nd := sc_way_there.nd
  fn_okX (m := m_way_there) (N := nm_way_there) (ps := ["first", "way", "last", "end", "length"]) 6 rfl rfl rfl T.F_way_there sc_way_there fun cdv A outer s H E hr tk po => (es_cons (es_set false 5 nd (ee_callX (ok_second_length T) tk (hr.mono (by decide)) T.m_second_length T.F_second_length.kp T.b_second_length rfl (ea_cons (ee_var 0) (ea_cons (ee_var 1) (ea_cons (ee_var 2) (ea_cons (ee_var 3) (ea_cons (ee_var 4) ea_nil))))) (lc (lc (lc (lc (lc ln))))))) (es_one (es_ret (ee_callX (ok_less T) tk (hr.mono (by decide)) T.m_less T.F_less.kp T.b_less rfl (ea_cons (ee_callX (ok_put T) tk (hr.mono (by decide)) T.m_put T.F_put.kp T.b_put rfl (ea_cons (ee_var 2) (ea_cons (ee_var 3) (ea_cons (ee_callX (ok_times T) tk (hr.mono (by decide)) T.m_times T.F_times.kp T.b_times rfl (ea_cons (ee_tup (ea_cons (ee_bin op_sub rb_sub ee_int ee_int) (ea_cons ee_int ea_nil)) (lc (lc ln))) (ea_cons (ee_var 5) ea_nil)) (lc (lc ln))) ea_nil))) (lc (lc (lc ln)))) (ea_cons (ee_callX (ok_put T) tk (hr.mono (by decide)) T.m_put T.F_put.kp T.b_put rfl (ea_cons (ee_var 0) (ea_cons (ee_var 1) (ea_cons (ee_var 4) ea_nil))) (lc (lc (lc ln)))) ea_nil)) (lc (lc ln))))))
theorem ok_middle (T : Tx P K mg C0 f0 f1 f2 f3 f4 f5 f6 f7 f8 f9 f10 f11 f12 f13 f14 f15 f16 f17 f18 f19 f20 f21 f22 f23 f24 f25 f26 f27 f28 f29 f30 f31 f32 f33 f34 f35 f36 f37 f38 f39 f40 f41 f42 f43 f44 f45 f46 f47 f48 f49 f50 f51 fd0 fd1 fd2 fd3 fd4 fd5 fd6 fd7 fd8 fd9 fd10 fd11 fd12 fd13 fd14 fd15 fd16 fd17 fd18 fd19 fd20 fd21 fd22 fd23 fd24 fd25 fd26 fd27 fd28 fd29 fd30 fd31 fd32 fd33 fd34 fd35 fd36 fd37 fd38 fd39 fd40 fd41 fd42 fd43 fd44 fd45 fd46 fd47 fd48 fd49 fd50 fd51) : FnOk P w K mg base (L2.CX P w) 6 f18 fd18 ["spot", "way", "other"] (spM K (xrOf [(C0, "word")]) 3 f_middle) :=
  have nd := sc_middle.nd
  fn_okX (m := m_middle) (N := nm_middle) (ps := ["spot", "way", "other"]) 5 rfl rfl rfl T.F_middle sc_middle fun cdv A outer s H E hr tk po => (es_cons (es_set false 3 nd (ee_callX (ok_less T) tk (hr.mono (by decide)) T.m_less T.F_less.kp T.b_less rfl (ea_cons (ee_var 2) (ea_cons (ee_var 0) ea_nil)) (lc (lc ln)))) (es_cons (es_set false 4 nd (ee_callX (ok_times T) tk (hr.mono (by decide)) T.m_times T.F_times.kp T.b_times rfl (ea_cons (ee_tup (ea_cons ee_int (ea_cons ee_int ea_nil)) (lc (lc ln))) (ea_cons (ee_callX (ok_dot T) tk (hr.mono (by decide)) T.m_dot T.F_dot.kp T.b_dot rfl (ea_cons (ee_var 3) (ea_cons (ee_callX (ok_turned T) tk (hr.mono (by decide)) T.m_turned T.F_turned.kp T.b_turned rfl (ea_cons (ee_var 1) ea_nil) (lc ln)) ea_nil)) (lc (lc ln))) ea_nil)) (lc (lc ln)))) (es_cons (es_if (et_cmp (op_eqD hr.units) rb_eq (ee_ix rfl (ee_var 4) ee_int) ee_int) (es_one (es_ret ee_non)) es_nil) (es_one (es_ret (ee_callX (ok_put T) tk (hr.mono (by decide)) T.m_put T.F_put.kp T.b_put rfl (ea_cons (ee_var 0) (ea_cons (ee_callX (ok_turned T) tk (hr.mono (by decide)) T.m_turned T.F_turned.kp T.b_turned rfl (ea_cons (ee_var 1) ea_nil) (lc ln)) (ea_cons (ee_callX (ok_over T) tk (hr.mono (by decide)) T.m_over T.F_over.kp T.b_over rfl (ea_cons (ee_callX (ok_dot T) tk (hr.mono (by decide)) T.m_dot T.F_dot.kp T.b_dot rfl (ea_cons (ee_var 3) (ea_cons (ee_var 3) ea_nil)) (lc (lc ln))) (ea_cons (ee_var 4) ea_nil)) (lc (lc ln))) ea_nil))) (lc (lc (lc ln)))))))))
theorem ok_bend (T : Tx P K mg C0 f0 f1 f2 f3 f4 f5 f6 f7 f8 f9 f10 f11 f12 f13 f14 f15 f16 f17 f18 f19 f20 f21 f22 f23 f24 f25 f26 f27 f28 f29 f30 f31 f32 f33 f34 f35 f36 f37 f38 f39 f40 f41 f42 f43 f44 f45 f46 f47 f48 f49 f50 f51 fd0 fd1 fd2 fd3 fd4 fd5 fd6 fd7 fd8 fd9 fd10 fd11 fd12 fd13 fd14 fd15 fd16 fd17 fd18 fd19 fd20 fd21 fd22 fd23 fd24 fd25 fd26 fd27 fd28 fd29 fd30 fd31 fd32 fd33 fd34 fd35 fd36 fd37 fd38 fd39 fd40 fd41 fd42 fd43 fd44 fd45 fd46 fd47 fd48 fd49 fd50 fd51) : FnOk P w K mg base (L2.CX P w) 6 f19 fd19 ["spot", "way", "other"] (spM K (xrOf [(C0, "word")]) 3 f_bend) :=
  have nd := sc_bend.nd
  fn_okX (m := m_bend) (N := nm_bend) (ps := ["spot", "way", "other"]) 5 rfl rfl rfl T.F_bend sc_bend fun cdv A outer s H E hr tk po => (es_cons (es_set false 3 nd (ee_callX (ok_less T) tk (hr.mono (by decide)) T.m_less T.F_less.kp T.b_less rfl (ea_cons (ee_var 2) (ea_cons (ee_var 0) ea_nil)) (lc (lc ln)))) (es_cons (es_if (et_cmp (op_eqD hr.units) rb_eq (ee_ix rfl (ee_callX (ok_dot T) tk (hr.mono (by decide)) T.m_dot T.F_dot.kp T.b_dot rfl (ea_cons (ee_var 3) (ea_cons (ee_var 3) ea_nil)) (lc (lc ln))) ee_int) ee_int) (es_one (es_raise (k := 0) T.X_Misstep rfl tk rfl rfl (hr.mono (by decide)) T.g_Misstep T.z_super (by rw [sizeLine_eq]; decide))) es_nil) (es_one (es_ret (ee_callX (ok_over T) tk (hr.mono (by decide)) T.m_over T.F_over.kp T.b_over rfl (ea_cons (ee_callX (ok_times T) tk (hr.mono (by decide)) T.m_times T.F_times.kp T.b_times rfl (ea_cons (ee_tup (ea_cons ee_int (ea_cons ee_int ea_nil)) (lc (lc ln))) (ea_cons (ee_callX (ok_crossed T) tk (hr.mono (by decide)) T.m_crossed T.F_crossed.kp T.b_crossed rfl (ea_cons (ee_var 1) (ea_cons (ee_var 3) ea_nil)) (lc (lc ln))) ea_nil)) (lc (lc ln))) (ea_cons (ee_callX (ok_dot T) tk (hr.mono (by decide)) T.m_dot T.F_dot.kp T.b_dot rfl (ea_cons (ee_var 3) (ea_cons (ee_var 3) ea_nil)) (lc (lc ln))) ea_nil)) (lc (lc ln)))))))
theorem ok_way_at (T : Tx P K mg C0 f0 f1 f2 f3 f4 f5 f6 f7 f8 f9 f10 f11 f12 f13 f14 f15 f16 f17 f18 f19 f20 f21 f22 f23 f24 f25 f26 f27 f28 f29 f30 f31 f32 f33 f34 f35 f36 f37 f38 f39 f40 f41 f42 f43 f44 f45 f46 f47 f48 f49 f50 f51 fd0 fd1 fd2 fd3 fd4 fd5 fd6 fd7 fd8 fd9 fd10 fd11 fd12 fd13 fd14 fd15 fd16 fd17 fd18 fd19 fd20 fd21 fd22 fd23 fd24 fd25 fd26 fd27 fd28 fd29 fd30 fd31 fd32 fd33 fd34 fd35 fd36 fd37 fd38 fd39 fd40 fd41 fd42 fd43 fd44 fd45 fd46 fd47 fd48 fd49 fd50 fd51) : FnOk P w K mg base (L2.CX P w) 6 f20 fd20 ["spot", "way", "other"] (spM K (xrOf [(C0, "word")]) 3 f_way_at) :=
  have nd := sc_way_at.nd
  fn_okX (m := m_way_at) (N := nm_way_at) (ps := ["spot", "way", "other"]) 5 rfl rfl rfl T.F_way_at sc_way_at fun cdv A outer s H E hr tk po => (es_cons (es_set false 3 nd (ee_callX (ok_less T) tk (hr.mono (by decide)) T.m_less T.F_less.kp T.b_less rfl (ea_cons (ee_var 2) (ea_cons (ee_var 0) ea_nil)) (lc (lc ln)))) (es_cons (es_if (et_cmp (op_eqD hr.units) rb_eq (ee_ix rfl (ee_callX (ok_dot T) tk (hr.mono (by decide)) T.m_dot T.F_dot.kp T.b_dot rfl (ea_cons (ee_var 3) (ea_cons (ee_var 3) ea_nil)) (lc (lc ln))) ee_int) ee_int) (es_one (es_raise (k := 0) T.X_Misstep rfl tk rfl rfl (hr.mono (by decide)) T.g_Misstep T.z_super (by rw [sizeLine_eq]; decide))) es_nil) (es_cons (es_set false 4 nd (ee_callX (ok_over T) tk (hr.mono (by decide)) T.m_over T.F_over.kp T.b_over rfl (ea_cons (ee_callX (ok_times T) tk (hr.mono (by decide)) T.m_times T.F_times.kp T.b_times rfl (ea_cons (ee_tup (ea_cons ee_int (ea_cons ee_int ea_nil)) (lc (lc ln))) (ea_cons (ee_callX (ok_dot T) tk (hr.mono (by decide)) T.m_dot T.F_dot.kp T.b_dot rfl (ea_cons (ee_var 1) (ea_cons (ee_var 3) ea_nil)) (lc (lc ln))) ea_nil)) (lc (lc ln))) (ea_cons (ee_callX (ok_dot T) tk (hr.mono (by decide)) T.m_dot T.F_dot.kp T.b_dot rfl (ea_cons (ee_var 3) (ea_cons (ee_var 3) ea_nil)) (lc (lc ln))) ea_nil)) (lc (lc ln)))) (es_one (es_ret (ee_callX (ok_less T) tk (hr.mono (by decide)) T.m_less T.F_less.kp T.b_less rfl (ea_cons (ee_tup (ea_cons (ee_callX (ok_times T) tk (hr.mono (by decide)) T.m_times T.F_times.kp T.b_times rfl (ea_cons (ee_var 4) (ea_cons (ee_ix rfl (ee_var 3) ee_int) ea_nil)) (lc (lc ln))) (ea_cons (ee_callX (ok_times T) tk (hr.mono (by decide)) T.m_times T.F_times.kp T.b_times rfl (ea_cons (ee_var 4) (ea_cons (ee_ix rfl (ee_var 3) ee_int) ea_nil)) (lc (lc ln))) ea_nil)) (lc (lc ln))) (ea_cons (ee_var 1) ea_nil)) (lc (lc ln))))))))
theorem ok_arcs (T : Tx P K mg C0 f0 f1 f2 f3 f4 f5 f6 f7 f8 f9 f10 f11 f12 f13 f14 f15 f16 f17 f18 f19 f20 f21 f22 f23 f24 f25 f26 f27 f28 f29 f30 f31 f32 f33 f34 f35 f36 f37 f38 f39 f40 f41 f42 f43 f44 f45 f46 f47 f48 f49 f50 f51 fd0 fd1 fd2 fd3 fd4 fd5 fd6 fd7 fd8 fd9 fd10 fd11 fd12 fd13 fd14 fd15 fd16 fd17 fd18 fd19 fd20 fd21 fd22 fd23 fd24 fd25 fd26 fd27 fd28 fd29 fd30 fd31 fd32 fd33 fd34 fd35 fd36 fd37 fd38 fd39 fd40 fd41 fd42 fd43 fd44 fd45 fd46 fd47 fd48 fd49 fd50 fd51) : FnOk P w K mg base (L2.CX P w) 8 f21 fd21 ["first", "way", "last", "end", "length"] (spM K (xrOf [(C0, "word")]) 5 f_arcs) :=
  have nd := sc_arcs.nd
  fn_okX (m := m_arcs) (N := nm_arcs) (ps := ["first", "way", "last", "end", "length"]) 7 rfl rfl rfl T.F_arcs sc_arcs fun cdv A outer s H E hr tk po => (es_cons (es_set false 5 nd (ee_callX (ok_joint T) tk (hr.mono (by decide)) T.m_joint T.F_joint.kp T.b_joint rfl (ea_cons (ee_var 0) (ea_cons (ee_var 1) (ea_cons (ee_var 2) (ea_cons (ee_var 3) (ea_cons (ee_var 4) ea_nil))))) (lc (lc (lc (lc (lc ln))))))) (es_one (es_ret (ee_tup (ea_cons (ee_tup (ea_cons (ee_var 0) (ea_cons (ee_var 1) (ea_cons (ee_var 5) ea_nil))) (lc (lc (lc ln)))) (ea_cons (ee_tup (ea_cons (ee_var 5) (ea_cons (ee_callX (ok_way_at T) tk (hr.mono (by decide)) T.m_way_at T.F_way_at.kp T.b_way_at rfl (ea_cons (ee_var 0) (ea_cons (ee_var 1) (ea_cons (ee_var 5) ea_nil))) (lc (lc (lc ln)))) (ea_cons (ee_var 2) ea_nil))) (lc (lc (lc ln)))) ea_nil)) (lc (lc ln))))))
theorem ok_goes_on (T : Tx P K mg C0 f0 f1 f2 f3 f4 f5 f6 f7 f8 f9 f10 f11 f12 f13 f14 f15 f16 f17 f18 f19 f20 f21 f22 f23 f24 f25 f26 f27 f28 f29 f30 f31 f32 f33 f34 f35 f36 f37 f38 f39 f40 f41 f42 f43 f44 f45 f46 f47 f48 f49 f50 f51 fd0 fd1 fd2 fd3 fd4 fd5 fd6 fd7 fd8 fd9 fd10 fd11 fd12 fd13 fd14 fd15 fd16 fd17 fd18 fd19 fd20 fd21 fd22 fd23 fd24 fd25 fd26 fd27 fd28 fd29 fd30 fd31 fd32 fd33 fd34 fd35 fd36 fd37 fd38 fd39 fd40 fd41 fd42 fd43 fd44 fd45 fd46 fd47 fd48 fd49 fd50 fd51) : FnOk P w K mg base (L2.CX P w) 9 f22 fd22 ["first", "way", "last", "end", "length"] (spM K (xrOf [(C0, "word")]) 5 f_goes_on) :=
  have nd := sc_goes_on.nd
  fn_okX (m := m_goes_on) (N := nm_goes_on) (ps := ["first", "way", "last", "end", "length"]) 8 rfl rfl rfl T.F_goes_on sc_goes_on fun cdv A outer s H E hr tk po => (es_cons (es_asg false (ee_callX (ok_arcs T) tk (hr.mono (by decide)) T.m_arcs T.F_arcs.kp T.b_arcs rfl (ea_cons (ee_var 0) (ea_cons (ee_var 1) (ea_cons (ee_var 2) (ea_cons (ee_var 3) (ea_cons (ee_var 4) ea_nil))))) (lc (lc (lc (lc (lc ln)))))) (eg_tup rfl rfl (egs_cons (eg_name nd) (egs_cons (eg_name nd) egs_nil)))) (es_one (es_ret (ee_cmp (op_eqD hr.units) rb_eq (ee_callX (ok_way_at T) tk (hr.mono (by decide)) T.m_way_at T.F_way_at.kp T.b_way_at rfl (ea_cons (ee_ix rfl (ee_var 6) ee_int) (ea_cons (ee_ix rfl (ee_var 6) ee_int) (ea_cons (ee_ix rfl (ee_var 6) ee_int) ea_nil))) (lc (lc (lc ln)))) (ee_var 3)))))
theorem ok_circle (T : Tx P K mg C0 f0 f1 f2 f3 f4 f5 f6 f7 f8 f9 f10 f11 f12 f13 f14 f15 f16 f17 f18 f19 f20 f21 f22 f23 f24 f25 f26 f27 f28 f29 f30 f31 f32 f33 f34 f35 f36 f37 f38 f39 f40 f41 f42 f43 f44 f45 f46 f47 f48 f49 f50 f51 fd0 fd1 fd2 fd3 fd4 fd5 fd6 fd7 fd8 fd9 fd10 fd11 fd12 fd13 fd14 fd15 fd16 fd17 fd18 fd19 fd20 fd21 fd22 fd23 fd24 fd25 fd26 fd27 fd28 fd29 fd30 fd31 fd32 fd33 fd34 fd35 fd36 fd37 fd38 fd39 fd40 fd41 fd42 fd43 fd44 fd45 fd46 fd47 fd48 fd49 fd50 fd51) : FnOk P w K mg base (L2.CX P w) 6 f24 fd24 ["one", "two", "three"] (spM K (xrOf [(C0, "word")]) 3 f_circle) :=
  have nd := sc_circle.nd
  fn_okX (m := m_circle) (N := nm_circle) (ps := ["one", "two", "three"]) 5 rfl rfl rfl T.F_circle sc_circle fun cdv A outer s H E hr tk po => (es_cons (es_par false 3 4 rfl nd (ea_cons (ee_callX (ok_less T) tk (hr.mono (by decide)) T.m_less T.F_less.kp T.b_less rfl (ea_cons (ee_var 1) (ea_cons (ee_var 0) ea_nil)) (lc (lc ln))) (ea_cons (ee_callX (ok_less T) tk (hr.mono (by decide)) T.m_less T.F_less.kp T.b_less rfl (ea_cons (ee_var 2) (ea_cons (ee_var 0) ea_nil)) (lc (lc ln))) ea_nil))) (es_cons (es_set false 5 nd (ee_callX (ok_times T) tk (hr.mono (by decide)) T.m_times T.F_times.kp T.b_times rfl (ea_cons (ee_tup (ea_cons ee_int (ea_cons ee_int ea_nil)) (lc (lc ln))) (ea_cons (ee_callX (ok_crossed T) tk (hr.mono (by decide)) T.m_crossed T.F_crossed.kp T.b_crossed rfl (ea_cons (ee_var 3) (ea_cons (ee_var 4) ea_nil)) (lc (lc ln))) ea_nil)) (lc (lc ln)))) (es_cons (es_if (et_cmp (op_eqD hr.units) rb_eq (ee_ix rfl (ee_var 5) ee_int) ee_int) (es_one (es_ret ee_non)) es_nil) (es_cons (es_par false 6 7 rfl nd (ea_cons (ee_callX (ok_dot T) tk (hr.mono (by decide)) T.m_dot T.F_dot.kp T.b_dot rfl (ea_cons (ee_var 3) (ea_cons (ee_var 3) ea_nil)) (lc (lc ln))) (ea_cons (ee_callX (ok_dot T) tk (hr.mono (by decide)) T.m_dot T.F_dot.kp T.b_dot rfl (ea_cons (ee_var 4) (ea_cons (ee_var 4) ea_nil)) (lc (lc ln))) ea_nil))) (es_cons (es_set false 8 nd (ee_callX (ok_over T) tk (hr.mono (by decide)) T.m_over T.F_over.kp T.b_over rfl (ea_cons (ee_callX (ok_minus T) tk (hr.mono (by decide)) T.m_minus T.F_minus.kp T.b_minus rfl (ea_cons (ee_callX (ok_times T) tk (hr.mono (by decide)) T.m_times T.F_times.kp T.b_times rfl (ea_cons (ee_var 6) (ea_cons (ee_ix rfl (ee_var 4) ee_int) ea_nil)) (lc (lc ln))) (ea_cons (ee_callX (ok_times T) tk (hr.mono (by decide)) T.m_times T.F_times.kp T.b_times rfl (ea_cons (ee_var 7) (ea_cons (ee_ix rfl (ee_var 3) ee_int) ea_nil)) (lc (lc ln))) ea_nil)) (lc (lc ln))) (ea_cons (ee_var 5) ea_nil)) (lc (lc ln)))) (es_cons (es_set false 9 nd (ee_callX (ok_over T) tk (hr.mono (by decide)) T.m_over T.F_over.kp T.b_over rfl (ea_cons (ee_callX (ok_minus T) tk (hr.mono (by decide)) T.m_minus T.F_minus.kp T.b_minus rfl (ea_cons (ee_callX (ok_times T) tk (hr.mono (by decide)) T.m_times T.F_times.kp T.b_times rfl (ea_cons (ee_var 7) (ea_cons (ee_ix rfl (ee_var 3) ee_int) ea_nil)) (lc (lc ln))) (ea_cons (ee_callX (ok_times T) tk (hr.mono (by decide)) T.m_times T.F_times.kp T.b_times rfl (ea_cons (ee_var 6) (ea_cons (ee_ix rfl (ee_var 4) ee_int) ea_nil)) (lc (lc ln))) ea_nil)) (lc (lc ln))) (ea_cons (ee_var 5) ea_nil)) (lc (lc ln)))) (es_one (es_ret (ee_tup (ea_cons (ee_callX (ok_put T) tk (hr.mono (by decide)) T.m_put T.F_put.kp T.b_put rfl (ea_cons (ee_var 0) (ea_cons (ee_tup (ea_cons (ee_var 8) (ea_cons (ee_var 9) ea_nil)) (lc (lc ln))) (ea_cons (ee_tup (ea_cons ee_int (ea_cons ee_int ea_nil)) (lc (lc ln))) ea_nil))) (lc (lc (lc ln)))) (ea_cons (ee_callX (ok_plus T) tk (hr.mono (by decide)) T.m_plus T.F_plus.kp T.b_plus rfl (ea_cons (ee_callX (ok_times T) tk (hr.mono (by decide)) T.m_times T.F_times.kp T.b_times rfl (ea_cons (ee_var 8) (ea_cons (ee_var 8) ea_nil)) (lc (lc ln))) (ea_cons (ee_callX (ok_times T) tk (hr.mono (by decide)) T.m_times T.F_times.kp T.b_times rfl (ea_cons (ee_var 9) (ea_cons (ee_var 9) ea_nil)) (lc (lc ln))) ea_nil)) (lc (lc ln))) ea_nil)) (lc (lc ln)))))))))))
theorem ok_joints_circle (T : Tx P K mg C0 f0 f1 f2 f3 f4 f5 f6 f7 f8 f9 f10 f11 f12 f13 f14 f15 f16 f17 f18 f19 f20 f21 f22 f23 f24 f25 f26 f27 f28 f29 f30 f31 f32 f33 f34 f35 f36 f37 f38 f39 f40 f41 f42 f43 f44 f45 f46 f47 f48 f49 f50 f51 fd0 fd1 fd2 fd3 fd4 fd5 fd6 fd7 fd8 fd9 fd10 fd11 fd12 fd13 fd14 fd15 fd16 fd17 fd18 fd19 fd20 fd21 fd22 fd23 fd24 fd25 fd26 fd27 fd28 fd29 fd30 fd31 fd32 fd33 fd34 fd35 fd36 fd37 fd38 fd39 fd40 fd41 fd42 fd43 fd44 fd45 fd46 fd47 fd48 fd49 fd50 fd51) : FnOk P w K mg base (L2.CX P w) 8 f23 fd23 ["first", "way", "last", "end"] (spM K (xrOf [(C0, "word")]) 4 f_joints_circle) :=
  have nd := sc_joints_circle.nd
  fn_okX (m := m_joints_circle) (N := nm_joints_circle) (ps := ["first", "way", "last", "end"]) 7 rfl rfl rfl T.F_joints_circle sc_joints_circle fun cdv A outer s H E hr tk po => (es_cons (es_setO false 4 nd (ef_lst ea_nil ln)) (es_cons (es_for (p := (.n 5)) po rfl (ei_rng2 T.z_range (ea_cons ee_int (ea_cons ee_int ea_nil))) (eg_name nd) (es_cons (es_try_only rfl rfl (k := 0) rfl ⟨rfl, by decide, .inl T.g_Misstep⟩ T.e_Misstep (es_one (es_set false 6 nd (ee_callL (ok_joint T) (hr.mono (by decide)) T.m_joint T.F_joint.kp T.b_joint rfl (ea_cons (ee_var 0) (ea_cons (ee_var 1) (ea_cons (ee_var 2) (ea_cons (ee_var 3) (ea_cons (ee_tup (ea_cons (ee_var 5) (ea_cons ee_int ea_nil)) (lc (lc ln))) ea_nil))))) (lc (lc (lc (lc (lc ln)))))))) (fun W pn xe tk po => (rss_one (rs_set 6 nd (re_call (ok_joint T) tk (hr.mono (by decide)) T.m_joint T.F_joint.kp T.b_joint (ea_cons (ee_var 0) (ea_cons (ee_var 1) (ea_cons (ee_var 2) (ea_cons (ee_var 3) (ea_cons (ee_tup (ea_cons (ee_var 5) (ea_cons ee_int ea_nil)) (lc (lc ln))) ea_nil))))) (lc (lc (lc (lc (lc ln))))))))) (fun a oe pn => (es_one es_cont))) (es_one (es_if (et_cmp (or_notin (Room.u65 hr)) rb_notin (ee_var 6) (ee_var 4)) (es_one (es_app false 4 (ee_var 6) rfl (hm := fun h => pe_bm PySem.F.plainAttrs_list PySem.F.slot_list_append PySem.F.type_list_append mt_append (pv 4) (pa_cons h pa_nil)))) es_nil)))) (es_cons (es_if (et_cmp op_lt (rb_cmp (p := pLt)) (ee_callB call_len rc_len T.z_len PySem.boot_len (ea_cons (ee_var 4) ea_nil)) ee_int) (es_one (es_raise (k := 0) T.X_Misstep rfl tk rfl rfl (hr.mono (by decide)) T.g_Misstep T.z_super (by rw [sizeLine_eq]; decide))) es_nil) (es_one (es_ret (ee_callX (ok_circle T) tk (hr.mono (by decide)) T.m_circle T.F_circle.kp T.b_circle rfl (ea_cons (ee_ix rfl (ee_var 4) ee_int) (ea_cons (ee_ix rfl (ee_var 4) ee_int) (ea_cons (ee_ix rfl (ee_var 4) ee_int) ea_nil))) (lc (lc (lc ln)))))))))
theorem ok_rotated (T : Tx P K mg C0 f0 f1 f2 f3 f4 f5 f6 f7 f8 f9 f10 f11 f12 f13 f14 f15 f16 f17 f18 f19 f20 f21 f22 f23 f24 f25 f26 f27 f28 f29 f30 f31 f32 f33 f34 f35 f36 f37 f38 f39 f40 f41 f42 f43 f44 f45 f46 f47 f48 f49 f50 f51 fd0 fd1 fd2 fd3 fd4 fd5 fd6 fd7 fd8 fd9 fd10 fd11 fd12 fd13 fd14 fd15 fd16 fd17 fd18 fd19 fd20 fd21 fd22 fd23 fd24 fd25 fd26 fd27 fd28 fd29 fd30 fd31 fd32 fd33 fd34 fd35 fd36 fd37 fd38 fd39 fd40 fd41 fd42 fd43 fd44 fd45 fd46 fd47 fd48 fd49 fd50 fd51) : FnOk P w K mg base (L2.CX P w) 4 f26 fd26 ["spot", "table"] (spM K (xrOf [(C0, "word")]) 2 f_rotated) :=
  have nd := sc_rotated.nd
  fn_okX (m := m_rotated) (N := nm_rotated) (ps := ["spot", "table"]) 3 rfl rfl rfl T.F_rotated sc_rotated fun cdv A outer s H E hr tk po => (es_cons (es_asg false (ee_var 1) (eg_tup rfl rfl (egs_cons (eg_name nd) (egs_cons (eg_name nd) egs_nil)))) (es_cons (es_set false 4 nd (ee_callX (ok_minus T) tk (hr.mono (by decide)) T.m_minus T.F_minus.kp T.b_minus rfl (ea_cons (ee_callX (ok_times T) tk (hr.mono (by decide)) T.m_times T.F_times.kp T.b_times rfl (ea_cons (ee_var 2) (ea_cons (ee_ix rfl (ee_var 0) ee_int) ea_nil)) (lc (lc ln))) (ea_cons (ee_callX (ok_times T) tk (hr.mono (by decide)) T.m_times T.F_times.kp T.b_times rfl (ea_cons (ee_var 3) (ea_cons (ee_ix rfl (ee_var 0) ee_int) ea_nil)) (lc (lc ln))) ea_nil)) (lc (lc ln)))) (es_one (es_ret (ee_tup (ea_cons (ee_var 4) (ea_cons (ee_callX (ok_plus T) tk (hr.mono (by decide)) T.m_plus T.F_plus.kp T.b_plus rfl (ea_cons (ee_callX (ok_times T) tk (hr.mono (by decide)) T.m_times T.F_times.kp T.b_times rfl (ea_cons (ee_var 3) (ea_cons (ee_ix rfl (ee_var 0) ee_int) ea_nil)) (lc (lc ln))) (ea_cons (ee_callX (ok_times T) tk (hr.mono (by decide)) T.m_times T.F_times.kp T.b_times rfl (ea_cons (ee_var 2) (ea_cons (ee_ix rfl (ee_var 0) ee_int) ea_nil)) (lc (lc ln))) ea_nil)) (lc (lc ln))) ea_nil)) (lc (lc ln)))))))
theorem ok_moved (T : Tx P K mg C0 f0 f1 f2 f3 f4 f5 f6 f7 f8 f9 f10 f11 f12 f13 f14 f15 f16 f17 f18 f19 f20 f21 f22 f23 f24 f25 f26 f27 f28 f29 f30 f31 f32 f33 f34 f35 f36 f37 f38 f39 f40 f41 f42 f43 f44 f45 f46 f47 f48 f49 f50 f51 fd0 fd1 fd2 fd3 fd4 fd5 fd6 fd7 fd8 fd9 fd10 fd11 fd12 fd13 fd14 fd15 fd16 fd17 fd18 fd19 fd20 fd21 fd22 fd23 fd24 fd25 fd26 fd27 fd28 fd29 fd30 fd31 fd32 fd33 fd34 fd35 fd36 fd37 fd38 fd39 fd40 fd41 fd42 fd43 fd44 fd45 fd46 fd47 fd48 fd49 fd50 fd51) : FnOk P w K mg base (L2.CX P w) 6 f25 fd25 ["arc", "table", "shift"] (spM K (xrOf [(C0, "word")]) 3 f_moved) :=
  have nd := sc_moved.nd
  fn_okX (m := m_moved) (N := nm_moved) (ps := ["arc", "table", "shift"]) 5 rfl rfl rfl T.F_moved sc_moved fun cdv A outer s H E hr tk po => (es_cons (es_if (et_not (et_val (ee_callX (ok_is_way T) tk (hr.mono (by decide)) T.m_is_way T.F_is_way.kp T.b_is_way rfl (ea_cons (ee_var 1) ea_nil) (lc ln)) rfl)) (es_one (es_raise (k := 0) T.X_Misstep rfl tk rfl rfl (hr.mono (by decide)) T.g_Misstep T.z_super (by rw [sizeLine_eq]; decide))) es_nil) (es_cons (es_set false 3 nd (ee_lst (ea_cons (ee_callX (ok_rotated T) tk (hr.mono (by decide)) T.m_rotated T.F_rotated.kp T.b_rotated rfl (ea_cons (ee_ix rfl (ee_var 0) ee_int) (ea_cons (ee_var 1) ea_nil)) (lc (lc ln))) (ea_cons (ee_callX (ok_rotated T) tk (hr.mono (by decide)) T.m_rotated T.F_rotated.kp T.b_rotated rfl (ea_cons (ee_ix rfl (ee_var 0) ee_int) (ea_cons (ee_var 1) ea_nil)) (lc (lc ln))) (ea_cons (ee_callX (ok_rotated T) tk (hr.mono (by decide)) T.m_rotated T.F_rotated.kp T.b_rotated rfl (ea_cons (ee_ix rfl (ee_var 0) ee_int) (ea_cons (ee_var 1) ea_nil)) (lc (lc ln))) ea_nil))) (lc (lc (lc ln))))) (es_one (es_ret (ee_tup (ea_cons (ee_callX (ok_put T) tk (hr.mono (by decide)) T.m_put T.F_put.kp T.b_put rfl (ea_cons (ee_ix rfl (ee_var 3) ee_int) (ea_cons (ee_var 2) (ea_cons (ee_tup (ea_cons ee_int (ea_cons ee_int ea_nil)) (lc (lc ln))) ea_nil))) (lc (lc (lc ln)))) (ea_cons (ee_ix rfl (ee_var 3) ee_int) (ea_cons (ee_callX (ok_put T) tk (hr.mono (by decide)) T.m_put T.F_put.kp T.b_put rfl (ea_cons (ee_ix rfl (ee_var 3) ee_int) (ea_cons (ee_var 2) (ea_cons (ee_tup (ea_cons ee_int (ea_cons ee_int ea_nil)) (lc (lc ln))) ea_nil))) (lc (lc (lc ln)))) ea_nil))) (lc (lc (lc ln))))))))
theorem ok_turned_back (T : Tx P K mg C0 f0 f1 f2 f3 f4 f5 f6 f7 f8 f9 f10 f11 f12 f13 f14 f15 f16 f17 f18 f19 f20 f21 f22 f23 f24 f25 f26 f27 f28 f29 f30 f31 f32 f33 f34 f35 f36 f37 f38 f39 f40 f41 f42 f43 f44 f45 f46 f47 f48 f49 f50 f51 fd0 fd1 fd2 fd3 fd4 fd5 fd6 fd7 fd8 fd9 fd10 fd11 fd12 fd13 fd14 fd15 fd16 fd17 fd18 fd19 fd20 fd21 fd22 fd23 fd24 fd25 fd26 fd27 fd28 fd29 fd30 fd31 fd32 fd33 fd34 fd35 fd36 fd37 fd38 fd39 fd40 fd41 fd42 fd43 fd44 fd45 fd46 fd47 fd48 fd49 fd50 fd51) : FnOk P w K mg base (L2.CX P w) 7 f27 fd27 ["arc"] (spM K (xrOf [(C0, "word")]) 1 f_turned_back) :=
  have nd := sc_turned_back.nd
  fn_okX (m := m_turned_back) (N := nm_turned_back) (ps := ["arc"]) 6 rfl rfl rfl T.F_turned_back sc_turned_back fun cdv A outer s H E hr tk po => (es_cons (es_set false 1 nd (ee_callX (ok_way_at T) tk (hr.mono (by decide)) T.m_way_at T.F_way_at.kp T.b_way_at rfl (ea_cons (ee_ix rfl (ee_var 0) ee_int) (ea_cons (ee_ix rfl (ee_var 0) ee_int) (ea_cons (ee_ix rfl (ee_var 0) ee_int) ea_nil))) (lc (lc (lc ln))))) (es_one (es_ret (ee_tup (ea_cons (ee_ix rfl (ee_var 0) ee_int) (ea_cons (ee_tup (ea_cons (ee_callX (ok_times T) tk (hr.mono (by decide)) T.m_times T.F_times.kp T.b_times rfl (ea_cons (ee_tup (ea_cons (ee_bin op_sub rb_sub ee_int ee_int) (ea_cons ee_int ea_nil)) (lc (lc ln))) (ea_cons (ee_ix rfl (ee_var 1) ee_int) ea_nil)) (lc (lc ln))) (ea_cons (ee_callX (ok_times T) tk (hr.mono (by decide)) T.m_times T.F_times.kp T.b_times rfl (ea_cons (ee_tup (ea_cons (ee_bin op_sub rb_sub ee_int ee_int) (ea_cons ee_int ea_nil)) (lc (lc ln))) (ea_cons (ee_ix rfl (ee_var 1) ee_int) ea_nil)) (lc (lc ln))) ea_nil)) (lc (lc ln))) (ea_cons (ee_ix rfl (ee_var 0) ee_int) ea_nil))) (lc (lc (lc ln)))))))
theorem ok_is_on (T : Tx P K mg C0 f0 f1 f2 f3 f4 f5 f6 f7 f8 f9 f10 f11 f12 f13 f14 f15 f16 f17 f18 f19 f20 f21 f22 f23 f24 f25 f26 f27 f28 f29 f30 f31 f32 f33 f34 f35 f36 f37 f38 f39 f40 f41 f42 f43 f44 f45 f46 f47 f48 f49 f50 f51 fd0 fd1 fd2 fd3 fd4 fd5 fd6 fd7 fd8 fd9 fd10 fd11 fd12 fd13 fd14 fd15 fd16 fd17 fd18 fd19 fd20 fd21 fd22 fd23 fd24 fd25 fd26 fd27 fd28 fd29 fd30 fd31 fd32 fd33 fd34 fd35 fd36 fd37 fd38 fd39 fd40 fd41 fd42 fd43 fd44 fd45 fd46 fd47 fd48 fd49 fd50 fd51) : FnOk P w K mg base (L2.CX P w) 7 f28 fd28 ["arc", "spot"] (spM K (xrOf [(C0, "word")]) 2 f_is_on) :=
  have nd := sc_is_on.nd
  fn_okX (m := m_is_on) (N := nm_is_on) (ps := ["arc", "spot"]) 6 rfl rfl rfl T.F_is_on sc_is_on fun cdv A outer s H E hr tk po => (es_cons (es_set false 2 nd (ee_callX (ok_middle T) tk (hr.mono (by decide)) T.m_middle T.F_middle.kp T.b_middle rfl (ea_cons (ee_ix rfl (ee_var 0) ee_int) (ea_cons (ee_ix rfl (ee_var 0) ee_int) (ea_cons (ee_ix rfl (ee_var 0) ee_int) ea_nil))) (lc (lc (lc ln))))) (es_cons (es_if (et_cmp or_is rb_is (ee_var 2) ee_non) (es_one (es_ret (ee_cmp (op_eqD hr.units) rb_eq (ee_ix rfl (ee_callX (ok_crossed T) tk (hr.mono (by decide)) T.m_crossed T.F_crossed.kp T.b_crossed rfl (ea_cons (ee_callX (ok_less T) tk (hr.mono (by decide)) T.m_less T.F_less.kp T.b_less rfl (ea_cons (ee_ix rfl (ee_var 0) ee_int) (ea_cons (ee_ix rfl (ee_var 0) ee_int) ea_nil)) (lc (lc ln))) (ea_cons (ee_callX (ok_less T) tk (hr.mono (by decide)) T.m_less T.F_less.kp T.b_less rfl (ea_cons (ee_var 1) (ea_cons (ee_ix rfl (ee_var 0) ee_int) ea_nil)) (lc (lc ln))) ea_nil)) (lc (lc ln))) ee_int) ee_int))) es_nil) (es_cons (es_par false 3 4 rfl nd (ea_cons (ee_callX (ok_less T) tk (hr.mono (by decide)) T.m_less T.F_less.kp T.b_less rfl (ea_cons (ee_ix rfl (ee_var 0) ee_int) (ea_cons (ee_var 2) ea_nil)) (lc (lc ln))) (ea_cons (ee_callX (ok_less T) tk (hr.mono (by decide)) T.m_less T.F_less.kp T.b_less rfl (ea_cons (ee_var 1) (ea_cons (ee_var 2) ea_nil)) (lc (lc ln))) ea_nil))) (es_one (es_ret (ee_cmp (op_eqD hr.units) rb_eq (ee_callX (ok_dot T) tk (hr.mono (by decide)) T.m_dot T.F_dot.kp T.b_dot rfl (ea_cons (ee_var 3) (ea_cons (ee_var 3) ea_nil)) (lc (lc ln))) (ee_callX (ok_dot T) tk (hr.mono (by decide)) T.m_dot T.F_dot.kp T.b_dot rfl (ea_cons (ee_var 4) (ea_cons (ee_var 4) ea_nil)) (lc (lc ln)))))))))
theorem ok__law_state (T : Tx P K mg C0 f0 f1 f2 f3 f4 f5 f6 f7 f8 f9 f10 f11 f12 f13 f14 f15 f16 f17 f18 f19 f20 f21 f22 f23 f24 f25 f26 f27 f28 f29 f30 f31 f32 f33 f34 f35 f36 f37 f38 f39 f40 f41 f42 f43 f44 f45 f46 f47 f48 f49 f50 f51 fd0 fd1 fd2 fd3 fd4 fd5 fd6 fd7 fd8 fd9 fd10 fd11 fd12 fd13 fd14 fd15 fd16 fd17 fd18 fd19 fd20 fd21 fd22 fd23 fd24 fd25 fd26 fd27 fd28 fd29 fd30 fd31 fd32 fd33 fd34 fd35 fd36 fd37 fd38 fd39 fd40 fd41 fd42 fd43 fd44 fd45 fd46 fd47 fd48 fd49 fd50 fd51) : FnOk P w K mg base CX0 1 f29 fd29 ["script"] (spState K) := by
  have nd := sc__law_state.nd
  refine T.F__law_state.ok (k := 0) sc__law_state (fun vs H Q E h => ?_) (fun cdv A outer s H vs Q E hr h => ?_)
  · obtain ⟨a, ns, rfl, _⟩ := h
    rfl
  · obtain ⟨a, ns, rfl, hS, hlen, q⟩ := h
    refine ⟨_, pss_cons (ps_setLc (i := 1) (own := [("cell", 2)]) (g := gName 2) (tt := tYes) rfl nd rfl rfl (sw_true rfl rfl rfl (by decide +kernel)) (pi_list (pe_slice sl_list (pv 0) po_none (po_some pe_int))) (blkOk_by (N := nm__law_state) (sc := defScope s__law_state) (by decide +kernel)) (fun _ _ _ _ _ => pg_name (i := 2) nd rfl (Or.inl rfl)) (fun _ _ _ _ _ => pts_nil) (fun _ _ _ _ _ => pe_callB call_abs (by rfl) T.z_abs (by decide +kernel) (pa_cons (pv 2) pa_nil)))
      (pss_cons (ps_if (pt_cmpR op_eq (pe_callB call_len_seq (by rfl) T.z_len PySem.boot_len (pa_cons (pv 1) pa_nil)) pe_int (nomark _)) (pss_one (ps_set (i := 1) nd rfl (.inl rfl) (pe_lst (pa_cons pe_int pa_nil)))) pss_nil)
      (pss_one (ps_ret (pe_lst (pa_cons pe_int (pa_cons (pv 1) pa_nil)))))), ?_⟩
    refine ⟨_, rfl, 63, rfl, a, ns.map V.int, rfl, hS, fun c nc => ?_⟩
    have hcut : cutV (ns.map V.int) none (some 63) = (ns.take 63).map V.int := by
      unfold cutV
      rw [HT.sIx_none, show HT.sIx (ns.map V.int).length (ns.map V.int).length (some 63) = min 63 (ns.map V.int).length from HT.sIx_nat _ _ 63]
      rw [List.drop_zero, Nat.sub_zero, ← List.map_take, List.length_map]
      congr 1
      by_cases h : 63 ≤ ns.length
      · rw [Nat.min_eq_left h]
      · rw [Nat.min_eq_right (by omega), List.take_of_length_le (Nat.le_refl _), List.take_of_length_le (by omega)]
    rw [hcut]
    let xs := ns.take 63
    have hxl : xs.length ≤ 63 := by show (ns.take 63).length ≤ 63; rw [List.length_take]; omega
    have s1 : Same H (upd H c (.lst (xs.map V.int))) := fun b o e => by rw [upd_ne (ne_of_none e nc)]; exact e
    refine ⟨c, rfl, ⟨_, .inl (.inl upd_same)⟩, fun D hD => ?_⟩
    have hDc : D ≠ c := fun e => by rw [e, upd_same] at hD; cases hD
    have hD0 : H D = none := by rwa [upd_ne hDc] at hD
    let ab : Int → Int := fun i => if i < 0 then -i else i
    refine lc_list (K := K) (a := c) (xs := xs.map V.int) (fun i H' => Same H H' ∧ H' c = some (.lst (xs.map V.int)) ∧ H' D = some (.lst (((xs.take i).map ab).map V.int))) ⟨?_, ?_, ?_⟩ (fun i H' _ p => .inl (.inl p.2.1)) (fun i x H' hx p => ?_) (fun H' p => ?_)
    · exact fun b o e => by rw [upd_ne (fun z => by rw [z, hD0] at e; cases e)]; exact s1 b o e
    · rw [upd_ne hDc.symm]; exact upd_same
    · rw [upd_same]; rfl
    · obtain ⟨p1, p2, p3⟩ := p
      rw [List.getElem?_map] at hx
      cases qx : xs[i]? with
      | none => rw [qx] at hx; cases hx
      | some k =>
        rw [qx] at hx
        cases hx
        have hil : i < xs.length := (List.getElem?_eq_some_iff.mp qx).1
        refine ⟨rfl, _, rfl, k, rfl, _, p3, ?_, ?_, ?_, ?_⟩
        · rw [List.length_map, List.length_map, List.length_take, sizeLine_eq]; omega
        · exact fun b o e => by rw [upd_ne (fun z => by rw [z, hD0] at e; cases e)]; exact p1 b o e
        · rw [upd_ne hDc.symm]; exact p2
        · rw [upd_same, List.take_add_one, qx]
          simp [ab]
    · obtain ⟨p1, p2, p3⟩ := p
      rw [List.length_map, List.take_of_length_le (Nat.le_refl _)] at p3
      refine ⟨_, rfl, D, _, rfl, .inl (SqL.of p3), rfl, _, rfl, ite2 (fun e => ?_) (fun e => ?_)⟩
      · have e0 : ((((xs.map ab).map V.int).length : Nat) : Int) = 0 := V.int.inj (of_decide_eq_true e)
        have hst : stCells ns = [0] := by
          unfold stCells
          simp only []
          have h0 : (xs.map ab).length = 0 := by rw [List.length_map] at e0; omega
          exact if_pos h0
        refine ⟨by show 1 ≤ sizeLine; rw [sizeLine_eq]; decide, fun c2 nc2 => ?_⟩
        refine ⟨_, rfl, by show 2 ≤ sizeLine; rw [sizeLine_eq]; decide, fun p np => ?_⟩
        have npc : p ≠ c2 := fun e => by rw [e, upd_same] at np; cases np
        have hc2 : H c2 = none := by
          cases z : H c2 with
          | none => rfl
          | some o => rw [p1 c2 o z] at nc2; cases nc2
        have hp : H p = none := by
          cases z : H p with
          | none => rfl
          | some o => rw [upd_ne npc, p1 p o z] at np; cases np
        refine q _ p c2 (fun b o z => ?_) hp hc2 npc upd_same ?_
        · rw [upd_ne (fun y => by rw [y, hp] at z; cases z), upd_ne (fun y => by rw [y, hc2] at z; cases z)]
          exact p1 b o z
        · rw [upd_ne npc.symm, upd_same, hst]; rfl
      · have e0 : ¬ ((((xs.map ab).map V.int).length : Nat) : Int) = 0 := fun z => e (decide_eq_true (by rw [z]))
        have hst : stCells ns = xs.map ab := by
          unfold stCells
          simp only []
          rw [if_neg (fun z => e0 (by rw [List.length_map]; have : (xs.map ab).length = 0 := z; omega))]
        refine ⟨_, rfl, by show 2 ≤ sizeLine; rw [sizeLine_eq]; decide, fun p np => ?_⟩
        have npD : p ≠ D := fun e => by rw [e, p3] at np; cases np
        have hp : H p = none := by
          cases z : H p with
          | none => rfl
          | some o => rw [p1 p o z] at np; cases np
        refine q _ p D (fun b o z => ?_) hp hD0 npD upd_same ?_
        · rw [upd_ne (fun y => by rw [y, hp] at z; cases z)]
          exact p1 b o z
        · rw [upd_ne npD.symm, p3, hst]
theorem ok0__law_take (T : Tx P K mg C0 f0 f1 f2 f3 f4 f5 f6 f7 f8 f9 f10 f11 f12 f13 f14 f15 f16 f17 f18 f19 f20 f21 f22 f23 f24 f25 f26 f27 f28 f29 f30 f31 f32 f33 f34 f35 f36 f37 f38 f39 f40 f41 f42 f43 f44 f45 f46 f47 f48 f49 f50 f51 fd0 fd1 fd2 fd3 fd4 fd5 fd6 fd7 fd8 fd9 fd10 fd11 fd12 fd13 fd14 fd15 fd16 fd17 fd18 fd19 fd20 fd21 fd22 fd23 fd24 fd25 fd26 fd27 fd28 fd29 fd30 fd31 fd32 fd33 fd34 fd35 fd36 fd37 fd38 fd39 fd40 fd41 fd42 fd43 fd44 fd45 fd46 fd47 fd48 fd49 fd50 fd51) : FnOk P w K mg base CX0 1 f30 fd30 ["state", "most"] (spM K (xrOf [(C0, "word")]) 2 fTake) := by
  refine FnOk.imp ?_ take_imp
  have nd := sc__law_take.nd
  refine T.F__law_take.ok (k := 0) sc__law_take (fun vs H Q E h => ?_) (fun cdv A outer s H vs Q E hr h => ?_)
  · obtain ⟨sa, ca, at', most, cells, rfl, _⟩ := h
    rfl
  · obtain ⟨sa, ca, at', most, cells, rfl, h1, h2, hne, hz, hm, q⟩ := h
    refine ⟨_, (pss_cons (ps_if (pt_cmpR op_lt (pv 1) pe_int (nomark _)) (pss_one (ps_ret pe_int)) pss_nil)
      (pss_cons (ps_set (i := 2) nd rfl (.inl rfl) (pe_ix ix_list (pv 0) pe_int (fun _ _ => rfl)))
      (pss_cons (ps_set (i := 3) nd rfl (.inl rfl) (pe_op op_mod (pe_callTy call_int1 (by rfl) T.z_int (by decide +kernel) (pa_cons (pe_ix ix_list (pv 0) pe_int (fun _ _ => rfl)) pa_nil)) (pe_callB call_len_seq (by rfl) T.z_len PySem.boot_len (pa_cons (pv 2) pa_nil))))
      (pss_cons (ps_set (i := 4) nd rfl (.inl rfl) (pe_ix ix_list (pv 2) (pv 3) (fun _ _ => rfl)))
      (pss_cons (ps_if (pt_cmpR op_ge (pv 4) pe_int (nomark _)) (pss_cons (ps_asg (pe_op op_fdivW (pv 4) (pv 1)) (pg_sub (pv 2) (pv 3) set_list)) (pss_one (ps_ret (pe_op op_mod (pe_callTy call_int1 (by rfl) T.z_int (by decide +kernel) (pa_cons (pv 4) pa_nil)) (pv 1))))) pss_nil)
      (pss_cons (ps_asg (pe_op op_add (pe_ix ix_list (pv 0) pe_int (fun _ _ => rfl)) pe_int) (pg_sub (pv 0) pe_int set_list))
      (pss_cons (ps_set (i := 5) nd rfl (.inl rfl) (pe_op op_mod (pe_callTy call_int1 (by rfl) T.z_int (by decide +kernel) (pa_cons (pe_op op_add (pe_op op_mul (pv 4) pe_int) (pe_op op_mul (pe_ix ix_list (pv 0) pe_int (fun _ _ => rfl)) pe_int)) pa_nil)) pe_int))
      (pss_cons (ps_set (i := 5) nd rfl (.inl rfl) (pe_op op_mod (pe_callTy call_int1 (by rfl) T.z_int (by decide +kernel) (pa_cons (pe_op op_add (pe_op op_mul (pv 5) pe_int) (pe_op op_mul (pe_ix ix_list (pv 0) pe_int (fun _ _ => rfl)) pe_int)) pa_nil)) pe_int))
      (pss_one (ps_ret (pe_op op_mod (pe_callTy call_int1 (by rfl) T.z_int (by decide +kernel) (pa_cons (pe_op op_fdiv (pv 5) pe_int) pa_nil)) (pv 1)))))))))))), ?_⟩
    refine ⟨.int most, rfl, most, 2, rfl, rfl, _, rfl, ite2 (fun e => ?_) (fun e => ?_)⟩
    · have e := of_decide_eq_true e
      have ht : takeC most at' cells = (0, at', cells) := by unfold takeC; rw [if_pos e]
      rw [ht] at q
      exact q H (fun _ _ _ => rfl) h1 h2
    · have e : ¬ most < 2 := fun z => e (decide_eq_true z)
      have hm : most.natAbs.log2 < 9000 := hm.resolve_left e
      have a0 : L2.atI [V.int at', V.ref ca] 0 = some (V.int at') := atI_nat (j := 0) rfl
      have a1 : L2.atI [V.int at', V.ref ca] 1 = some (V.ref ca) := atI_nat (j := 1) rfl
      have hl : (0 : Int) < ((cells.map V.int).length : Nat) := by rw [List.length_map]; omega
      refine ⟨_, rfl, sa, _, 1, _, rfl, rfl, SqL.of h1, a1, ?_⟩
      refine ⟨_, rfl, sa, _, 0, _, rfl, rfl, SqL.of h1, a0, .inl ⟨at', rfl, _, rfl, ca, cells.map V.int, rfl, .inl (SqL.of h2), at', _, rfl, rfl, hl, ?_⟩⟩
      have hi0 : 0 ≤ at' % ((cells.map V.int).length : Nat) := Int.emod_nonneg _ (by omega)
      have hi1 : at' % ((cells.map V.int).length : Nat) < ((cells.map V.int).length : Nat) := Int.emod_lt_of_pos _ hl
      obtain ⟨i, hi⟩ : ∃ i : Nat, at' % ((cells.map V.int).length : Nat) = (i : Int) := ⟨(at' % ((cells.map V.int).length : Nat)).toNat, by omega⟩
      have hic : i < cells.length := by rw [hi, List.length_map] at hi1; omega
      have hi' : (at' % (cells.length : Int)).toNat = i := by rw [List.length_map] at hi; omega
      have ac : L2.atI (cells.map V.int) (at' % ((cells.map V.int).length : Nat)) = some (V.int cells[i]) := by
        rw [hi]
        exact atI_nat (by rw [List.getElem?_map, List.getElem?_eq_getElem hic]; rfl)
      refine ⟨_, rfl, _, rfl, ca, _, _, _, rfl, rfl, SqL.of h2, ac, ?_⟩
      have gd : cells.getD i 0 = cells[i] := by simp [List.getD, List.getElem?_eq_getElem hic]
      refine ⟨_, rfl, _, _, rfl, rfl, _, rfl, ite2 (fun e2 => ?_) (fun e2 => ?_)⟩
      · have e2 := of_decide_eq_true e2
        have ht : takeC most at' cells = (cells[i] % most, at', cells.set i (cells[i] / most)) := by
          unfold takeC
          rw [if_neg e]
          simp only [hi', gd]
          rw [if_pos e2]
        rw [ht] at q
        refine ⟨_, rfl, _, rfl, _, _, rfl, rfl, ⟨by omega, hm⟩, _, rfl, _, rfl, ca, _, _, i, rfl, rfl, h2, ?_, ?_⟩
        · rw [hi]
          unfold ixN
          rw [if_pos (by omega), if_pos (by rw [List.length_map]; omega)]
          rfl
        · refine ⟨_, rfl, .inl ⟨_, rfl, _, rfl, _, _, rfl, rfl, by omega, ?_⟩⟩
          refine q _ (fun a n1 n2 => upd_ne n2) (by rw [upd_ne hne]; exact h1) (by rw [upd_same, List.map_set])
      · have e2 : ¬ 1000000000000000000 ≤ cells[i] := fun z => e2 (decide_eq_true z)
        have ht : takeC most at' cells = ((((cells[i] * 48271 + (at' + 1) * 69621) % 2147483647) * 16807 + (at' + 1) * 7919) % 1000000007 / 7 % most, at' + 1, cells) := by
          unfold takeC
          rw [if_neg e]
          simp only [hi', gd]
          rw [if_neg e2]
        rw [ht] at q
        refine ⟨_, rfl, sa, _, 0, _, rfl, rfl, SqL.of h1, a0, _, _, rfl, rfl, _, rfl, sa, _, 0, 0, rfl, rfl, h1, rfl, ?_⟩
        have h3 : upd H sa (.lst ([V.int at', V.ref ca].set 0 (V.int (at' + 1)))) sa = some (.lst [V.int (at' + 1), V.ref ca]) := upd_same
        have b0 : L2.atI [V.int (at' + 1), V.ref ca] 0 = some (V.int (at' + 1)) := atI_nat (j := 0) rfl
        refine ⟨_, rfl, _, _, rfl, rfl, .inr (by decide), _, rfl, sa, _, 0, _, rfl, rfl, SqL.of h3, b0, _, _, rfl, rfl, .inr (by decide), _, _, rfl, rfl, .inl ⟨_, rfl, _, _, rfl, rfl, by show (0 : Int) < 2147483647; decide, ?_⟩⟩
        refine ⟨_, rfl, _, _, rfl, rfl, .inr (by decide), _, rfl, sa, _, 0, _, rfl, rfl, SqL.of h3, b0, _, _, rfl, rfl, .inr (by decide), _, _, rfl, rfl, .inl ⟨_, rfl, _, _, rfl, rfl, by show (0 : Int) < 1000000007; decide, ?_⟩⟩
        refine ⟨_, rfl, _, _, rfl, rfl, ⟨by decide, by decide⟩, .inl ⟨_, rfl, _, rfl, _, _, rfl, rfl, by omega, ?_⟩⟩
        exact q _ (fun a n1 n2 => upd_ne n1) h3 (by rw [upd_ne hne.symm]; exact h2)
theorem ok__law_take (T : Tx P K mg C0 f0 f1 f2 f3 f4 f5 f6 f7 f8 f9 f10 f11 f12 f13 f14 f15 f16 f17 f18 f19 f20 f21 f22 f23 f24 f25 f26 f27 f28 f29 f30 f31 f32 f33 f34 f35 f36 f37 f38 f39 f40 f41 f42 f43 f44 f45 f46 f47 f48 f49 f50 f51 fd0 fd1 fd2 fd3 fd4 fd5 fd6 fd7 fd8 fd9 fd10 fd11 fd12 fd13 fd14 fd15 fd16 fd17 fd18 fd19 fd20 fd21 fd22 fd23 fd24 fd25 fd26 fd27 fd28 fd29 fd30 fd31 fd32 fd33 fd34 fd35 fd36 fd37 fd38 fd39 fd40 fd41 fd42 fd43 fd44 fd45 fd46 fd47 fd48 fd49 fd50 fd51) : FnOk P w K mg base (L2.CX P w) 1 f30 fd30 ["state", "most"] (spM K (xrOf [(C0, "word")]) 2 fTake) := FnOkToX (ok0__law_take T)
theorem ok__law_part (T : Tx P K mg C0 f0 f1 f2 f3 f4 f5 f6 f7 f8 f9 f10 f11 f12 f13 f14 f15 f16 f17 f18 f19 f20 f21 f22 f23 f24 f25 f26 f27 f28 f29 f30 f31 f32 f33 f34 f35 f36 f37 f38 f39 f40 f41 f42 f43 f44 f45 f46 f47 f48 f49 f50 f51 fd0 fd1 fd2 fd3 fd4 fd5 fd6 fd7 fd8 fd9 fd10 fd11 fd12 fd13 fd14 fd15 fd16 fd17 fd18 fd19 fd20 fd21 fd22 fd23 fd24 fd25 fd26 fd27 fd28 fd29 fd30 fd31 fd32 fd33 fd34 fd35 fd36 fd37 fd38 fd39 fd40 fd41 fd42 fd43 fd44 fd45 fd46 fd47 fd48 fd49 fd50 fd51) : FnOk P w K mg base (L2.CX P w) 1 f31 fd31 ["above", "below"] (spM K (xrOf [(C0, "word")]) 2 f__law_part) :=
  have nd := sc__law_part.nd
  fn_okX (m := m__law_part) (N := nm__law_part) (ps := ["above", "below"]) 0 rfl rfl rfl T.F__law_part sc__law_part fun cdv A outer s H E hr tk po => (es_cons (es_par false 2 3 rfl nd (ea_cons (ee_callB call_abs rc_abs T.z_abs (by decide +kernel) (ea_cons (ee_var 0) ea_nil)) (ea_cons (ee_callB call_abs rc_abs T.z_abs (by decide +kernel) (ea_cons (ee_var 1) ea_nil)) ea_nil))) (es_cons (es_while po (et_cmp (op_neD hr.units) rb_ne (ee_var 3) ee_int) (es_one (es_par false 2 3 rfl nd (ea_cons (ee_var 3) (ea_cons (ee_bin op_mod rb_mod (ee_callTy call_int1 rc_int T.z_int (by decide +kernel) (ea_cons (ee_var 2) ea_nil)) (ee_var 3)) ea_nil))))) (es_cons (es_set false 2 nd (ee_if (et_cmp op_lt (rb_cmp (p := pLt)) (ee_var 1) ee_int) (ee_bin op_sub rb_sub ee_int (ee_var 2)) (ee_var 2))) (es_one (es_ret (ee_tup (ea_cons (ee_bin op_divA rb_div (ee_var 0) (ee_var 2)) (ea_cons (ee_bin op_divA rb_div (ee_var 1) (ee_var 2)) ea_nil)) (lc (lc ln))))))))
theorem ok__law_add (T : Tx P K mg C0 f0 f1 f2 f3 f4 f5 f6 f7 f8 f9 f10 f11 f12 f13 f14 f15 f16 f17 f18 f19 f20 f21 f22 f23 f24 f25 f26 f27 f28 f29 f30 f31 f32 f33 f34 f35 f36 f37 f38 f39 f40 f41 f42 f43 f44 f45 f46 f47 f48 f49 f50 f51 fd0 fd1 fd2 fd3 fd4 fd5 fd6 fd7 fd8 fd9 fd10 fd11 fd12 fd13 fd14 fd15 fd16 fd17 fd18 fd19 fd20 fd21 fd22 fd23 fd24 fd25 fd26 fd27 fd28 fd29 fd30 fd31 fd32 fd33 fd34 fd35 fd36 fd37 fd38 fd39 fd40 fd41 fd42 fd43 fd44 fd45 fd46 fd47 fd48 fd49 fd50 fd51) : FnOk P w K mg base (L2.CX P w) 2 f32 fd32 ["one", "other"] (spM K (xrOf [(C0, "word")]) 2 f__law_add) :=
  have nd := sc__law_add.nd
  fn_okX (m := m__law_add) (N := nm__law_add) (ps := ["one", "other"]) 1 rfl rfl rfl T.F__law_add sc__law_add fun cdv A outer s H E hr tk po => (es_one (es_ret (ee_callX (ok__law_part T) tk (hr.mono (by decide)) T.m__law_part T.F__law_part.kp T.b__law_part rfl (ea_cons (ee_bin or_add rb_add (ee_bin or_mul rb_mul (ee_ix rfl (ee_var 0) ee_int) (ee_ix rfl (ee_var 1) ee_int)) (ee_bin or_mul rb_mul (ee_ix rfl (ee_var 1) ee_int) (ee_ix rfl (ee_var 0) ee_int))) (ea_cons (ee_bin or_mul rb_mul (ee_ix rfl (ee_var 0) ee_int) (ee_ix rfl (ee_var 1) ee_int)) ea_nil)) (lc (lc ln)))))
theorem ok__law_mul (T : Tx P K mg C0 f0 f1 f2 f3 f4 f5 f6 f7 f8 f9 f10 f11 f12 f13 f14 f15 f16 f17 f18 f19 f20 f21 f22 f23 f24 f25 f26 f27 f28 f29 f30 f31 f32 f33 f34 f35 f36 f37 f38 f39 f40 f41 f42 f43 f44 f45 f46 f47 f48 f49 f50 f51 fd0 fd1 fd2 fd3 fd4 fd5 fd6 fd7 fd8 fd9 fd10 fd11 fd12 fd13 fd14 fd15 fd16 fd17 fd18 fd19 fd20 fd21 fd22 fd23 fd24 fd25 fd26 fd27 fd28 fd29 fd30 fd31 fd32 fd33 fd34 fd35 fd36 fd37 fd38 fd39 fd40 fd41 fd42 fd43 fd44 fd45 fd46 fd47 fd48 fd49 fd50 fd51) : FnOk P w K mg base (L2.CX P w) 2 f33 fd33 ["one", "other"] (spM K (xrOf [(C0, "word")]) 2 f__law_mul) :=
  have nd := sc__law_mul.nd
  fn_okX (m := m__law_mul) (N := nm__law_mul) (ps := ["one", "other"]) 1 rfl rfl rfl T.F__law_mul sc__law_mul fun cdv A outer s H E hr tk po => (es_one (es_ret (ee_callX (ok__law_part T) tk (hr.mono (by decide)) T.m__law_part T.F__law_part.kp T.b__law_part rfl (ea_cons (ee_bin or_mul rb_mul (ee_ix rfl (ee_var 0) ee_int) (ee_ix rfl (ee_var 1) ee_int)) (ea_cons (ee_bin or_mul rb_mul (ee_ix rfl (ee_var 0) ee_int) (ee_ix rfl (ee_var 1) ee_int)) ea_nil)) (lc (lc ln)))))
theorem ok__law_neg (T : Tx P K mg C0 f0 f1 f2 f3 f4 f5 f6 f7 f8 f9 f10 f11 f12 f13 f14 f15 f16 f17 f18 f19 f20 f21 f22 f23 f24 f25 f26 f27 f28 f29 f30 f31 f32 f33 f34 f35 f36 f37 f38 f39 f40 f41 f42 f43 f44 f45 f46 f47 f48 f49 f50 f51 fd0 fd1 fd2 fd3 fd4 fd5 fd6 fd7 fd8 fd9 fd10 fd11 fd12 fd13 fd14 fd15 fd16 fd17 fd18 fd19 fd20 fd21 fd22 fd23 fd24 fd25 fd26 fd27 fd28 fd29 fd30 fd31 fd32 fd33 fd34 fd35 fd36 fd37 fd38 fd39 fd40 fd41 fd42 fd43 fd44 fd45 fd46 fd47 fd48 fd49 fd50 fd51) : FnOk P w K mg base (L2.CX P w) 1 f34 fd34 ["one"] (spM K (xrOf [(C0, "word")]) 1 f__law_neg) :=
  have nd := sc__law_neg.nd
  fn_okX (m := m__law_neg) (N := nm__law_neg) (ps := ["one"]) 0 rfl rfl rfl T.F__law_neg sc__law_neg fun cdv A outer s H E hr tk po => (es_one (es_ret (ee_tup (ea_cons (ee_bin op_sub rb_sub ee_int (ee_ix rfl (ee_var 0) ee_int)) (ea_cons (ee_ix rfl (ee_var 0) ee_int) ea_nil)) (lc (lc ln)))))
theorem ok__law_over (T : Tx P K mg C0 f0 f1 f2 f3 f4 f5 f6 f7 f8 f9 f10 f11 f12 f13 f14 f15 f16 f17 f18 f19 f20 f21 f22 f23 f24 f25 f26 f27 f28 f29 f30 f31 f32 f33 f34 f35 f36 f37 f38 f39 f40 f41 f42 f43 f44 f45 f46 f47 f48 f49 f50 f51 fd0 fd1 fd2 fd3 fd4 fd5 fd6 fd7 fd8 fd9 fd10 fd11 fd12 fd13 fd14 fd15 fd16 fd17 fd18 fd19 fd20 fd21 fd22 fd23 fd24 fd25 fd26 fd27 fd28 fd29 fd30 fd31 fd32 fd33 fd34 fd35 fd36 fd37 fd38 fd39 fd40 fd41 fd42 fd43 fd44 fd45 fd46 fd47 fd48 fd49 fd50 fd51) : FnOk P w K mg base (L2.CX P w) 2 f35 fd35 ["one", "other"] (spM K (xrOf [(C0, "word")]) 2 f__law_over) :=
  have nd := sc__law_over.nd
  fn_okX (m := m__law_over) (N := nm__law_over) (ps := ["one", "other"]) 1 rfl rfl rfl T.F__law_over sc__law_over fun cdv A outer s H E hr tk po => (es_one (es_ret (ee_callX (ok__law_part T) tk (hr.mono (by decide)) T.m__law_part T.F__law_part.kp T.b__law_part rfl (ea_cons (ee_bin or_mul rb_mul (ee_ix rfl (ee_var 0) ee_int) (ee_ix rfl (ee_var 1) ee_int)) (ea_cons (ee_bin or_mul rb_mul (ee_ix rfl (ee_var 0) ee_int) (ee_ix rfl (ee_var 1) ee_int)) ea_nil)) (lc (lc ln)))))
theorem ok__law_fraction (T : Tx P K mg C0 f0 f1 f2 f3 f4 f5 f6 f7 f8 f9 f10 f11 f12 f13 f14 f15 f16 f17 f18 f19 f20 f21 f22 f23 f24 f25 f26 f27 f28 f29 f30 f31 f32 f33 f34 f35 f36 f37 f38 f39 f40 f41 f42 f43 f44 f45 f46 f47 f48 f49 f50 f51 fd0 fd1 fd2 fd3 fd4 fd5 fd6 fd7 fd8 fd9 fd10 fd11 fd12 fd13 fd14 fd15 fd16 fd17 fd18 fd19 fd20 fd21 fd22 fd23 fd24 fd25 fd26 fd27 fd28 fd29 fd30 fd31 fd32 fd33 fd34 fd35 fd36 fd37 fd38 fd39 fd40 fd41 fd42 fd43 fd44 fd45 fd46 fd47 fd48 fd49 fd50 fd51) : FnOk P w K mg base (L2.CX P w) 2 f36 fd36 ["state", "most"] (spM K (xrOf [(C0, "word")]) 2 f__law_fraction) :=
  have nd := sc__law_fraction.nd
  fn_okX (m := m__law_fraction) (N := nm__law_fraction) (ps := ["state", "most"]) 1 rfl rfl rfl T.F__law_fraction sc__law_fraction fun cdv A outer s H E hr tk po => (es_one (es_ret (ee_callX (ok__law_part T) tk (hr.mono (by decide)) T.m__law_part T.F__law_part.kp T.b__law_part rfl (ea_cons (ee_bin op_sub rb_sub (ee_callX (ok__law_take T) tk (hr.mono (by decide)) T.m__law_take T.F__law_take.kp T.b__law_take rfl (ea_cons (ee_var 0) (ea_cons (ee_bin or_add rb_add (ee_bin or_mul rb_mul ee_int (ee_var 1)) ee_int) ea_nil)) (lc (lc ln))) (ee_var 1)) (ea_cons (ee_bin or_add rb_add ee_int (ee_callX (ok__law_take T) tk (hr.mono (by decide)) T.m__law_take T.F__law_take.kp T.b__law_take rfl (ea_cons (ee_var 0) (ea_cons ee_int ea_nil)) (lc (lc ln)))) ea_nil)) (lc (lc ln)))))
theorem ok__law_minus (T : Tx P K mg C0 f0 f1 f2 f3 f4 f5 f6 f7 f8 f9 f10 f11 f12 f13 f14 f15 f16 f17 f18 f19 f20 f21 f22 f23 f24 f25 f26 f27 f28 f29 f30 f31 f32 f33 f34 f35 f36 f37 f38 f39 f40 f41 f42 f43 f44 f45 f46 f47 f48 f49 f50 f51 fd0 fd1 fd2 fd3 fd4 fd5 fd6 fd7 fd8 fd9 fd10 fd11 fd12 fd13 fd14 fd15 fd16 fd17 fd18 fd19 fd20 fd21 fd22 fd23 fd24 fd25 fd26 fd27 fd28 fd29 fd30 fd31 fd32 fd33 fd34 fd35 fd36 fd37 fd38 fd39 fd40 fd41 fd42 fd43 fd44 fd45 fd46 fd47 fd48 fd49 fd50 fd51) : FnOk P w K mg base (L2.CX P w) 3 f37 fd37 ["one", "other"] (spM K (xrOf [(C0, "word")]) 2 f__law_minus) :=
  have nd := sc__law_minus.nd
  fn_okX (m := m__law_minus) (N := nm__law_minus) (ps := ["one", "other"]) 2 rfl rfl rfl T.F__law_minus sc__law_minus fun cdv A outer s H E hr tk po => (es_one (es_ret (ee_tup (ea_cons (ee_callX (ok__law_add T) tk (hr.mono (by decide)) T.m__law_add T.F__law_add.kp T.b__law_add rfl (ea_cons (ee_ix rfl (ee_var 0) ee_int) (ea_cons (ee_callX (ok__law_neg T) tk (hr.mono (by decide)) T.m__law_neg T.F__law_neg.kp T.b__law_neg rfl (ea_cons (ee_ix rfl (ee_var 1) ee_int) ea_nil) (lc ln)) ea_nil)) (lc (lc ln))) (ea_cons (ee_callX (ok__law_add T) tk (hr.mono (by decide)) T.m__law_add T.F__law_add.kp T.b__law_add rfl (ea_cons (ee_ix rfl (ee_var 0) ee_int) (ea_cons (ee_callX (ok__law_neg T) tk (hr.mono (by decide)) T.m__law_neg T.F__law_neg.kp T.b__law_neg rfl (ea_cons (ee_ix rfl (ee_var 1) ee_int) ea_nil) (lc ln)) ea_nil)) (lc (lc ln))) ea_nil)) (lc (lc ln)))))
theorem ok__law_dot (T : Tx P K mg C0 f0 f1 f2 f3 f4 f5 f6 f7 f8 f9 f10 f11 f12 f13 f14 f15 f16 f17 f18 f19 f20 f21 f22 f23 f24 f25 f26 f27 f28 f29 f30 f31 f32 f33 f34 f35 f36 f37 f38 f39 f40 f41 f42 f43 f44 f45 f46 f47 f48 f49 f50 f51 fd0 fd1 fd2 fd3 fd4 fd5 fd6 fd7 fd8 fd9 fd10 fd11 fd12 fd13 fd14 fd15 fd16 fd17 fd18 fd19 fd20 fd21 fd22 fd23 fd24 fd25 fd26 fd27 fd28 fd29 fd30 fd31 fd32 fd33 fd34 fd35 fd36 fd37 fd38 fd39 fd40 fd41 fd42 fd43 fd44 fd45 fd46 fd47 fd48 fd49 fd50 fd51) : FnOk P w K mg base (L2.CX P w) 3 f38 fd38 ["one", "other"] (spM K (xrOf [(C0, "word")]) 2 f__law_dot) :=
  have nd := sc__law_dot.nd
  fn_okX (m := m__law_dot) (N := nm__law_dot) (ps := ["one", "other"]) 2 rfl rfl rfl T.F__law_dot sc__law_dot fun cdv A outer s H E hr tk po => (es_one (es_ret (ee_callX (ok__law_add T) tk (hr.mono (by decide)) T.m__law_add T.F__law_add.kp T.b__law_add rfl (ea_cons (ee_callX (ok__law_mul T) tk (hr.mono (by decide)) T.m__law_mul T.F__law_mul.kp T.b__law_mul rfl (ea_cons (ee_ix rfl (ee_var 0) ee_int) (ea_cons (ee_ix rfl (ee_var 1) ee_int) ea_nil)) (lc (lc ln))) (ea_cons (ee_callX (ok__law_mul T) tk (hr.mono (by decide)) T.m__law_mul T.F__law_mul.kp T.b__law_mul rfl (ea_cons (ee_ix rfl (ee_var 0) ee_int) (ea_cons (ee_ix rfl (ee_var 1) ee_int) ea_nil)) (lc (lc ln))) ea_nil)) (lc (lc ln)))))
theorem ok__law_cross (T : Tx P K mg C0 f0 f1 f2 f3 f4 f5 f6 f7 f8 f9 f10 f11 f12 f13 f14 f15 f16 f17 f18 f19 f20 f21 f22 f23 f24 f25 f26 f27 f28 f29 f30 f31 f32 f33 f34 f35 f36 f37 f38 f39 f40 f41 f42 f43 f44 f45 f46 f47 f48 f49 f50 f51 fd0 fd1 fd2 fd3 fd4 fd5 fd6 fd7 fd8 fd9 fd10 fd11 fd12 fd13 fd14 fd15 fd16 fd17 fd18 fd19 fd20 fd21 fd22 fd23 fd24 fd25 fd26 fd27 fd28 fd29 fd30 fd31 fd32 fd33 fd34 fd35 fd36 fd37 fd38 fd39 fd40 fd41 fd42 fd43 fd44 fd45 fd46 fd47 fd48 fd49 fd50 fd51) : FnOk P w K mg base (L2.CX P w) 3 f39 fd39 ["one", "other"] (spM K (xrOf [(C0, "word")]) 2 f__law_cross) :=
  have nd := sc__law_cross.nd
  fn_okX (m := m__law_cross) (N := nm__law_cross) (ps := ["one", "other"]) 2 rfl rfl rfl T.F__law_cross sc__law_cross fun cdv A outer s H E hr tk po => (es_one (es_ret (ee_callX (ok__law_add T) tk (hr.mono (by decide)) T.m__law_add T.F__law_add.kp T.b__law_add rfl (ea_cons (ee_callX (ok__law_mul T) tk (hr.mono (by decide)) T.m__law_mul T.F__law_mul.kp T.b__law_mul rfl (ea_cons (ee_ix rfl (ee_var 0) ee_int) (ea_cons (ee_ix rfl (ee_var 1) ee_int) ea_nil)) (lc (lc ln))) (ea_cons (ee_callX (ok__law_neg T) tk (hr.mono (by decide)) T.m__law_neg T.F__law_neg.kp T.b__law_neg rfl (ea_cons (ee_callX (ok__law_mul T) tk (hr.mono (by decide)) T.m__law_mul T.F__law_mul.kp T.b__law_mul rfl (ea_cons (ee_ix rfl (ee_var 0) ee_int) (ea_cons (ee_ix rfl (ee_var 1) ee_int) ea_nil)) (lc (lc ln))) ea_nil) (lc ln)) ea_nil)) (lc (lc ln)))))
theorem ok__law_put (T : Tx P K mg C0 f0 f1 f2 f3 f4 f5 f6 f7 f8 f9 f10 f11 f12 f13 f14 f15 f16 f17 f18 f19 f20 f21 f22 f23 f24 f25 f26 f27 f28 f29 f30 f31 f32 f33 f34 f35 f36 f37 f38 f39 f40 f41 f42 f43 f44 f45 f46 f47 f48 f49 f50 f51 fd0 fd1 fd2 fd3 fd4 fd5 fd6 fd7 fd8 fd9 fd10 fd11 fd12 fd13 fd14 fd15 fd16 fd17 fd18 fd19 fd20 fd21 fd22 fd23 fd24 fd25 fd26 fd27 fd28 fd29 fd30 fd31 fd32 fd33 fd34 fd35 fd36 fd37 fd38 fd39 fd40 fd41 fd42 fd43 fd44 fd45 fd46 fd47 fd48 fd49 fd50 fd51) : FnOk P w K mg base (L2.CX P w) 3 f40 fd40 ["one", "other", "factor"] (spM K (xrOf [(C0, "word")]) 3 f__law_put) :=
  have nd := sc__law_put.nd
  fn_okX (m := m__law_put) (N := nm__law_put) (ps := ["one", "other", "factor"]) 2 rfl rfl rfl T.F__law_put sc__law_put fun cdv A outer s H E hr tk po => (es_one (es_ret (ee_tup (ea_cons (ee_callX (ok__law_add T) tk (hr.mono (by decide)) T.m__law_add T.F__law_add.kp T.b__law_add rfl (ea_cons (ee_ix rfl (ee_var 0) ee_int) (ea_cons (ee_callX (ok__law_mul T) tk (hr.mono (by decide)) T.m__law_mul T.F__law_mul.kp T.b__law_mul rfl (ea_cons (ee_var 2) (ea_cons (ee_ix rfl (ee_var 1) ee_int) ea_nil)) (lc (lc ln))) ea_nil)) (lc (lc ln))) (ea_cons (ee_callX (ok__law_add T) tk (hr.mono (by decide)) T.m__law_add T.F__law_add.kp T.b__law_add rfl (ea_cons (ee_ix rfl (ee_var 0) ee_int) (ea_cons (ee_callX (ok__law_mul T) tk (hr.mono (by decide)) T.m__law_mul T.F__law_mul.kp T.b__law_mul rfl (ea_cons (ee_var 2) (ea_cons (ee_ix rfl (ee_var 1) ee_int) ea_nil)) (lc (lc ln))) ea_nil)) (lc (lc ln))) ea_nil)) (lc (lc ln)))))
theorem ok__law_way (T : Tx P K mg C0 f0 f1 f2 f3 f4 f5 f6 f7 f8 f9 f10 f11 f12 f13 f14 f15 f16 f17 f18 f19 f20 f21 f22 f23 f24 f25 f26 f27 f28 f29 f30 f31 f32 f33 f34 f35 f36 f37 f38 f39 f40 f41 f42 f43 f44 f45 f46 f47 f48 f49 f50 f51 fd0 fd1 fd2 fd3 fd4 fd5 fd6 fd7 fd8 fd9 fd10 fd11 fd12 fd13 fd14 fd15 fd16 fd17 fd18 fd19 fd20 fd21 fd22 fd23 fd24 fd25 fd26 fd27 fd28 fd29 fd30 fd31 fd32 fd33 fd34 fd35 fd36 fd37 fd38 fd39 fd40 fd41 fd42 fd43 fd44 fd45 fd46 fd47 fd48 fd49 fd50 fd51) : FnOk P w K mg base (L2.CX P w) 3 f41 fd41 ["state"] (spM K (xrOf [(C0, "word")]) 1 f__law_way) :=
  have nd := sc__law_way.nd
  fn_okX (m := m__law_way) (N := nm__law_way) (ps := ["state"]) 2 rfl rfl rfl T.F__law_way sc__law_way fun cdv A outer s H E hr tk po => (es_cons (es_set false 1 nd (ee_callX (ok__law_fraction T) tk (hr.mono (by decide)) T.m__law_fraction T.F__law_fraction.kp T.b__law_fraction rfl (ea_cons (ee_var 0) (ea_cons ee_int ea_nil)) (lc (lc ln)))) (es_cons (es_set false 2 nd (ee_callX (ok__law_mul T) tk (hr.mono (by decide)) T.m__law_mul T.F__law_mul.kp T.b__law_mul rfl (ea_cons (ee_var 1) (ea_cons (ee_var 1) ea_nil)) (lc (lc ln)))) (es_cons (es_set false 3 nd (ee_callX (ok__law_add T) tk (hr.mono (by decide)) T.m__law_add T.F__law_add.kp T.b__law_add rfl (ea_cons (ee_tup (ea_cons ee_int (ea_cons ee_int ea_nil)) (lc (lc ln))) (ea_cons (ee_var 2) ea_nil)) (lc (lc ln)))) (es_cons (es_set false 4 nd (ee_tup (ea_cons (ee_callX (ok__law_over T) tk (hr.mono (by decide)) T.m__law_over T.F__law_over.kp T.b__law_over rfl (ea_cons (ee_callX (ok__law_add T) tk (hr.mono (by decide)) T.m__law_add T.F__law_add.kp T.b__law_add rfl (ea_cons (ee_tup (ea_cons ee_int (ea_cons ee_int ea_nil)) (lc (lc ln))) (ea_cons (ee_callX (ok__law_neg T) tk (hr.mono (by decide)) T.m__law_neg T.F__law_neg.kp T.b__law_neg rfl (ea_cons (ee_var 2) ea_nil) (lc ln)) ea_nil)) (lc (lc ln))) (ea_cons (ee_var 3) ea_nil)) (lc (lc ln))) (ea_cons (ee_callX (ok__law_over T) tk (hr.mono (by decide)) T.m__law_over T.F__law_over.kp T.b__law_over rfl (ea_cons (ee_callX (ok__law_mul T) tk (hr.mono (by decide)) T.m__law_mul T.F__law_mul.kp T.b__law_mul rfl (ea_cons (ee_tup (ea_cons ee_int (ea_cons ee_int ea_nil)) (lc (lc ln))) (ea_cons (ee_var 1) ea_nil)) (lc (lc ln))) (ea_cons (ee_var 3) ea_nil)) (lc (lc ln))) ea_nil)) (lc (lc ln)))) (es_one (es_ret (ee_tup (ea_cons (ee_var 1) (ea_cons (ee_if (et_cmp (op_eqD hr.units) rb_eq (ee_callX (ok__law_take T) tk (hr.mono (by decide)) T.m__law_take T.F__law_take.kp T.b__law_take rfl (ea_cons (ee_var 0) (ea_cons ee_int ea_nil)) (lc (lc ln))) ee_int) (ee_var 4) (ee_tup (ea_cons (ee_callX (ok__law_neg T) tk (hr.mono (by decide)) T.m__law_neg T.F__law_neg.kp T.b__law_neg rfl (ea_cons (ee_ix rfl (ee_var 4) ee_int) ea_nil) (lc ln)) (ea_cons (ee_callX (ok__law_neg T) tk (hr.mono (by decide)) T.m__law_neg T.F__law_neg.kp T.b__law_neg rfl (ea_cons (ee_ix rfl (ee_var 4) ee_int) ea_nil) (lc ln)) ea_nil)) (lc (lc ln)))) ea_nil)) (lc (lc ln)))))))))
theorem ok__law_spot (T : Tx P K mg C0 f0 f1 f2 f3 f4 f5 f6 f7 f8 f9 f10 f11 f12 f13 f14 f15 f16 f17 f18 f19 f20 f21 f22 f23 f24 f25 f26 f27 f28 f29 f30 f31 f32 f33 f34 f35 f36 f37 f38 f39 f40 f41 f42 f43 f44 f45 f46 f47 f48 f49 f50 f51 fd0 fd1 fd2 fd3 fd4 fd5 fd6 fd7 fd8 fd9 fd10 fd11 fd12 fd13 fd14 fd15 fd16 fd17 fd18 fd19 fd20 fd21 fd22 fd23 fd24 fd25 fd26 fd27 fd28 fd29 fd30 fd31 fd32 fd33 fd34 fd35 fd36 fd37 fd38 fd39 fd40 fd41 fd42 fd43 fd44 fd45 fd46 fd47 fd48 fd49 fd50 fd51) : FnOk P w K mg base (L2.CX P w) 3 f42 fd42 ["state"] (spM K (xrOf [(C0, "word")]) 1 f__law_spot) :=
  have nd := sc__law_spot.nd
  fn_okX (m := m__law_spot) (N := nm__law_spot) (ps := ["state"]) 2 rfl rfl rfl T.F__law_spot sc__law_spot fun cdv A outer s H E hr tk po => (es_one (es_ret (ee_tup (ea_cons (ee_callX (ok__law_fraction T) tk (hr.mono (by decide)) T.m__law_fraction T.F__law_fraction.kp T.b__law_fraction rfl (ea_cons (ee_var 0) (ea_cons ee_int ea_nil)) (lc (lc ln))) (ea_cons (ee_callX (ok__law_fraction T) tk (hr.mono (by decide)) T.m__law_fraction T.F__law_fraction.kp T.b__law_fraction rfl (ea_cons (ee_var 0) (ea_cons ee_int ea_nil)) (lc (lc ln))) ea_nil)) (lc (lc ln)))))
theorem ok__law_round (T : Tx P K mg C0 f0 f1 f2 f3 f4 f5 f6 f7 f8 f9 f10 f11 f12 f13 f14 f15 f16 f17 f18 f19 f20 f21 f22 f23 f24 f25 f26 f27 f28 f29 f30 f31 f32 f33 f34 f35 f36 f37 f38 f39 f40 f41 f42 f43 f44 f45 f46 f47 f48 f49 f50 f51 fd0 fd1 fd2 fd3 fd4 fd5 fd6 fd7 fd8 fd9 fd10 fd11 fd12 fd13 fd14 fd15 fd16 fd17 fd18 fd19 fd20 fd21 fd22 fd23 fd24 fd25 fd26 fd27 fd28 fd29 fd30 fd31 fd32 fd33 fd34 fd35 fd36 fd37 fd38 fd39 fd40 fd41 fd42 fd43 fd44 fd45 fd46 fd47 fd48 fd49 fd50 fd51) : FnOk P w K mg base (L2.CX P w) 9 f48 fd48 ["first", "way", "last", "end", "length"] (spM K (xrOf [(C0, "word")]) 5 f__law_round) :=
  have nd := sc__law_round.nd
  fn_okX (m := m__law_round) (N := nm__law_round) (ps := ["first", "way", "last", "end", "length"]) 8 rfl rfl rfl T.F__law_round sc__law_round fun cdv A outer s H E hr tk po => (es_one (es_ret (ee_callX (ok_joints_circle T) tk (hr.mono (by decide)) T.m_joints_circle T.F_joints_circle.kp T.b_joints_circle rfl (ea_cons (ee_var 0) (ea_cons (ee_var 1) (ea_cons (ee_var 2) (ea_cons (ee_var 3) ea_nil)))) (lc (lc (lc (lc ln)))))))
theorem ok__law_word (T : Tx P K mg C0 f0 f1 f2 f3 f4 f5 f6 f7 f8 f9 f10 f11 f12 f13 f14 f15 f16 f17 f18 f19 f20 f21 f22 f23 f24 f25 f26 f27 f28 f29 f30 f31 f32 f33 f34 f35 f36 f37 f38 f39 f40 f41 f42 f43 f44 f45 f46 f47 f48 f49 f50 f51 fd0 fd1 fd2 fd3 fd4 fd5 fd6 fd7 fd8 fd9 fd10 fd11 fd12 fd13 fd14 fd15 fd16 fd17 fd18 fd19 fd20 fd21 fd22 fd23 fd24 fd25 fd26 fd27 fd28 fd29 fd30 fd31 fd32 fd33 fd34 fd35 fd36 fd37 fd38 fd39 fd40 fd41 fd42 fd43 fd44 fd45 fd46 fd47 fd48 fd49 fd50 fd51) : FnOk P w K mg base (L2.CX P w) 10 f43 fd43 ["call", "given"] (spM K (xrOf [(C0, "word")]) 2 f__law_word) :=
  have nd := sc__law_word.nd
  fn_okX (m := m__law_word) (N := nm__law_word) (ps := ["call", "given"]) 9 rfl rfl rfl T.F__law_word sc__law_word fun cdv A outer s H E hr tk po => (es_one (es_try_as (i := 3) rfl rfl (k := 0) rfl nd ⟨rfl, by decide, .inl T.g_Misstep⟩ T.e_Misstep (es_cons (es_set false 2 nd (ee_if (et_cmp (op_eqD hr.units) rb_eq (ee_callB call_len rc_len T.z_len PySem.boot_len (ea_cons (ee_var 1) ea_nil)) ee_int) (ee_callVL (i := 0) rfl (cal_cons ⟨_, _, _, _, ok_moved T, hr.mono (by decide), T.n_moved, T.F_moved.kp, T.b_moved⟩ (cal_cons ⟨_, _, _, _, ok_bend T, hr.mono (by decide), T.n_bend, T.F_bend.kp, T.b_bend⟩ (cal_cons ⟨_, _, _, _, ok_way_at T, hr.mono (by decide), T.n_way_at, T.F_way_at.kp, T.b_way_at⟩ cal_nil))) (ea_cons (ee_ix rfl (ee_var 1) ee_int) (ea_cons (ee_ix rfl (ee_var 1) ee_int) (ea_cons (ee_ix rfl (ee_var 1) ee_int) ea_nil))) (lc (lc (lc ln)))) (ee_callVL (i := 0) rfl (cal_cons ⟨_, _, _, _, ok_joint T, hr.mono (by decide), T.n_joint, T.F_joint.kp, T.b_joint⟩ (cal_cons ⟨_, _, _, _, ok_goes_on T, hr.mono (by decide), T.n_goes_on, T.F_goes_on.kp, T.b_goes_on⟩ (cal_cons ⟨_, _, _, _, ok__law_round T, hr.mono (by decide), T.n__law_round, T.F__law_round.kp, T.b__law_round⟩ (cal_cons ⟨_, _, _, _, ok_second_length T, hr.mono (by decide), T.n_second_length, T.F_second_length.kp, T.b_second_length⟩ cal_nil)))) (ea_cons (ee_ix rfl (ee_var 1) ee_int) (ea_cons (ee_ix rfl (ee_var 1) ee_int) (ea_cons (ee_ix rfl (ee_var 1) ee_int) (ea_cons (ee_ix rfl (ee_var 1) ee_int) (ea_cons (ee_ix rfl (ee_var 1) ee_int) ea_nil))))) (lc (lc (lc (lc (lc ln)))))))) (es_one (es_ret ee_str))) (fun W pn xe tk po => (rss_one (rs_set 2 nd (re_if (et_cmp (op_eqD hr.units) rb_eq (ee_callB call_len rc_len T.z_len PySem.boot_len (ea_cons (ee_var 1) ea_nil)) ee_int) (re_callV (i := 0) tk (cal_cons ⟨_, _, _, _, ok_moved T, hr.mono (by decide), T.n_moved, T.F_moved.kp, T.b_moved⟩ (cal_cons ⟨_, _, _, _, ok_bend T, hr.mono (by decide), T.n_bend, T.F_bend.kp, T.b_bend⟩ (cal_cons ⟨_, _, _, _, ok_way_at T, hr.mono (by decide), T.n_way_at, T.F_way_at.kp, T.b_way_at⟩ cal_nil))) (ea_cons (ee_ix rfl (ee_var 1) ee_int) (ea_cons (ee_ix rfl (ee_var 1) ee_int) (ea_cons (ee_ix rfl (ee_var 1) ee_int) ea_nil))) (lc (lc (lc ln)))) (re_callV (i := 0) tk (cal_cons ⟨_, _, _, _, ok_joint T, hr.mono (by decide), T.n_joint, T.F_joint.kp, T.b_joint⟩ (cal_cons ⟨_, _, _, _, ok_goes_on T, hr.mono (by decide), T.n_goes_on, T.F_goes_on.kp, T.b_goes_on⟩ (cal_cons ⟨_, _, _, _, ok__law_round T, hr.mono (by decide), T.n__law_round, T.F__law_round.kp, T.b__law_round⟩ (cal_cons ⟨_, _, _, _, ok_second_length T, hr.mono (by decide), T.n_second_length, T.F_second_length.kp, T.b_second_length⟩ cal_nil)))) (ea_cons (ee_ix rfl (ee_var 1) ee_int) (ea_cons (ee_ix rfl (ee_var 1) ee_int) (ea_cons (ee_ix rfl (ee_var 1) ee_int) (ea_cons (ee_ix rfl (ee_var 1) ee_int) (ea_cons (ee_ix rfl (ee_var 1) ee_int) ea_nil))))) (lc (lc (lc (lc (lc ln)))))))))) (su_word T.x_Misstep T.X_Misstep.fno rfl) rfl rfl))
theorem ok__law_pairs (T : Tx P K mg C0 f0 f1 f2 f3 f4 f5 f6 f7 f8 f9 f10 f11 f12 f13 f14 f15 f16 f17 f18 f19 f20 f21 f22 f23 f24 f25 f26 f27 f28 f29 f30 f31 f32 f33 f34 f35 f36 f37 f38 f39 f40 f41 f42 f43 f44 f45 f46 f47 f48 f49 f50 f51 fd0 fd1 fd2 fd3 fd4 fd5 fd6 fd7 fd8 fd9 fd10 fd11 fd12 fd13 fd14 fd15 fd16 fd17 fd18 fd19 fd20 fd21 fd22 fd23 fd24 fd25 fd26 fd27 fd28 fd29 fd30 fd31 fd32 fd33 fd34 fd35 fd36 fd37 fd38 fd39 fd40 fd41 fd42 fd43 fd44 fd45 fd46 fd47 fd48 fd49 fd50 fd51) : FnOk P w K mg base (L2.CX P w) 6 f44 fd44 ["state", "half", "way", "first", "last"] (spM K (xrOf [(C0, "word")]) 5 f__law_pairs) :=
  have nd := sc__law_pairs.nd
  fn_okX (m := m__law_pairs) (N := nm__law_pairs) (ps := ["state", "half", "way", "first", "last"]) 5 rfl rfl rfl T.F__law_pairs sc__law_pairs fun cdv A outer s H E hr tk po => (es_cons (es_set false 5 nd (ee_callX (ok__law_mul T) tk (hr.mono (by decide)) T.m__law_mul T.F__law_mul.kp T.b__law_mul rfl (ea_cons (ee_var 1) (ea_cons (ee_var 1) ea_nil)) (lc (lc ln)))) (es_cons (es_set false 6 nd (ee_callX (ok__law_add T) tk (hr.mono (by decide)) T.m__law_add T.F__law_add.kp T.b__law_add rfl (ea_cons (ee_tup (ea_cons ee_int (ea_cons ee_int ea_nil)) (lc (lc ln))) (ea_cons (ee_var 5) ea_nil)) (lc (lc ln)))) (es_cons (es_set false 7 nd (ee_tup (ea_cons (ee_callX (ok__law_over T) tk (hr.mono (by decide)) T.m__law_over T.F__law_over.kp T.b__law_over rfl (ea_cons (ee_callX (ok__law_add T) tk (hr.mono (by decide)) T.m__law_add T.F__law_add.kp T.b__law_add rfl (ea_cons (ee_tup (ea_cons ee_int (ea_cons ee_int ea_nil)) (lc (lc ln))) (ea_cons (ee_callX (ok__law_neg T) tk (hr.mono (by decide)) T.m__law_neg T.F__law_neg.kp T.b__law_neg rfl (ea_cons (ee_var 5) ea_nil) (lc ln)) ea_nil)) (lc (lc ln))) (ea_cons (ee_var 6) ea_nil)) (lc (lc ln))) (ea_cons (ee_callX (ok__law_over T) tk (hr.mono (by decide)) T.m__law_over T.F__law_over.kp T.b__law_over rfl (ea_cons (ee_callX (ok__law_mul T) tk (hr.mono (by decide)) T.m__law_mul T.F__law_mul.kp T.b__law_mul rfl (ea_cons (ee_tup (ea_cons ee_int (ea_cons ee_int ea_nil)) (lc (lc ln))) (ea_cons (ee_var 1) ea_nil)) (lc (lc ln))) (ea_cons (ee_var 6) ea_nil)) (lc (lc ln))) ea_nil)) (lc (lc ln)))) (es_cons (es_set false 8 nd (ee_callX (ok__law_fraction T) tk (hr.mono (by decide)) T.m__law_fraction T.F__law_fraction.kp T.b__law_fraction rfl (ea_cons (ee_var 0) (ea_cons ee_int ea_nil)) (lc (lc ln)))) (es_cons (es_if (et_w (ew_or (et_cmp (op_neD hr.units) rb_ne (ee_callX (ok_way_of T) tk (hr.mono (by decide)) T.m_way_of T.F_way_of.kp T.b_way_of rfl (ea_cons (ee_var 1) ea_nil) (lc ln)) (ee_var 7)) (ew_or (et_cmp or_isnot rb_isnot (ee_callX (ok_is_way T) tk (hr.mono (by decide)) T.m_is_way T.F_is_way.kp T.b_is_way rfl (ea_cons (ee_var 7) ea_nil) (lc ln)) ee_bl) (ew_or (et_cmp or_isnot rb_isnot (ee_callX (ok_is_way T) tk (hr.mono (by decide)) T.m_is_way T.F_is_way.kp T.b_is_way rfl (ea_cons (ee_var 2) ea_nil) (lc ln)) ee_bl) (ew_or (et_cmp or_isnot rb_isnot (ee_callX (ok_is_spot T) tk (hr.mono (by decide)) T.m_is_spot T.F_is_spot.kp T.b_is_spot rfl (ea_cons (ee_var 3) ea_nil) (lc ln)) ee_bl) (ew_or1 (et_cmp (op_neD hr.units) rb_ne (ee_callX (ok_is_way T) tk (hr.mono (by decide)) T.m_is_way T.F_is_way.kp T.b_is_way rfl (ea_cons (ee_var 3) ea_nil) (lc ln)) (ee_cmp (op_eqD hr.units) rb_eq (ee_callX (ok__law_dot T) tk (hr.mono (by decide)) T.m__law_dot T.F__law_dot.kp T.b__law_dot rfl (ea_cons (ee_var 3) (ea_cons (ee_var 3) ea_nil)) (lc (lc ln))) (ee_tup (ea_cons ee_int (ea_cons ee_int ea_nil)) (lc (lc ln))))))))))) (es_one (es_ret ee_bl)) es_nil) (es_cons (es_if (et_w (ew_or (et_cmp (op_neD hr.units) rb_ne (ee_callX (ok_dot T) tk (hr.mono (by decide)) T.m_dot T.F_dot.kp T.b_dot rfl (ea_cons (ee_var 3) (ea_cons (ee_var 4) ea_nil)) (lc (lc ln))) (ee_callX (ok__law_dot T) tk (hr.mono (by decide)) T.m__law_dot T.F__law_dot.kp T.b__law_dot rfl (ea_cons (ee_var 3) (ea_cons (ee_var 4) ea_nil)) (lc (lc ln)))) (ew_or (et_cmp (op_neD hr.units) rb_ne (ee_callX (ok_crossed T) tk (hr.mono (by decide)) T.m_crossed T.F_crossed.kp T.b_crossed rfl (ea_cons (ee_var 3) (ea_cons (ee_var 4) ea_nil)) (lc (lc ln))) (ee_callX (ok__law_cross T) tk (hr.mono (by decide)) T.m__law_cross T.F__law_cross.kp T.b__law_cross rfl (ea_cons (ee_var 3) (ea_cons (ee_var 4) ea_nil)) (lc (lc ln)))) (ew_or1 (et_cmp (op_neD hr.units) rb_ne (ee_callX (ok_less T) tk (hr.mono (by decide)) T.m_less T.F_less.kp T.b_less rfl (ea_cons (ee_var 3) (ea_cons (ee_var 4) ea_nil)) (lc (lc ln))) (ee_callX (ok__law_minus T) tk (hr.mono (by decide)) T.m__law_minus T.F__law_minus.kp T.b__law_minus rfl (ea_cons (ee_var 3) (ea_cons (ee_var 4) ea_nil)) (lc (lc ln)))))))) (es_one (es_ret ee_bl)) es_nil) (es_cons (es_if (et_cmp (op_neD hr.units) rb_ne (ee_callX (ok_put T) tk (hr.mono (by decide)) T.m_put T.F_put.kp T.b_put rfl (ea_cons (ee_var 3) (ea_cons (ee_var 4) (ea_cons (ee_var 8) ea_nil))) (lc (lc (lc ln)))) (ee_callX (ok__law_put T) tk (hr.mono (by decide)) T.m__law_put T.F__law_put.kp T.b__law_put rfl (ea_cons (ee_var 3) (ea_cons (ee_var 4) (ea_cons (ee_var 8) ea_nil))) (lc (lc (lc ln))))) (es_one (es_ret ee_bl)) es_nil) (es_cons (es_set false 9 nd (ee_tup (ea_cons (ee_callX (ok__law_neg T) tk (hr.mono (by decide)) T.m__law_neg T.F__law_neg.kp T.b__law_neg rfl (ea_cons (ee_ix rfl (ee_var 3) ee_int) ea_nil) (lc ln)) (ea_cons (ee_ix rfl (ee_var 3) ee_int) ea_nil)) (lc (lc ln)))) (es_cons (es_set false 10 nd (ee_tup (ea_cons (ee_callX (ok__law_add T) tk (hr.mono (by decide)) T.m__law_add T.F__law_add.kp T.b__law_add rfl (ea_cons (ee_callX (ok__law_mul T) tk (hr.mono (by decide)) T.m__law_mul T.F__law_mul.kp T.b__law_mul rfl (ea_cons (ee_ix rfl (ee_var 2) ee_int) (ea_cons (ee_ix rfl (ee_var 3) ee_int) ea_nil)) (lc (lc ln))) (ea_cons (ee_callX (ok__law_neg T) tk (hr.mono (by decide)) T.m__law_neg T.F__law_neg.kp T.b__law_neg rfl (ea_cons (ee_callX (ok__law_mul T) tk (hr.mono (by decide)) T.m__law_mul T.F__law_mul.kp T.b__law_mul rfl (ea_cons (ee_ix rfl (ee_var 2) ee_int) (ea_cons (ee_ix rfl (ee_var 3) ee_int) ea_nil)) (lc (lc ln))) ea_nil) (lc ln)) ea_nil)) (lc (lc ln))) (ea_cons (ee_callX (ok__law_add T) tk (hr.mono (by decide)) T.m__law_add T.F__law_add.kp T.b__law_add rfl (ea_cons (ee_callX (ok__law_mul T) tk (hr.mono (by decide)) T.m__law_mul T.F__law_mul.kp T.b__law_mul rfl (ea_cons (ee_ix rfl (ee_var 2) ee_int) (ea_cons (ee_ix rfl (ee_var 3) ee_int) ea_nil)) (lc (lc ln))) (ea_cons (ee_callX (ok__law_mul T) tk (hr.mono (by decide)) T.m__law_mul T.F__law_mul.kp T.b__law_mul rfl (ea_cons (ee_ix rfl (ee_var 2) ee_int) (ea_cons (ee_ix rfl (ee_var 3) ee_int) ea_nil)) (lc (lc ln))) ea_nil)) (lc (lc ln))) ea_nil)) (lc (lc ln)))) (es_one (es_ret (ee_and (ee_cmp (op_eqD hr.units) rb_eq (ee_callX (ok_turned T) tk (hr.mono (by decide)) T.m_turned T.F_turned.kp T.b_turned rfl (ea_cons (ee_var 3) ea_nil) (lc ln)) (ee_var 9)) (ee_one (ee_cmp (op_eqD hr.units) rb_eq (ee_callX (ok_rotated T) tk (hr.mono (by decide)) T.m_rotated T.F_rotated.kp T.b_rotated rfl (ea_cons (ee_var 3) (ea_cons (ee_var 2) ea_nil)) (lc (lc ln))) (ee_var 10)))))))))))))))
theorem ok__law_single (T : Tx P K mg C0 f0 f1 f2 f3 f4 f5 f6 f7 f8 f9 f10 f11 f12 f13 f14 f15 f16 f17 f18 f19 f20 f21 f22 f23 f24 f25 f26 f27 f28 f29 f30 f31 f32 f33 f34 f35 f36 f37 f38 f39 f40 f41 f42 f43 f44 f45 f46 f47 f48 f49 f50 f51 fd0 fd1 fd2 fd3 fd4 fd5 fd6 fd7 fd8 fd9 fd10 fd11 fd12 fd13 fd14 fd15 fd16 fd17 fd18 fd19 fd20 fd21 fd22 fd23 fd24 fd25 fd26 fd27 fd28 fd29 fd30 fd31 fd32 fd33 fd34 fd35 fd36 fd37 fd38 fd39 fd40 fd41 fd42 fd43 fd44 fd45 fd46 fd47 fd48 fd49 fd50 fd51) : FnOk P w K mg base (L2.CX P w) 11 f45 fd45 ["state", "way", "first", "last"] (spM K (xrOf [(C0, "word")]) 4 f__law_single) :=
  have nd := sc__law_single.nd
  fn_okX (m := m__law_single) (N := nm__law_single) (ps := ["state", "way", "first", "last"]) 10 rfl rfl rfl T.F__law_single sc__law_single fun cdv A outer s H E hr tk po => (es_cons (es_set false 4 nd (ee_callX (ok__law_minus T) tk (hr.mono (by decide)) T.m__law_minus T.F__law_minus.kp T.b__law_minus rfl (ea_cons (ee_var 3) (ea_cons (ee_var 2) ea_nil)) (lc (lc ln)))) (es_cons (es_if (et_cmp (op_eqD hr.units) rb_eq (ee_var 4) (ee_tup (ea_cons (ee_tup (ea_cons ee_int (ea_cons ee_int ea_nil)) (lc (lc ln))) (ea_cons (ee_tup (ea_cons ee_int (ea_cons ee_int ea_nil)) (lc (lc ln))) ea_nil)) (lc (lc ln)))) (es_one (es_ret (ee_and (ee_cmp (op_eqD hr.units) rb_eq (ee_callX (ok__law_word T) tk (hr.mono (by decide)) T.m__law_word T.F__law_word.kp T.b__law_word rfl (ea_cons (ee_fn rfl T.m_bend T.n_bend) (ea_cons (ee_tup (ea_cons (ee_var 2) (ea_cons (ee_var 1) (ea_cons (ee_var 3) ea_nil))) (lc (lc (lc ln)))) ea_nil)) (lc (lc ln))) ee_str) (ee_one (ee_cmp (op_eqD hr.units) rb_eq (ee_callX (ok__law_word T) tk (hr.mono (by decide)) T.m__law_word T.F__law_word.kp T.b__law_word rfl (ea_cons (ee_fn rfl T.m_way_at T.n_way_at) (ea_cons (ee_tup (ea_cons (ee_var 2) (ea_cons (ee_var 1) (ea_cons (ee_var 3) ea_nil))) (lc (lc (lc ln)))) ea_nil)) (lc (lc ln))) ee_str))))) es_nil) (es_cons (es_par false 5 6 rfl nd (ea_cons (ee_callX (ok__law_dot T) tk (hr.mono (by decide)) T.m__law_dot T.F__law_dot.kp T.b__law_dot rfl (ea_cons (ee_var 4) (ea_cons (ee_var 4) ea_nil)) (lc (lc ln))) (ea_cons (ee_callX (ok__law_cross T) tk (hr.mono (by decide)) T.m__law_cross T.F__law_cross.kp T.b__law_cross rfl (ea_cons (ee_var 1) (ea_cons (ee_var 4) ea_nil)) (lc (lc ln))) ea_nil))) (es_cons (es_par false 7 8 rfl nd (ea_cons (ee_callX (ok_way_at T) tk (hr.mono (by decide)) T.m_way_at T.F_way_at.kp T.b_way_at rfl (ea_cons (ee_var 2) (ea_cons (ee_var 1) (ea_cons (ee_var 3) ea_nil))) (lc (lc (lc ln)))) (ea_cons (ee_callX (ok_middle T) tk (hr.mono (by decide)) T.m_middle T.F_middle.kp T.b_middle rfl (ea_cons (ee_var 2) (ea_cons (ee_var 1) (ea_cons (ee_var 3) ea_nil))) (lc (lc (lc ln)))) ea_nil))) (es_cons (es_if (et_w (ew_or (et_cmp (op_neD hr.units) rb_ne (ee_callX (ok_bend T) tk (hr.mono (by decide)) T.m_bend T.F_bend.kp T.b_bend rfl (ea_cons (ee_var 2) (ea_cons (ee_var 1) (ea_cons (ee_var 3) ea_nil))) (lc (lc (lc ln)))) (ee_callX (ok__law_over T) tk (hr.mono (by decide)) T.m__law_over T.F__law_over.kp T.b__law_over rfl (ea_cons (ee_callX (ok__law_mul T) tk (hr.mono (by decide)) T.m__law_mul T.F__law_mul.kp T.b__law_mul rfl (ea_cons (ee_tup (ea_cons ee_int (ea_cons ee_int ea_nil)) (lc (lc ln))) (ea_cons (ee_var 6) ea_nil)) (lc (lc ln))) (ea_cons (ee_var 5) ea_nil)) (lc (lc ln)))) (ew_or1 (et_cmp or_isnot rb_isnot (ee_callX (ok_is_way T) tk (hr.mono (by decide)) T.m_is_way T.F_is_way.kp T.b_is_way rfl (ea_cons (ee_var 7) ea_nil) (lc ln)) ee_bl)))) (es_one (es_ret ee_bl)) es_nil) (es_cons (es_if (et_w (ew_or (et_cmp (op_neD hr.units) rb_ne (ee_callX (ok__law_dot T) tk (hr.mono (by decide)) T.m__law_dot T.F__law_dot.kp T.b__law_dot rfl (ea_cons (ee_var 7) (ea_cons (ee_var 4) ea_nil)) (lc (lc ln))) (ee_callX (ok__law_dot T) tk (hr.mono (by decide)) T.m__law_dot T.F__law_dot.kp T.b__law_dot rfl (ea_cons (ee_var 1) (ea_cons (ee_var 4) ea_nil)) (lc (lc ln)))) (ew_or1 (et_cmp (op_neD hr.units) rb_ne (ee_callX (ok__law_cross T) tk (hr.mono (by decide)) T.m__law_cross T.F__law_cross.kp T.b__law_cross rfl (ea_cons (ee_var 4) (ea_cons (ee_var 7) ea_nil)) (lc (lc ln))) (ee_var 6))))) (es_one (es_ret ee_bl)) es_nil) (es_cons (es_if (et_cmp (op_eqD hr.units) rb_eq (ee_var 6) (ee_tup (ea_cons ee_int (ea_cons ee_int ea_nil)) (lc (lc ln)))) (es_one (es_ret (ee_and (ee_cmp or_is rb_is (ee_var 8) ee_non) (ee_and (ee_cmp (op_eqD hr.units) rb_eq (ee_var 7) (ee_var 1)) (ee_one (ee_cmp or_is rb_is (ee_callX (ok_is_on T) tk (hr.mono (by decide)) T.m_is_on T.F_is_on.kp T.b_is_on rfl (ea_cons (ee_tup (ea_cons (ee_var 2) (ea_cons (ee_var 1) (ea_cons (ee_var 3) ea_nil))) (lc (lc (lc ln)))) (ea_cons (ee_callX (ok__law_put T) tk (hr.mono (by decide)) T.m__law_put T.F__law_put.kp T.b__law_put rfl (ea_cons (ee_var 2) (ea_cons (ee_var 4) (ea_cons (ee_tup (ea_cons ee_int (ea_cons ee_int ea_nil)) (lc (lc ln))) ea_nil))) (lc (lc (lc ln)))) ea_nil)) (lc (lc ln))) ee_bl)))))) es_nil) (es_cons (es_par false 9 10 rfl nd (ea_cons (ee_callX (ok__law_minus T) tk (hr.mono (by decide)) T.m__law_minus T.F__law_minus.kp T.b__law_minus rfl (ea_cons (ee_var 2) (ea_cons (ee_var 8) ea_nil)) (lc (lc ln))) (ea_cons (ee_callX (ok__law_minus T) tk (hr.mono (by decide)) T.m__law_minus T.F__law_minus.kp T.b__law_minus rfl (ea_cons (ee_var 3) (ea_cons (ee_var 8) ea_nil)) (lc (lc ln))) ea_nil))) (es_cons (es_set false 11 nd (ee_callX (ok__law_dot T) tk (hr.mono (by decide)) T.m__law_dot T.F__law_dot.kp T.b__law_dot rfl (ea_cons (ee_var 9) (ea_cons (ee_var 9) ea_nil)) (lc (lc ln)))) (es_cons (es_if (et_w (ew_or (et_cmp (op_neD hr.units) rb_ne (ee_var 11) (ee_callX (ok__law_dot T) tk (hr.mono (by decide)) T.m__law_dot T.F__law_dot.kp T.b__law_dot rfl (ea_cons (ee_var 10) (ea_cons (ee_var 10) ea_nil)) (lc (lc ln)))) (ew_or (et_cmp (op_neD hr.units) rb_ne (ee_callX (ok__law_dot T) tk (hr.mono (by decide)) T.m__law_dot T.F__law_dot.kp T.b__law_dot rfl (ea_cons (ee_var 9) (ea_cons (ee_var 1) ea_nil)) (lc (lc ln))) (ee_tup (ea_cons ee_int (ea_cons ee_int ea_nil)) (lc (lc ln)))) (ew_or1 (et_cmp (op_neD hr.units) rb_ne (ee_callX (ok__law_dot T) tk (hr.mono (by decide)) T.m__law_dot T.F__law_dot.kp T.b__law_dot rfl (ea_cons (ee_var 10) (ea_cons (ee_var 7) ea_nil)) (lc (lc ln))) (ee_tup (ea_cons ee_int (ea_cons ee_int ea_nil)) (lc (lc ln)))))))) (es_one (es_ret ee_bl)) es_nil) (es_cons (es_if (et_cmp (op_neD hr.units) rb_ne (ee_callX (ok__law_mul T) tk (hr.mono (by decide)) T.m__law_mul T.F__law_mul.kp T.b__law_mul rfl (ea_cons (ee_callX (ok__law_mul T) tk (hr.mono (by decide)) T.m__law_mul T.F__law_mul.kp T.b__law_mul rfl (ea_cons (ee_callX (ok_bend T) tk (hr.mono (by decide)) T.m_bend T.F_bend.kp T.b_bend rfl (ea_cons (ee_var 2) (ea_cons (ee_var 1) (ea_cons (ee_var 3) ea_nil))) (lc (lc (lc ln)))) (ea_cons (ee_callX (ok_bend T) tk (hr.mono (by decide)) T.m_bend T.F_bend.kp T.b_bend rfl (ea_cons (ee_var 2) (ea_cons (ee_var 1) (ea_cons (ee_var 3) ea_nil))) (lc (lc (lc ln)))) ea_nil)) (lc (lc ln))) (ea_cons (ee_var 11) ea_nil)) (lc (lc ln))) (ee_tup (ea_cons ee_int (ea_cons ee_int ea_nil)) (lc (lc ln)))) (es_one (es_ret ee_bl)) es_nil) (es_cons (es_set false 12 nd (ee_callX (ok__law_put T) tk (hr.mono (by decide)) T.m__law_put T.F__law_put.kp T.b__law_put rfl (ea_cons (ee_var 8) (ea_cons (ee_callX (ok__law_minus T) tk (hr.mono (by decide)) T.m__law_minus T.F__law_minus.kp T.b__law_minus rfl (ea_cons (ee_var 8) (ea_cons (ee_var 2) ea_nil)) (lc (lc ln))) (ea_cons (ee_tup (ea_cons ee_int (ea_cons ee_int ea_nil)) (lc (lc ln))) ea_nil))) (lc (lc (lc ln))))) (es_cons (es_if (et_cmp (op_neD hr.units) rb_ne (ee_callX (ok_circle T) tk (hr.mono (by decide)) T.m_circle T.F_circle.kp T.b_circle rfl (ea_cons (ee_var 2) (ea_cons (ee_var 3) (ea_cons (ee_var 12) ea_nil))) (lc (lc (lc ln)))) (ee_if (et_cmp (op_eqD hr.units) rb_eq (ee_var 12) (ee_var 3)) ee_non (ee_tup (ea_cons (ee_var 8) (ea_cons (ee_var 11) ea_nil)) (lc (lc ln))))) (es_one (es_ret ee_bl)) es_nil) (es_cons (es_par false 13 14 rfl nd (ea_cons (ee_tup (ea_cons (ee_var 2) (ea_cons (ee_var 1) (ea_cons (ee_var 3) ea_nil))) (lc (lc (lc ln)))) (ea_cons (ee_callX (ok__law_spot T) tk (hr.mono (by decide)) T.m__law_spot T.F__law_spot.kp T.b__law_spot rfl (ea_cons (ee_var 0) ea_nil) (lc ln)) ea_nil))) (es_cons (es_set false 15 nd (ee_callX (ok__law_minus T) tk (hr.mono (by decide)) T.m__law_minus T.F__law_minus.kp T.b__law_minus rfl (ea_cons (ee_var 14) (ea_cons (ee_var 8) ea_nil)) (lc (lc ln)))) (es_cons (es_if (et_w (ew_or (et_cmp (op_neD hr.units) rb_ne (ee_callX (ok_is_on T) tk (hr.mono (by decide)) T.m_is_on T.F_is_on.kp T.b_is_on rfl (ea_cons (ee_var 13) (ea_cons (ee_var 14) ea_nil)) (lc (lc ln))) (ee_cmp (op_eqD hr.units) rb_eq (ee_callX (ok__law_dot T) tk (hr.mono (by decide)) T.m__law_dot T.F__law_dot.kp T.b__law_dot rfl (ea_cons (ee_var 15) (ea_cons (ee_var 15) ea_nil)) (lc (lc ln))) (ee_var 11))) (ew_or (et_cmp or_isnot rb_isnot (ee_callX (ok_is_on T) tk (hr.mono (by decide)) T.m_is_on T.F_is_on.kp T.b_is_on rfl (ea_cons (ee_var 13) (ea_cons (ee_var 2) ea_nil)) (lc (lc ln))) ee_bl) (ew_or1 (et_cmp or_isnot rb_isnot (ee_callX (ok_is_on T) tk (hr.mono (by decide)) T.m_is_on T.F_is_on.kp T.b_is_on rfl (ea_cons (ee_var 13) (ea_cons (ee_var 3) ea_nil)) (lc (lc ln))) ee_bl))))) (es_one (es_ret ee_bl)) es_nil) (es_cons (es_set false 16 nd (ee_callX (ok_turned_back T) tk (hr.mono (by decide)) T.m_turned_back T.F_turned_back.kp T.b_turned_back rfl (ea_cons (ee_var 13) ea_nil) (lc ln))) (es_cons (es_if (et_w (ew_or (et_cmp (op_neD hr.units) rb_ne (ee_var 16) (ee_tup (ea_cons (ee_var 3) (ea_cons (ee_tup (ea_cons (ee_callX (ok__law_neg T) tk (hr.mono (by decide)) T.m__law_neg T.F__law_neg.kp T.b__law_neg rfl (ea_cons (ee_ix rfl (ee_var 7) ee_int) ea_nil) (lc ln)) (ea_cons (ee_callX (ok__law_neg T) tk (hr.mono (by decide)) T.m__law_neg T.F__law_neg.kp T.b__law_neg rfl (ea_cons (ee_ix rfl (ee_var 7) ee_int) ea_nil) (lc ln)) ea_nil)) (lc (lc ln))) (ea_cons (ee_var 2) ea_nil))) (lc (lc (lc ln))))) (ew_or (et_cmp (op_neD hr.units) rb_ne (ee_callX (ok_turned_back T) tk (hr.mono (by decide)) T.m_turned_back T.F_turned_back.kp T.b_turned_back rfl (ea_cons (ee_var 16) ea_nil) (lc ln)) (ee_var 13)) (ew_or1 (et_cmp (op_neD hr.units) rb_ne (ee_callX (ok_bend T) tk (hr.mono (by decide)) T.m_bend T.F_bend.kp T.b_bend rfl (ea_cons (ee_ix rfl (ee_var 16) ee_int) (ea_cons (ee_ix rfl (ee_var 16) ee_int) (ea_cons (ee_ix rfl (ee_var 16) ee_int) ea_nil))) (lc (lc (lc ln)))) (ee_callX (ok__law_neg T) tk (hr.mono (by decide)) T.m__law_neg T.F__law_neg.kp T.b__law_neg rfl (ea_cons (ee_callX (ok_bend T) tk (hr.mono (by decide)) T.m_bend T.F_bend.kp T.b_bend rfl (ea_cons (ee_var 2) (ea_cons (ee_var 1) (ea_cons (ee_var 3) ea_nil))) (lc (lc (lc ln)))) ea_nil) (lc ln))))))) (es_one (es_ret ee_bl)) es_nil) (es_cons (es_asg false (ee_callX (ok__law_way T) tk (hr.mono (by decide)) T.m__law_way T.F__law_way.kp T.b__law_way rfl (ea_cons (ee_var 0) ea_nil) (lc ln)) (eg_tup rfl rfl (egs_cons (eg_name nd) (egs_cons (eg_name nd) egs_nil)))) (es_cons (es_set false 19 nd (ee_callX (ok__law_spot T) tk (hr.mono (by decide)) T.m__law_spot T.F__law_spot.kp T.b__law_spot rfl (ea_cons (ee_var 0) ea_nil) (lc ln))) (es_cons (es_set false 20 nd (ee_callX (ok_moved T) tk (hr.mono (by decide)) T.m_moved T.F_moved.kp T.b_moved rfl (ea_cons (ee_var 13) (ea_cons (ee_var 18) (ea_cons (ee_var 19) ea_nil))) (lc (lc (lc ln))))) (es_cons (es_if (et_cmp (op_neD hr.units) rb_ne (ee_var 20) (ee_tup (ea_cons (ee_callX (ok__law_put T) tk (hr.mono (by decide)) T.m__law_put T.F__law_put.kp T.b__law_put rfl (ea_cons (ee_callX (ok_rotated T) tk (hr.mono (by decide)) T.m_rotated T.F_rotated.kp T.b_rotated rfl (ea_cons (ee_var 2) (ea_cons (ee_var 18) ea_nil)) (lc (lc ln))) (ea_cons (ee_var 19) (ea_cons (ee_tup (ea_cons ee_int (ea_cons ee_int ea_nil)) (lc (lc ln))) ea_nil))) (lc (lc (lc ln)))) (ea_cons (ee_callX (ok_rotated T) tk (hr.mono (by decide)) T.m_rotated T.F_rotated.kp T.b_rotated rfl (ea_cons (ee_var 1) (ea_cons (ee_var 18) ea_nil)) (lc (lc ln))) (ea_cons (ee_callX (ok__law_put T) tk (hr.mono (by decide)) T.m__law_put T.F__law_put.kp T.b__law_put rfl (ea_cons (ee_callX (ok_rotated T) tk (hr.mono (by decide)) T.m_rotated T.F_rotated.kp T.b_rotated rfl (ea_cons (ee_var 3) (ea_cons (ee_var 18) ea_nil)) (lc (lc ln))) (ea_cons (ee_var 19) (ea_cons (ee_tup (ea_cons ee_int (ea_cons ee_int ea_nil)) (lc (lc ln))) ea_nil))) (lc (lc (lc ln)))) ea_nil))) (lc (lc (lc ln))))) (es_one (es_ret ee_bl)) es_nil) (es_cons (es_if (et_w (ew_or (et_cmp (op_neD hr.units) rb_ne (ee_callX (ok_bend T) tk (hr.mono (by decide)) T.m_bend T.F_bend.kp T.b_bend rfl (ea_cons (ee_ix rfl (ee_var 20) ee_int) (ea_cons (ee_ix rfl (ee_var 20) ee_int) (ea_cons (ee_ix rfl (ee_var 20) ee_int) ea_nil))) (lc (lc (lc ln)))) (ee_callX (ok_bend T) tk (hr.mono (by decide)) T.m_bend T.F_bend.kp T.b_bend rfl (ea_cons (ee_var 2) (ea_cons (ee_var 1) (ea_cons (ee_var 3) ea_nil))) (lc (lc (lc ln))))) (ew_or1 (et_cmp (op_neD hr.units) rb_ne (ee_callX (ok__law_word T) tk (hr.mono (by decide)) T.m__law_word T.F__law_word.kp T.b__law_word rfl (ea_cons (ee_fn rfl T.m_moved T.n_moved) (ea_cons (ee_tup (ea_cons (ee_var 13) (ea_cons (ee_tup (ea_cons (ee_tup (ea_cons ee_int (ea_cons ee_int ea_nil)) (lc (lc ln))) (ea_cons (ee_tup (ea_cons ee_int (ea_cons ee_int ea_nil)) (lc (lc ln))) ea_nil)) (lc (lc ln))) (ea_cons (ee_var 19) ea_nil))) (lc (lc (lc ln)))) ea_nil)) (lc (lc ln))) ee_str)))) (es_one (es_ret ee_bl)) es_nil) (es_one (es_ret (ee_cmp (op_eqD hr.units) rb_eq (ee_callX (ok_middle T) tk (hr.mono (by decide)) T.m_middle T.F_middle.kp T.b_middle rfl (ea_cons (ee_ix rfl (ee_var 20) ee_int) (ea_cons (ee_ix rfl (ee_var 20) ee_int) (ea_cons (ee_ix rfl (ee_var 20) ee_int) ea_nil))) (lc (lc (lc ln)))) (ee_callX (ok__law_put T) tk (hr.mono (by decide)) T.m__law_put T.F__law_put.kp T.b__law_put rfl (ea_cons (ee_callX (ok_rotated T) tk (hr.mono (by decide)) T.m_rotated T.F_rotated.kp T.b_rotated rfl (ea_cons (ee_var 8) (ea_cons (ee_var 18) ea_nil)) (lc (lc ln))) (ea_cons (ee_var 19) (ea_cons (ee_tup (ea_cons ee_int (ea_cons ee_int ea_nil)) (lc (lc ln))) ea_nil))) (lc (lc (lc ln))))))))))))))))))))))))))))))
theorem ok__law_joint (T : Tx P K mg C0 f0 f1 f2 f3 f4 f5 f6 f7 f8 f9 f10 f11 f12 f13 f14 f15 f16 f17 f18 f19 f20 f21 f22 f23 f24 f25 f26 f27 f28 f29 f30 f31 f32 f33 f34 f35 f36 f37 f38 f39 f40 f41 f42 f43 f44 f45 f46 f47 f48 f49 f50 f51 fd0 fd1 fd2 fd3 fd4 fd5 fd6 fd7 fd8 fd9 fd10 fd11 fd12 fd13 fd14 fd15 fd16 fd17 fd18 fd19 fd20 fd21 fd22 fd23 fd24 fd25 fd26 fd27 fd28 fd29 fd30 fd31 fd32 fd33 fd34 fd35 fd36 fd37 fd38 fd39 fd40 fd41 fd42 fd43 fd44 fd45 fd46 fd47 fd48 fd49 fd50 fd51) : FnOk P w K mg base (L2.CX P w) 8 f49 fd49 ["first", "way", "last", "end", "length"] (spM K (xrOf [(C0, "word")]) 5 f__law_joint) :=
  have nd := sc__law_joint.nd
  fn_okX (m := m__law_joint) (N := nm__law_joint) (ps := ["first", "way", "last", "end", "length"]) 7 rfl rfl rfl T.F__law_joint sc__law_joint fun cdv A outer s H E hr tk po => (es_one (es_try_as (i := 5) rfl rfl (k := 0) rfl nd ⟨rfl, by decide, .inl T.g_Misstep⟩ T.e_Misstep (es_one (es_ret (ee_callL (ok_joint T) (hr.mono (by decide)) T.m_joint T.F_joint.kp T.b_joint rfl (ea_cons (ee_var 0) (ea_cons (ee_var 1) (ea_cons (ee_var 2) (ea_cons (ee_var 3) (ea_cons (ee_var 4) ea_nil))))) (lc (lc (lc (lc (lc ln)))))))) (fun W pn xe tk po => (rss_one (rs_ret (re_call (ok_joint T) tk (hr.mono (by decide)) T.m_joint T.F_joint.kp T.b_joint (ea_cons (ee_var 0) (ea_cons (ee_var 1) (ea_cons (ee_var 2) (ea_cons (ee_var 3) (ea_cons (ee_var 4) ea_nil))))) (lc (lc (lc (lc (lc ln))))))))) (su_any (i := 5) (C := _) (fld := "word") fun a oe pn => (es_one (es_ret ee_non))) rfl rfl))
theorem ok__law_circles (T : Tx P K mg C0 f0 f1 f2 f3 f4 f5 f6 f7 f8 f9 f10 f11 f12 f13 f14 f15 f16 f17 f18 f19 f20 f21 f22 f23 f24 f25 f26 f27 f28 f29 f30 f31 f32 f33 f34 f35 f36 f37 f38 f39 f40 f41 f42 f43 f44 f45 f46 f47 f48 f49 f50 f51 fd0 fd1 fd2 fd3 fd4 fd5 fd6 fd7 fd8 fd9 fd10 fd11 fd12 fd13 fd14 fd15 fd16 fd17 fd18 fd19 fd20 fd21 fd22 fd23 fd24 fd25 fd26 fd27 fd28 fd29 fd30 fd31 fd32 fd33 fd34 fd35 fd36 fd37 fd38 fd39 fd40 fd41 fd42 fd43 fd44 fd45 fd46 fd47 fd48 fd49 fd50 fd51) : FnOk P w K mg base (L2.CX P w) 11 f47 fd47 ["first", "way", "last", "end", "spot"] (spM K (xrOf [(C0, "word")]) 5 f__law_circles) :=
  have nd := sc__law_circles.nd
  fn_okX (m := m__law_circles) (N := nm__law_circles) (ps := ["first", "way", "last", "end", "spot"]) 10 rfl rfl rfl T.F__law_circles sc__law_circles fun cdv A outer s H E hr tk po => (es_cons (es_set false 5 nd (ee_lst ea_nil ln)) (es_cons (es_for (p := (.n 6)) po rfl (ei_rng2 T.z_range (ea_cons ee_int (ea_cons ee_int ea_nil))) (eg_name nd) (es_cons (es_set false 7 nd (ee_callX (ok__law_joint T) tk (hr.mono (by decide)) T.m__law_joint T.F__law_joint.kp T.b__law_joint rfl (ea_cons (ee_var 0) (ea_cons (ee_var 1) (ea_cons (ee_var 2) (ea_cons (ee_var 3) (ea_cons (ee_tup (ea_cons (ee_var 6) (ea_cons ee_int ea_nil)) (lc (lc ln))) ea_nil))))) (lc (lc (lc (lc (lc ln))))))) (es_one (es_set false 5 nd (ee_if (et_w (ew_and (et_cmp or_isnot rb_isnot (ee_var 7) ee_non) (ew_and1 (et_cmp (or_notin (Room.u65 hr)) rb_notin (ee_var 7) (ee_var 5))))) (ee_bin or_add rb_add (ee_var 5) (ee_lst (ea_cons (ee_var 7) ea_nil) (lc ln))) (ee_var 5)))))) (es_cons (es_if (et_cmp op_lt (rb_cmp (p := pLt)) (ee_callB call_len rc_len T.z_len PySem.boot_len (ea_cons (ee_var 5) ea_nil)) ee_int) (es_one (es_ret (ee_cmp (op_eqD hr.units) rb_eq (ee_callX (ok__law_word T) tk (hr.mono (by decide)) T.m__law_word T.F__law_word.kp T.b__law_word rfl (ea_cons (ee_fn rfl T.m__law_round T.n__law_round) (ea_cons (ee_tup (ea_cons (ee_var 0) (ea_cons (ee_var 1) (ea_cons (ee_var 2) (ea_cons (ee_var 3) (ea_cons (ee_tup (ea_cons ee_int (ea_cons ee_int ea_nil)) (lc (lc ln))) ea_nil))))) (lc (lc (lc (lc (lc ln)))))) ea_nil)) (lc (lc ln))) ee_str))) es_nil) (es_cons (es_set false 8 nd (ee_callX (ok_joints_circle T) tk (hr.mono (by decide)) T.m_joints_circle T.F_joints_circle.kp T.b_joints_circle rfl (ea_cons (ee_var 0) (ea_cons (ee_var 1) (ea_cons (ee_var 2) (ea_cons (ee_var 3) ea_nil)))) (lc (lc (lc (lc ln)))))) (es_cons (es_if (et_cmp (op_neD hr.units) rb_ne (ee_var 8) (ee_callX (ok_circle T) tk (hr.mono (by decide)) T.m_circle T.F_circle.kp T.b_circle rfl (ea_cons (ee_ix rfl (ee_var 5) ee_int) (ea_cons (ee_ix rfl (ee_var 5) ee_int) (ea_cons (ee_ix rfl (ee_var 5) ee_int) ea_nil))) (lc (lc (lc ln))))) (es_one (es_ret ee_bl)) es_nil) (es_cons (es_if (et_cmp or_is rb_is (ee_var 8) ee_non) (es_one (es_ret (ee_cmp (op_eqD hr.units) rb_eq (ee_callB call_len rc_len T.z_len PySem.boot_len (ea_cons (ee_lc (own := [("one", 10)]) (p := (.n 10)) rfl nd (ei_seq rfl (ee_bin or_add rb_add (ee_var 5) (ee_lst (ea_cons (ee_var 4) ea_nil) (lc ln)))) (blkOk_by (N := nm__law_circles) (sc := defScope s__law_circles) (by decide +kernel)) (by decide) (fun _ _ _ _ _ => (eg_name nd)) (fun _ _ _ _ _ => (ets_one (et_cmp (op_neD hr.units) rb_ne (ee_callL (ok__law_cross T) (hr.mono (by decide)) T.m__law_cross T.F__law_cross.kp T.b__law_cross rfl (ea_cons (ee_callL (ok__law_minus T) (hr.mono (by decide)) T.m__law_minus T.F__law_minus.kp T.b__law_minus rfl (ea_cons (ee_ix rfl (ee_var 5) ee_int) (ea_cons (ee_ix rfl (ee_var 5) ee_int) ea_nil)) (lc (lc ln))) (ea_cons (ee_callL (ok__law_minus T) (hr.mono (by decide)) T.m__law_minus T.F__law_minus.kp T.b__law_minus rfl (ea_cons (ee_var 10) (ea_cons (ee_ix rfl (ee_var 5) ee_int) ea_nil)) (lc (lc ln))) ea_nil)) (lc (lc ln))) (ee_tup (ea_cons ee_int (ea_cons ee_int ea_nil)) (lc (lc ln)))))) (fun _ _ _ _ _ => (ee_var 10))) ea_nil)) ee_int))) es_nil) (es_cons (es_setLc (own := [("one", 10)]) (p := (.n 10)) false 9 rfl nd (sw_true rfl rfl rfl (by decide +kernel)) (ei_seq rfl (ee_bin or_add rb_add (ee_var 5) (ee_lst (ea_cons (ee_var 4) ea_nil) (lc ln)))) (blkOk_by (N := nm__law_circles) (sc := defScope s__law_circles) (by decide +kernel)) (by decide) (fun _ _ _ _ _ => (eg_name nd)) (fun _ _ _ _ _ => ets_nil) (fun _ _ _ _ _ => (ee_callL (ok__law_minus T) (hr.mono (by decide)) T.m__law_minus T.F__law_minus.kp T.b__law_minus rfl (ea_cons (ee_var 10) (ea_cons (ee_ix rfl (ee_var 8) ee_int) ea_nil)) (lc (lc ln))))) (es_one (es_ret (ee_cmp (op_eqD hr.units) rb_eq (ee_callB call_len rc_len T.z_len PySem.boot_len (ea_cons (ee_lc (own := [("gap", 11)]) (p := (.n 11)) rfl nd (ei_seq rfl (ee_var 9)) (blkOk_by (N := nm__law_circles) (sc := defScope s__law_circles) (by decide +kernel)) (by decide) (fun _ _ _ _ _ => (eg_name nd)) (fun _ _ _ _ _ => (ets_one (et_cmp (op_neD hr.units) rb_ne (ee_callL (ok__law_dot T) (hr.mono (by decide)) T.m__law_dot T.F__law_dot.kp T.b__law_dot rfl (ea_cons (ee_var 11) (ea_cons (ee_var 11) ea_nil)) (lc (lc ln))) (ee_ix rfl (ee_var 8) ee_int)))) (fun _ _ _ _ _ => (ee_var 11))) ea_nil)) ee_int))))))))))
theorem ok__law_two (T : Tx P K mg C0 f0 f1 f2 f3 f4 f5 f6 f7 f8 f9 f10 f11 f12 f13 f14 f15 f16 f17 f18 f19 f20 f21 f22 f23 f24 f25 f26 f27 f28 f29 f30 f31 f32 f33 f34 f35 f36 f37 f38 f39 f40 f41 f42 f43 f44 f45 f46 f47 f48 f49 f50 f51 fd0 fd1 fd2 fd3 fd4 fd5 fd6 fd7 fd8 fd9 fd10 fd11 fd12 fd13 fd14 fd15 fd16 fd17 fd18 fd19 fd20 fd21 fd22 fd23 fd24 fd25 fd26 fd27 fd28 fd29 fd30 fd31 fd32 fd33 fd34 fd35 fd36 fd37 fd38 fd39 fd40 fd41 fd42 fd43 fd44 fd45 fd46 fd47 fd48 fd49 fd50 fd51) : FnOk P w K mg base (L2.CX P w) 12 f46 fd46 ["state", "way", "end", "first", "last"] (spM K (xrOf [(C0, "word")]) 5 f__law_two) :=
  have nd := sc__law_two.nd
  fn_okX (m := m__law_two) (N := nm__law_two) (ps := ["state", "way", "end", "first", "last"]) 11 rfl rfl rfl T.F__law_two sc__law_two fun cdv A outer s H E hr tk po => (es_cons (es_set false 5 nd (ee_callX (ok__law_part T) tk (hr.mono (by decide)) T.m__law_part T.F__law_part.kp T.b__law_part rfl (ea_cons (ee_bin or_add rb_add ee_int (ee_callX (ok__law_take T) tk (hr.mono (by decide)) T.m__law_take T.F__law_take.kp T.b__law_take rfl (ea_cons (ee_var 0) (ea_cons ee_int ea_nil)) (lc (lc ln)))) (ea_cons (ee_bin or_add rb_add ee_int (ee_callX (ok__law_take T) tk (hr.mono (by decide)) T.m__law_take T.F__law_take.kp T.b__law_take rfl (ea_cons (ee_var 0) (ea_cons ee_int ea_nil)) (lc (lc ln)))) ea_nil)) (lc (lc ln)))) (es_cons (es_set false 6 nd (ee_callX (ok__law_minus T) tk (hr.mono (by decide)) T.m__law_minus T.F__law_minus.kp T.b__law_minus rfl (ea_cons (ee_var 4) (ea_cons (ee_var 3) ea_nil)) (lc (lc ln)))) (es_cons (es_set false 7 nd (ee_callX (ok__law_add T) tk (hr.mono (by decide)) T.m__law_add T.F__law_add.kp T.b__law_add rfl (ea_cons (ee_callX (ok__law_dot T) tk (hr.mono (by decide)) T.m__law_dot T.F__law_dot.kp T.b__law_dot rfl (ea_cons (ee_var 6) (ea_cons (ee_var 2) ea_nil)) (lc (lc ln))) (ea_cons (ee_callX (ok__law_neg T) tk (hr.mono (by decide)) T.m__law_neg T.F__law_neg.kp T.b__law_neg rfl (ea_cons (ee_callX (ok__law_mul T) tk (hr.mono (by decide)) T.m__law_mul T.F__law_mul.kp T.b__law_mul rfl (ea_cons (ee_var 5) (ea_cons (ee_callX (ok__law_add T) tk (hr.mono (by decide)) T.m__law_add T.F__law_add.kp T.b__law_add rfl (ea_cons (ee_callX (ok__law_dot T) tk (hr.mono (by decide)) T.m__law_dot T.F__law_dot.kp T.b__law_dot rfl (ea_cons (ee_var 1) (ea_cons (ee_var 2) ea_nil)) (lc (lc ln))) (ea_cons (ee_tup (ea_cons (ee_neg ee_int) (ea_cons ee_int ea_nil)) (lc (lc ln))) ea_nil)) (lc (lc ln))) ea_nil)) (lc (lc ln))) ea_nil) (lc ln)) ea_nil)) (lc (lc ln)))) (es_cons (es_set false 8 nd (ee_callX (ok__law_add T) tk (hr.mono (by decide)) T.m__law_add T.F__law_add.kp T.b__law_add rfl (ea_cons (ee_callX (ok__law_mul T) tk (hr.mono (by decide)) T.m__law_mul T.F__law_mul.kp T.b__law_mul rfl (ea_cons (ee_tup (ea_cons ee_int (ea_cons ee_int ea_nil)) (lc (lc ln))) (ea_cons (ee_callX (ok__law_dot T) tk (hr.mono (by decide)) T.m__law_dot T.F__law_dot.kp T.b__law_dot rfl (ea_cons (ee_var 6) (ea_cons (ee_var 6) ea_nil)) (lc (lc ln))) ea_nil)) (lc (lc ln))) (ea_cons (ee_callX (ok__law_neg T) tk (hr.mono (by decide)) T.m__law_neg T.F__law_neg.kp T.b__law_neg rfl (ea_cons (ee_callX (ok__law_mul T) tk (hr.mono (by decide)) T.m__law_mul T.F__law_mul.kp T.b__law_mul rfl (ea_cons (ee_var 5) (ea_cons (ee_callX (ok__law_dot T) tk (hr.mono (by decide)) T.m__law_dot T.F__law_dot.kp T.b__law_dot rfl (ea_cons (ee_var 6) (ea_cons (ee_var 1) ea_nil)) (lc (lc ln))) ea_nil)) (lc (lc ln))) ea_nil) (lc ln)) ea_nil)) (lc (lc ln)))) (es_cons (es_set false 9 nd (ee_tup (ea_cons (ee_var 3) (ea_cons (ee_var 1) (ea_cons (ee_var 4) (ea_cons (ee_var 2) (ea_cons (ee_var 5) ea_nil))))) (lc (lc (lc (lc (lc ln))))))) (es_cons (es_if (et_cmp (op_eqD hr.units) rb_eq (ee_var 7) (ee_tup (ea_cons ee_int (ea_cons ee_int ea_nil)) (lc (lc ln)))) (es_one (es_ret (ee_and (ee_cmp (op_eqD hr.units) rb_eq (ee_callX (ok__law_word T) tk (hr.mono (by decide)) T.m__law_word T.F__law_word.kp T.b__law_word rfl (ea_cons (ee_fn rfl T.m_second_length T.n_second_length) (ea_cons (ee_var 9) ea_nil)) (lc (lc ln))) ee_str) (ee_one (ee_cmp (op_eqD hr.units) rb_eq (ee_callX (ok__law_word T) tk (hr.mono (by decide)) T.m__law_word T.F__law_word.kp T.b__law_word rfl (ea_cons (ee_fn rfl T.m_joint T.n_joint) (ea_cons (ee_var 9) ea_nil)) (lc (lc ln))) ee_str))))) es_nil) (es_cons (es_set false 10 nd (ee_callX (ok__law_over T) tk (hr.mono (by decide)) T.m__law_over T.F__law_over.kp T.b__law_over rfl (ea_cons (ee_var 8) (ea_cons (ee_var 7) ea_nil)) (lc (lc ln)))) (es_cons (es_if (et_cmp (op_neD hr.units) rb_ne (ee_callX (ok_second_length T) tk (hr.mono (by decide)) T.m_second_length T.F_second_length.kp T.b_second_length rfl (ea_cons (ee_var 3) (ea_cons (ee_var 1) (ea_cons (ee_var 4) (ea_cons (ee_var 2) (ea_cons (ee_var 5) ea_nil))))) (lc (lc (lc (lc (lc ln)))))) (ee_var 10)) (es_one (es_ret ee_bl)) es_nil) (es_cons (es_par false 11 12 rfl nd (ea_cons (ee_callX (ok__law_put T) tk (hr.mono (by decide)) T.m__law_put T.F__law_put.kp T.b__law_put rfl (ea_cons (ee_var 3) (ea_cons (ee_var 1) (ea_cons (ee_var 5) ea_nil))) (lc (lc (lc ln)))) (ea_cons (ee_callX (ok__law_put T) tk (hr.mono (by decide)) T.m__law_put T.F__law_put.kp T.b__law_put rfl (ea_cons (ee_var 4) (ea_cons (ee_var 2) (ea_cons (ee_callX (ok__law_neg T) tk (hr.mono (by decide)) T.m__law_neg T.F__law_neg.kp T.b__law_neg rfl (ea_cons (ee_var 10) ea_nil) (lc ln)) ea_nil))) (lc (lc (lc ln)))) ea_nil))) (es_cons (es_par false 13 14 rfl nd (ea_cons (ee_callX (ok__law_minus T) tk (hr.mono (by decide)) T.m__law_minus T.F__law_minus.kp T.b__law_minus rfl (ea_cons (ee_var 12) (ea_cons (ee_var 11) ea_nil)) (lc (lc ln))) (ea_cons (ee_callX (ok__law_add T) tk (hr.mono (by decide)) T.m__law_add T.F__law_add.kp T.b__law_add rfl (ea_cons (ee_var 5) (ea_cons (ee_var 10) ea_nil)) (lc (lc ln))) ea_nil))) (es_cons (es_if (et_w (ew_or (et_cmp (op_neD hr.units) rb_ne (ee_callX (ok_way_there T) tk (hr.mono (by decide)) T.m_way_there T.F_way_there.kp T.b_way_there rfl (ea_cons (ee_var 3) (ea_cons (ee_var 1) (ea_cons (ee_var 4) (ea_cons (ee_var 2) (ea_cons (ee_var 5) ea_nil))))) (lc (lc (lc (lc (lc ln)))))) (ee_var 13)) (ew_or1 (et_cmp (op_neD hr.units) rb_ne (ee_callX (ok__law_dot T) tk (hr.mono (by decide)) T.m__law_dot T.F__law_dot.kp T.b__law_dot rfl (ea_cons (ee_var 13) (ea_cons (ee_var 13) ea_nil)) (lc (lc ln))) (ee_callX (ok__law_mul T) tk (hr.mono (by decide)) T.m__law_mul T.F__law_mul.kp T.b__law_mul rfl (ea_cons (ee_var 14) (ea_cons (ee_var 14) ea_nil)) (lc (lc ln))))))) (es_one (es_ret ee_bl)) es_nil) (es_cons (es_if (et_cmp (op_eqD hr.units) rb_eq (ee_var 14) (ee_tup (ea_cons ee_int (ea_cons ee_int ea_nil)) (lc (lc ln)))) (es_one (es_ret (ee_cmp (op_eqD hr.units) rb_eq (ee_callX (ok__law_word T) tk (hr.mono (by decide)) T.m__law_word T.F__law_word.kp T.b__law_word rfl (ea_cons (ee_fn rfl T.m_joint T.n_joint) (ea_cons (ee_var 9) ea_nil)) (lc (lc ln))) ee_str))) es_nil) (es_cons (es_set false 15 nd (ee_callX (ok__law_put T) tk (hr.mono (by decide)) T.m__law_put T.F__law_put.kp T.b__law_put rfl (ea_cons (ee_var 11) (ea_cons (ee_var 13) (ea_cons (ee_callX (ok__law_over T) tk (hr.mono (by decide)) T.m__law_over T.F__law_over.kp T.b__law_over rfl (ea_cons (ee_var 5) (ea_cons (ee_var 14) ea_nil)) (lc (lc ln))) ea_nil))) (lc (lc (lc ln))))) (es_cons (es_if (et_cmp (op_neD hr.units) rb_ne (ee_callX (ok_joint T) tk (hr.mono (by decide)) T.m_joint T.F_joint.kp T.b_joint rfl (ea_cons (ee_var 3) (ea_cons (ee_var 1) (ea_cons (ee_var 4) (ea_cons (ee_var 2) (ea_cons (ee_var 5) ea_nil))))) (lc (lc (lc (lc (lc ln)))))) (ee_var 15)) (es_one (es_ret ee_bl)) es_nil) (es_cons (es_if (et_w (ew_or (et_cmp (op_eqD hr.units) rb_eq (ee_var 15) (ee_var 3)) (ew_or1 (et_cmp (op_eqD hr.units) rb_eq (ee_var 15) (ee_var 4))))) (es_one (es_ret (ee_cmp (op_eqD hr.units) rb_eq (ee_callX (ok__law_word T) tk (hr.mono (by decide)) T.m__law_word T.F__law_word.kp T.b__law_word rfl (ea_cons (ee_fn rfl T.m_goes_on T.n_goes_on) (ea_cons (ee_var 9) ea_nil)) (lc (lc ln))) ee_str))) es_nil) (es_cons (es_set false 16 nd (ee_callX (ok_arcs T) tk (hr.mono (by decide)) T.m_arcs T.F_arcs.kp T.b_arcs rfl (ea_cons (ee_var 3) (ea_cons (ee_var 1) (ea_cons (ee_var 4) (ea_cons (ee_var 2) (ea_cons (ee_var 5) ea_nil))))) (lc (lc (lc (lc (lc ln))))))) (es_cons (es_set false 17 nd (ee_tup (ea_cons (ee_callX (ok__law_over T) tk (hr.mono (by decide)) T.m__law_over T.F__law_over.kp T.b__law_over rfl (ea_cons (ee_ix rfl (ee_var 13) ee_int) (ea_cons (ee_var 14) ea_nil)) (lc (lc ln))) (ea_cons (ee_callX (ok__law_over T) tk (hr.mono (by decide)) T.m__law_over T.F__law_over.kp T.b__law_over rfl (ea_cons (ee_ix rfl (ee_var 13) ee_int) (ea_cons (ee_var 14) ea_nil)) (lc (lc ln))) ea_nil)) (lc (lc ln)))) (es_cons (es_if (et_w (ew_or (et_cmp (op_neD hr.units) rb_ne (ee_var 16) (ee_tup (ea_cons (ee_tup (ea_cons (ee_var 3) (ea_cons (ee_var 1) (ea_cons (ee_var 15) ea_nil))) (lc (lc (lc ln)))) (ea_cons (ee_tup (ea_cons (ee_var 15) (ea_cons (ee_var 17) (ea_cons (ee_var 4) ea_nil))) (lc (lc (lc ln)))) ea_nil)) (lc (lc ln)))) (ew_or1 (et_cmp or_isnot rb_isnot (ee_callX (ok_goes_on T) tk (hr.mono (by decide)) T.m_goes_on T.F_goes_on.kp T.b_goes_on rfl (ea_cons (ee_var 3) (ea_cons (ee_var 1) (ea_cons (ee_var 4) (ea_cons (ee_var 2) (ea_cons (ee_var 5) ea_nil))))) (lc (lc (lc (lc (lc ln)))))) ee_bl)))) (es_one (es_ret ee_bl)) es_nil) (es_one (es_ret (ee_callX (ok__law_circles T) tk (hr.mono (by decide)) T.m__law_circles T.F__law_circles.kp T.b__law_circles rfl (ea_cons (ee_var 3) (ea_cons (ee_var 1) (ea_cons (ee_var 4) (ea_cons (ee_var 2) (ea_cons (ee_var 15) ea_nil))))) (lc (lc (lc (lc (lc ln))))))))))))))))))))))))))
theorem ok__law_odd (T : Tx P K mg C0 f0 f1 f2 f3 f4 f5 f6 f7 f8 f9 f10 f11 f12 f13 f14 f15 f16 f17 f18 f19 f20 f21 f22 f23 f24 f25 f26 f27 f28 f29 f30 f31 f32 f33 f34 f35 f36 f37 f38 f39 f40 f41 f42 f43 f44 f45 f46 f47 f48 f49 f50 f51 fd0 fd1 fd2 fd3 fd4 fd5 fd6 fd7 fd8 fd9 fd10 fd11 fd12 fd13 fd14 fd15 fd16 fd17 fd18 fd19 fd20 fd21 fd22 fd23 fd24 fd25 fd26 fd27 fd28 fd29 fd30 fd31 fd32 fd33 fd34 fd35 fd36 fd37 fd38 fd39 fd40 fd41 fd42 fd43 fd44 fd45 fd46 fd47 fd48 fd49 fd50 fd51) : FnOk P w K mg base (L2.CX P w) 7 f50 fd50 [] (spM K (xrOf [(C0, "word")]) 0 f__law_odd) :=
  have nd := sc__law_odd.nd
  fn_okX (m := m__law_odd) (N := nm__law_odd) (ps := []) 6 rfl rfl rfl T.F__law_odd sc__law_odd fun cdv A outer s H E hr tk po => (es_cons (es_set false 0 nd (ee_tup (ea_cons ee_int (ea_cons ee_int ea_nil)) (lc (lc ln)))) (es_cons (es_set false 1 nd (ee_lst (ea_cons ee_non (ea_cons (ee_tup (ea_cons (ee_var 0) ea_nil) (lc ln)) (ea_cons (ee_lst (ea_cons (ee_var 0) (ea_cons (ee_var 0) ea_nil)) (lc (lc ln))) (ea_cons (ee_tup (ea_cons (ee_var 0) (ea_cons ee_int ea_nil)) (lc (lc ln))) (ea_cons (ee_tup (ea_cons (ee_var 0) (ea_cons (ee_tup (ea_cons ee_int (ea_cons ee_int ea_nil)) (lc (lc ln))) ea_nil)) (lc (lc ln))) ea_nil))))) (lc (lc (lc (lc (lc ln))))))) (es_cons (es_if (et_w (ew_or (et_cmp (op_neD hr.units) rb_ne (ee_lc (own := [("value", 2)]) (p := (.n 2)) rfl nd (ei_seq rfl (ee_var 1)) (blkOk_by (N := nm__law_odd) (sc := defScope s__law_odd) (by decide +kernel)) (by decide) (fun _ _ _ _ _ => (eg_name nd)) (fun _ _ _ _ _ => ets_nil) (fun _ _ _ _ _ => (ee_callL (ok_is_spot T) (hr.mono (by decide)) T.m_is_spot T.F_is_spot.kp T.b_is_spot rfl (ea_cons (ee_var 2) ea_nil) (lc ln)))) (ee_bin or_mul rb_mul (ee_lst (ea_cons ee_bl ea_nil) (lc ln)) ee_int)) (ew_or1 (et_cmp (op_neD hr.units) rb_ne (ee_lc (own := [("value", 2)]) (p := (.n 2)) rfl nd (ei_seq rfl (ee_bin or_add rb_add (ee_var 1) (ee_lst (ea_cons (ee_tup (ea_cons (ee_var 0) (ea_cons (ee_var 0) ea_nil)) (lc (lc ln))) (ea_cons (ee_tup (ea_cons (ee_tup (ea_cons ee_int (ea_cons ee_int ea_nil)) (lc (lc ln))) (ea_cons (ee_tup (ea_cons ee_int (ea_cons ee_int ea_nil)) (lc (lc ln))) ea_nil)) (lc (lc ln))) ea_nil)) (lc (lc ln))))) (blkOk_by (N := nm__law_odd) (sc := defScope s__law_odd) (by decide +kernel)) (by decide) (fun _ _ _ _ _ => (eg_name nd)) (fun _ _ _ _ _ => ets_nil) (fun _ _ _ _ _ => (ee_callL (ok_is_way T) (hr.mono (by decide)) T.m_is_way T.F_is_way.kp T.b_is_way rfl (ea_cons (ee_var 2) ea_nil) (lc ln)))) (ee_bin or_mul rb_mul (ee_lst (ea_cons ee_bl ea_nil) (lc ln)) ee_int))))) (es_one (es_ret ee_bl)) es_nil) (es_one (es_ret (ee_and (ee_cmp or_is rb_is (ee_callX (ok_circle T) tk (hr.mono (by decide)) T.m_circle T.F_circle.kp T.b_circle rfl (ea_cons (ee_tup (ea_cons (ee_tup (ea_cons ee_int (ea_cons ee_int ea_nil)) (lc (lc ln))) (ea_cons (ee_tup (ea_cons ee_int (ea_cons ee_int ea_nil)) (lc (lc ln))) ea_nil)) (lc (lc ln))) (ea_cons (ee_tup (ea_cons (ee_tup (ea_cons ee_int (ea_cons ee_int ea_nil)) (lc (lc ln))) (ea_cons (ee_tup (ea_cons ee_int (ea_cons ee_int ea_nil)) (lc (lc ln))) ea_nil)) (lc (lc ln))) (ea_cons (ee_tup (ea_cons (ee_tup (ea_cons ee_int (ea_cons ee_int ea_nil)) (lc (lc ln))) (ea_cons (ee_tup (ea_cons ee_int (ea_cons ee_int ea_nil)) (lc (lc ln))) ea_nil)) (lc (lc ln))) ea_nil))) (lc (lc (lc ln)))) ee_non) (ee_one (ee_cmp (op_eqD hr.units) rb_eq (ee_callX (ok_circle T) tk (hr.mono (by decide)) T.m_circle T.F_circle.kp T.b_circle rfl (ea_cons (ee_tup (ea_cons (ee_tup (ea_cons ee_int (ea_cons ee_int ea_nil)) (lc (lc ln))) (ea_cons (ee_tup (ea_cons ee_int (ea_cons ee_int ea_nil)) (lc (lc ln))) ea_nil)) (lc (lc ln))) (ea_cons (ee_tup (ea_cons (ee_tup (ea_cons ee_int (ea_cons ee_int ea_nil)) (lc (lc ln))) (ea_cons (ee_tup (ea_cons ee_int (ea_cons ee_int ea_nil)) (lc (lc ln))) ea_nil)) (lc (lc ln))) (ea_cons (ee_tup (ea_cons (ee_tup (ea_cons (ee_neg ee_int) (ea_cons ee_int ea_nil)) (lc (lc ln))) (ea_cons (ee_tup (ea_cons ee_int (ea_cons ee_int ea_nil)) (lc (lc ln))) ea_nil)) (lc (lc ln))) ea_nil))) (lc (lc (lc ln)))) (ee_tup (ea_cons (ee_tup (ea_cons (ee_tup (ea_cons ee_int (ea_cons ee_int ea_nil)) (lc (lc ln))) (ea_cons (ee_tup (ea_cons ee_int (ea_cons ee_int ea_nil)) (lc (lc ln))) ea_nil)) (lc (lc ln))) (ea_cons (ee_tup (ea_cons ee_int (ea_cons ee_int ea_nil)) (lc (lc ln))) ea_nil)) (lc (lc ln)))))))))))
theorem ok_law (T : Tx P K mg C0 f0 f1 f2 f3 f4 f5 f6 f7 f8 f9 f10 f11 f12 f13 f14 f15 f16 f17 f18 f19 f20 f21 f22 f23 f24 f25 f26 f27 f28 f29 f30 f31 f32 f33 f34 f35 f36 f37 f38 f39 f40 f41 f42 f43 f44 f45 f46 f47 f48 f49 f50 f51 fd0 fd1 fd2 fd3 fd4 fd5 fd6 fd7 fd8 fd9 fd10 fd11 fd12 fd13 fd14 fd15 fd16 fd17 fd18 fd19 fd20 fd21 fd22 fd23 fd24 fd25 fd26 fd27 fd28 fd29 fd30 fd31 fd32 fd33 fd34 fd35 fd36 fd37 fd38 fd39 fd40 fd41 fd42 fd43 fd44 fd45 fd46 fd47 fd48 fd49 fd50 fd51) (hl : lawOk 9 1 m_law) : FnOk P w K mg base CX0 13 f51 fd51 ["script"] (spLaw K) := by
  refine T.F_law.ok sc_law (fun vs H Q E h => ?_) (fun cdv A outer s H vs Q E hr h => ?_)
  · obtain ⟨a, ns, rfl, _⟩ := h
    rfl
  · obtain ⟨a, ns, rfl, hS, hlen, q⟩ := h
    have nd := sc_law.nd
    refine ⟨_, pss_cons (ps_set (i := 1) nd rfl (.inl rfl) (pe_call (ok__law_state T) (hr.mono (by decide)) (by rfl) T.m__law_state T.F__law_state.kp T.b__law_state .nil pass0 (pa_cons (pv 0) pa_nil))) (show ESs _ ⟨K, (xrOf [(C0, "word")]), E⟩ _ m_law from (es_cons (es_for (p := (.n 2)) PassesOwn.never rfl (ei_rng1 T.z_range (ea_cons ee_int ea_nil)) (eg_name nd) (es_cons (es_asg false (ee_callL (ok__law_way T) (hr.mono (by decide)) T.m__law_way T.F__law_way.kp T.b__law_way rfl (ea_cons (ee_var 1) ea_nil) (lc ln)) (eg_tup rfl rfl (egs_cons (eg_name nd) (egs_cons (eg_name nd) egs_nil)))) (es_cons (es_asg false (ee_callL (ok__law_way T) (hr.mono (by decide)) T.m__law_way T.F__law_way.kp T.b__law_way rfl (ea_cons (ee_var 1) ea_nil) (lc ln)) (eg_tup rfl rfl (egs_cons (eg_name nd) (egs_cons (eg_name nd) egs_nil)))) (es_cons (es_par false 7 8 rfl nd (ea_cons (ee_callL (ok__law_spot T) (hr.mono (by decide)) T.m__law_spot T.F__law_spot.kp T.b__law_spot rfl (ea_cons (ee_var 1) ea_nil) (lc ln)) (ea_cons (ee_callL (ok__law_spot T) (hr.mono (by decide)) T.m__law_spot T.F__law_spot.kp T.b__law_spot rfl (ea_cons (ee_var 1) ea_nil) (lc ln)) ea_nil))) (es_one (es_if (et_w (ew_or (et_not (et_val (ee_callL (ok__law_pairs T) (hr.mono (by decide)) T.m__law_pairs T.F__law_pairs.kp T.b__law_pairs rfl (ea_cons (ee_var 1) (ea_cons (ee_var 3) (ea_cons (ee_var 4) (ea_cons (ee_var 7) (ea_cons (ee_var 8) ea_nil))))) (lc (lc (lc (lc (lc ln)))))) rfl)) (ew_or (et_not (et_val (ee_callL (ok__law_single T) (hr.mono (by decide)) T.m__law_single T.F__law_single.kp T.b__law_single rfl (ea_cons (ee_var 1) (ea_cons (ee_var 4) (ea_cons (ee_var 7) (ea_cons (ee_var 8) ea_nil)))) (lc (lc (lc (lc ln))))) rfl)) (ew_or1 (et_not (et_val (ee_callL (ok__law_two T) (hr.mono (by decide)) T.m__law_two T.F__law_two.kp T.b__law_two rfl (ea_cons (ee_var 1) (ea_cons (ee_var 4) (ea_cons (ee_var 6) (ea_cons (ee_var 7) (ea_cons (ee_var 8) ea_nil))))) (lc (lc (lc (lc (lc ln)))))) rfl)))))) (es_one (es_ret ee_bl)) es_nil)))))) (es_one (es_ret (ee_callL0 (ok__law_odd T) (hr.mono (by decide)) T.m__law_odd T.F__law_odd.kp T.b__law_odd rfl))))), ?_⟩
    exact ⟨.ref a, rfl, a, ns, rfl, hS, hlen, fun H' p c _ _ _ hpc e1 e2 => law_read hl hlen q (by rfl) hpc e1 e2⟩
end
end L2.Mir.W

set_option Elab.async false
set_option linter.all false
set_option maxRecDepth 100000
set_option maxHeartbeats 4000000
namespace L2.Mir.W
open PySem PySem.Spec PyProof.Rows
/-! what the top has written -/
theorem all_mk {l : PySem.W.OpenLaw} {w : World} {K : PySem.W.Frag} {h : Heap} {mg : Str → Option Value} {fa f0 f1 f2 f3 f4 f5 f6 f7 f8 f9 f10 f11 f12 f13 f14 f15 f16 f17 f18 f19 f20 f21 f22 f23 f24 f25 f26 f27 f28 f29 f30 f31 f32 f33 f34 f35 f36 f37 f38 f39 f40 f41 f42 f43 f44 f45 f46 f47 f48 f49 f50 f51 : Addr} {C0 : Addr} (X : K.In h) (G : h.Ns mainGlobals mg) (hfa : mg "law" = some (.ref fa))
    {od0 an0 : Option Addr} {sl0 : Array (Option Value)} {oc0 kV0 dc0 pm0 cd0 ct0 : Value}
    {od1 an1 : Option Addr} {sl1 : Array (Option Value)} {oc1 kV1 dc1 pm1 cd1 ct1 : Value}
    {od2 an2 : Option Addr} {sl2 : Array (Option Value)} {oc2 kV2 dc2 pm2 cd2 ct2 : Value}
    {od3 an3 : Option Addr} {sl3 : Array (Option Value)} {oc3 kV3 dc3 pm3 cd3 ct3 : Value}
    {od4 an4 : Option Addr} {sl4 : Array (Option Value)} {oc4 kV4 dc4 pm4 cd4 ct4 : Value}
    {od5 an5 : Option Addr} {sl5 : Array (Option Value)} {oc5 kV5 dc5 pm5 cd5 ct5 : Value}
    {od6 an6 : Option Addr} {sl6 : Array (Option Value)} {oc6 kV6 dc6 pm6 cd6 ct6 : Value}
    {od7 an7 : Option Addr} {sl7 : Array (Option Value)} {oc7 kV7 dc7 pm7 cd7 ct7 : Value}
    {od8 an8 : Option Addr} {sl8 : Array (Option Value)} {oc8 kV8 dc8 pm8 cd8 ct8 : Value}
    {od9 an9 : Option Addr} {sl9 : Array (Option Value)} {oc9 kV9 dc9 pm9 cd9 ct9 : Value}
    {od10 an10 : Option Addr} {sl10 : Array (Option Value)} {oc10 kV10 dc10 pm10 cd10 ct10 : Value}
    {od11 an11 : Option Addr} {sl11 : Array (Option Value)} {oc11 kV11 dc11 pm11 cd11 ct11 : Value}
    {od12 an12 : Option Addr} {sl12 : Array (Option Value)} {oc12 kV12 dc12 pm12 cd12 ct12 : Value}
    {od13 an13 : Option Addr} {sl13 : Array (Option Value)} {oc13 kV13 dc13 pm13 cd13 ct13 : Value}
    {od14 an14 : Option Addr} {sl14 : Array (Option Value)} {oc14 kV14 dc14 pm14 cd14 ct14 : Value}
    {od15 an15 : Option Addr} {sl15 : Array (Option Value)} {oc15 kV15 dc15 pm15 cd15 ct15 : Value}
    {od16 an16 : Option Addr} {sl16 : Array (Option Value)} {oc16 kV16 dc16 pm16 cd16 ct16 : Value}
    {od17 an17 : Option Addr} {sl17 : Array (Option Value)} {oc17 kV17 dc17 pm17 cd17 ct17 : Value}
    {od18 an18 : Option Addr} {sl18 : Array (Option Value)} {oc18 kV18 dc18 pm18 cd18 ct18 : Value}
    {od19 an19 : Option Addr} {sl19 : Array (Option Value)} {oc19 kV19 dc19 pm19 cd19 ct19 : Value}
    {od20 an20 : Option Addr} {sl20 : Array (Option Value)} {oc20 kV20 dc20 pm20 cd20 ct20 : Value}
    {od21 an21 : Option Addr} {sl21 : Array (Option Value)} {oc21 kV21 dc21 pm21 cd21 ct21 : Value}
    {od22 an22 : Option Addr} {sl22 : Array (Option Value)} {oc22 kV22 dc22 pm22 cd22 ct22 : Value}
    {od23 an23 : Option Addr} {sl23 : Array (Option Value)} {oc23 kV23 dc23 pm23 cd23 ct23 : Value}
    {od24 an24 : Option Addr} {sl24 : Array (Option Value)} {oc24 kV24 dc24 pm24 cd24 ct24 : Value}
    {od25 an25 : Option Addr} {sl25 : Array (Option Value)} {oc25 kV25 dc25 pm25 cd25 ct25 : Value}
    {od26 an26 : Option Addr} {sl26 : Array (Option Value)} {oc26 kV26 dc26 pm26 cd26 ct26 : Value}
    {od27 an27 : Option Addr} {sl27 : Array (Option Value)} {oc27 kV27 dc27 pm27 cd27 ct27 : Value}
    {od28 an28 : Option Addr} {sl28 : Array (Option Value)} {oc28 kV28 dc28 pm28 cd28 ct28 : Value}
    {od29 an29 : Option Addr} {sl29 : Array (Option Value)} {oc29 kV29 dc29 pm29 cd29 ct29 : Value}
    {od30 an30 : Option Addr} {sl30 : Array (Option Value)} {oc30 kV30 dc30 pm30 cd30 ct30 : Value}
    {od31 an31 : Option Addr} {sl31 : Array (Option Value)} {oc31 kV31 dc31 pm31 cd31 ct31 : Value}
    {od32 an32 : Option Addr} {sl32 : Array (Option Value)} {oc32 kV32 dc32 pm32 cd32 ct32 : Value}
    {od33 an33 : Option Addr} {sl33 : Array (Option Value)} {oc33 kV33 dc33 pm33 cd33 ct33 : Value}
    {od34 an34 : Option Addr} {sl34 : Array (Option Value)} {oc34 kV34 dc34 pm34 cd34 ct34 : Value}
    {od35 an35 : Option Addr} {sl35 : Array (Option Value)} {oc35 kV35 dc35 pm35 cd35 ct35 : Value}
    {od36 an36 : Option Addr} {sl36 : Array (Option Value)} {oc36 kV36 dc36 pm36 cd36 ct36 : Value}
    {od37 an37 : Option Addr} {sl37 : Array (Option Value)} {oc37 kV37 dc37 pm37 cd37 ct37 : Value}
    {od38 an38 : Option Addr} {sl38 : Array (Option Value)} {oc38 kV38 dc38 pm38 cd38 ct38 : Value}
    {od39 an39 : Option Addr} {sl39 : Array (Option Value)} {oc39 kV39 dc39 pm39 cd39 ct39 : Value}
    {od40 an40 : Option Addr} {sl40 : Array (Option Value)} {oc40 kV40 dc40 pm40 cd40 ct40 : Value}
    {od41 an41 : Option Addr} {sl41 : Array (Option Value)} {oc41 kV41 dc41 pm41 cd41 ct41 : Value}
    {od42 an42 : Option Addr} {sl42 : Array (Option Value)} {oc42 kV42 dc42 pm42 cd42 ct42 : Value}
    {od43 an43 : Option Addr} {sl43 : Array (Option Value)} {oc43 kV43 dc43 pm43 cd43 ct43 : Value}
    {od44 an44 : Option Addr} {sl44 : Array (Option Value)} {oc44 kV44 dc44 pm44 cd44 ct44 : Value}
    {od45 an45 : Option Addr} {sl45 : Array (Option Value)} {oc45 kV45 dc45 pm45 cd45 ct45 : Value}
    {od46 an46 : Option Addr} {sl46 : Array (Option Value)} {oc46 kV46 dc46 pm46 cd46 ct46 : Value}
    {od47 an47 : Option Addr} {sl47 : Array (Option Value)} {oc47 kV47 dc47 pm47 cd47 ct47 : Value}
    {od48 an48 : Option Addr} {sl48 : Array (Option Value)} {oc48 kV48 dc48 pm48 cd48 ct48 : Value}
    {od49 an49 : Option Addr} {sl49 : Array (Option Value)} {oc49 kV49 dc49 pm49 cd49 ct49 : Value}
    {od50 an50 : Option Addr} {sl50 : Array (Option Value)} {oc50 kV50 dc50 pm50 cd50 ct50 : Value}
    {od51 an51 : Option Addr} {sl51 : Array (Option Value)} {oc51 kV51 dc51 pm51 cd51 ct51 : Value}
    (a0 : PySem.W.nsIn K mainGlobals "divisor" = some (some (.ref f0))) (l0 : K.lookup f0 = some ⟨oc0, od0, .func (PySem.W.fnOf "divisor" "divisor" (defArgs s_divisor) (defBody s_divisor) (defScope s_divisor) .none kV0 dc0 pm0 an0 cd0 ct0), sl0⟩) (c0 : PySem.W.codeIn K cd0 "divisor" = true) (k0 : PySem.W.keepIn K (.ref f0) = true)
    (a1 : PySem.W.nsIn K mainGlobals "part" = some (some (.ref f1))) (l1 : K.lookup f1 = some ⟨oc1, od1, .func (PySem.W.fnOf "part" "part" (defArgs s_part) (defBody s_part) (defScope s_part) .none kV1 dc1 pm1 an1 cd1 ct1), sl1⟩) (c1 : PySem.W.codeIn K cd1 "part" = true) (k1 : PySem.W.keepIn K (.ref f1) = true)
    (a2 : PySem.W.nsIn K mainGlobals "is_part" = some (some (.ref f2))) (l2 : K.lookup f2 = some ⟨oc2, od2, .func (PySem.W.fnOf "is_part" "is_part" (defArgs s_is_part) (defBody s_is_part) (defScope s_is_part) .none kV2 dc2 pm2 an2 cd2 ct2), sl2⟩) (c2 : PySem.W.codeIn K cd2 "is_part" = true) (k2 : PySem.W.keepIn K (.ref f2) = true)
    (a3 : PySem.W.nsIn K mainGlobals "plus" = some (some (.ref f3))) (l3 : K.lookup f3 = some ⟨oc3, od3, .func (PySem.W.fnOf "plus" "plus" (defArgs s_plus) (defBody s_plus) (defScope s_plus) .none kV3 dc3 pm3 an3 cd3 ct3), sl3⟩) (c3 : PySem.W.codeIn K cd3 "plus" = true) (k3 : PySem.W.keepIn K (.ref f3) = true)
    (a4 : PySem.W.nsIn K mainGlobals "minus" = some (some (.ref f4))) (l4 : K.lookup f4 = some ⟨oc4, od4, .func (PySem.W.fnOf "minus" "minus" (defArgs s_minus) (defBody s_minus) (defScope s_minus) .none kV4 dc4 pm4 an4 cd4 ct4), sl4⟩) (c4 : PySem.W.codeIn K cd4 "minus" = true) (k4 : PySem.W.keepIn K (.ref f4) = true)
    (a5 : PySem.W.nsIn K mainGlobals "times" = some (some (.ref f5))) (l5 : K.lookup f5 = some ⟨oc5, od5, .func (PySem.W.fnOf "times" "times" (defArgs s_times) (defBody s_times) (defScope s_times) .none kV5 dc5 pm5 an5 cd5 ct5), sl5⟩) (c5 : PySem.W.codeIn K cd5 "times" = true) (k5 : PySem.W.keepIn K (.ref f5) = true)
    (a6 : PySem.W.nsIn K mainGlobals "over" = some (some (.ref f6))) (l6 : K.lookup f6 = some ⟨oc6, od6, .func (PySem.W.fnOf "over" "over" (defArgs s_over) (defBody s_over) (defScope s_over) .none kV6 dc6 pm6 an6 cd6 ct6), sl6⟩) (c6 : PySem.W.codeIn K cd6 "over" = true) (k6 : PySem.W.keepIn K (.ref f6) = true)
    (a7 : PySem.W.nsIn K mainGlobals "is_spot" = some (some (.ref f7))) (l7 : K.lookup f7 = some ⟨oc7, od7, .func (PySem.W.fnOf "is_spot" "is_spot" (defArgs s_is_spot) (defBody s_is_spot) (defScope s_is_spot) .none kV7 dc7 pm7 an7 cd7 ct7), sl7⟩) (c7 : PySem.W.codeIn K cd7 "is_spot" = true) (k7 : PySem.W.keepIn K (.ref f7) = true)
    (a8 : PySem.W.nsIn K mainGlobals "is_way" = some (some (.ref f8))) (l8 : K.lookup f8 = some ⟨oc8, od8, .func (PySem.W.fnOf "is_way" "is_way" (defArgs s_is_way) (defBody s_is_way) (defScope s_is_way) .none kV8 dc8 pm8 an8 cd8 ct8), sl8⟩) (c8 : PySem.W.codeIn K cd8 "is_way" = true) (k8 : PySem.W.keepIn K (.ref f8) = true)
    (a9 : PySem.W.nsIn K mainGlobals "dot" = some (some (.ref f9))) (l9 : K.lookup f9 = some ⟨oc9, od9, .func (PySem.W.fnOf "dot" "dot" (defArgs s_dot) (defBody s_dot) (defScope s_dot) .none kV9 dc9 pm9 an9 cd9 ct9), sl9⟩) (c9 : PySem.W.codeIn K cd9 "dot" = true) (k9 : PySem.W.keepIn K (.ref f9) = true)
    (a10 : PySem.W.nsIn K mainGlobals "crossed" = some (some (.ref f10))) (l10 : K.lookup f10 = some ⟨oc10, od10, .func (PySem.W.fnOf "crossed" "crossed" (defArgs s_crossed) (defBody s_crossed) (defScope s_crossed) .none kV10 dc10 pm10 an10 cd10 ct10), sl10⟩) (c10 : PySem.W.codeIn K cd10 "crossed" = true) (k10 : PySem.W.keepIn K (.ref f10) = true)
    (a11 : PySem.W.nsIn K mainGlobals "put" = some (some (.ref f11))) (l11 : K.lookup f11 = some ⟨oc11, od11, .func (PySem.W.fnOf "put" "put" (defArgs s_put) (defBody s_put) (defScope s_put) .none kV11 dc11 pm11 an11 cd11 ct11), sl11⟩) (c11 : PySem.W.codeIn K cd11 "put" = true) (k11 : PySem.W.keepIn K (.ref f11) = true)
    (a12 : PySem.W.nsIn K mainGlobals "less" = some (some (.ref f12))) (l12 : K.lookup f12 = some ⟨oc12, od12, .func (PySem.W.fnOf "less" "less" (defArgs s_less) (defBody s_less) (defScope s_less) .none kV12 dc12 pm12 an12 cd12 ct12), sl12⟩) (c12 : PySem.W.codeIn K cd12 "less" = true) (k12 : PySem.W.keepIn K (.ref f12) = true)
    (a13 : PySem.W.nsIn K mainGlobals "way_of" = some (some (.ref f13))) (l13 : K.lookup f13 = some ⟨oc13, od13, .func (PySem.W.fnOf "way_of" "way_of" (defArgs s_way_of) (defBody s_way_of) (defScope s_way_of) .none kV13 dc13 pm13 an13 cd13 ct13), sl13⟩) (c13 : PySem.W.codeIn K cd13 "way_of" = true) (k13 : PySem.W.keepIn K (.ref f13) = true)
    (a14 : PySem.W.nsIn K mainGlobals "turned" = some (some (.ref f14))) (l14 : K.lookup f14 = some ⟨oc14, od14, .func (PySem.W.fnOf "turned" "turned" (defArgs s_turned) (defBody s_turned) (defScope s_turned) .none kV14 dc14 pm14 an14 cd14 ct14), sl14⟩) (c14 : PySem.W.codeIn K cd14 "turned" = true) (k14 : PySem.W.keepIn K (.ref f14) = true)
    (a15 : PySem.W.nsIn K mainGlobals "second_length" = some (some (.ref f15))) (l15 : K.lookup f15 = some ⟨oc15, od15, .func (PySem.W.fnOf "second_length" "second_length" (defArgs s_second_length) (defBody s_second_length) (defScope s_second_length) .none kV15 dc15 pm15 an15 cd15 ct15), sl15⟩) (c15 : PySem.W.codeIn K cd15 "second_length" = true) (k15 : PySem.W.keepIn K (.ref f15) = true)
    (a16 : PySem.W.nsIn K mainGlobals "joint" = some (some (.ref f16))) (l16 : K.lookup f16 = some ⟨oc16, od16, .func (PySem.W.fnOf "joint" "joint" (defArgs s_joint) (defBody s_joint) (defScope s_joint) .none kV16 dc16 pm16 an16 cd16 ct16), sl16⟩) (c16 : PySem.W.codeIn K cd16 "joint" = true) (k16 : PySem.W.keepIn K (.ref f16) = true)
    (a17 : PySem.W.nsIn K mainGlobals "way_there" = some (some (.ref f17))) (l17 : K.lookup f17 = some ⟨oc17, od17, .func (PySem.W.fnOf "way_there" "way_there" (defArgs s_way_there) (defBody s_way_there) (defScope s_way_there) .none kV17 dc17 pm17 an17 cd17 ct17), sl17⟩) (c17 : PySem.W.codeIn K cd17 "way_there" = true) (k17 : PySem.W.keepIn K (.ref f17) = true)
    (a18 : PySem.W.nsIn K mainGlobals "middle" = some (some (.ref f18))) (l18 : K.lookup f18 = some ⟨oc18, od18, .func (PySem.W.fnOf "middle" "middle" (defArgs s_middle) (defBody s_middle) (defScope s_middle) .none kV18 dc18 pm18 an18 cd18 ct18), sl18⟩) (c18 : PySem.W.codeIn K cd18 "middle" = true) (k18 : PySem.W.keepIn K (.ref f18) = true)
    (a19 : PySem.W.nsIn K mainGlobals "bend" = some (some (.ref f19))) (l19 : K.lookup f19 = some ⟨oc19, od19, .func (PySem.W.fnOf "bend" "bend" (defArgs s_bend) (defBody s_bend) (defScope s_bend) .none kV19 dc19 pm19 an19 cd19 ct19), sl19⟩) (c19 : PySem.W.codeIn K cd19 "bend" = true) (k19 : PySem.W.keepIn K (.ref f19) = true)
    (a20 : PySem.W.nsIn K mainGlobals "way_at" = some (some (.ref f20))) (l20 : K.lookup f20 = some ⟨oc20, od20, .func (PySem.W.fnOf "way_at" "way_at" (defArgs s_way_at) (defBody s_way_at) (defScope s_way_at) .none kV20 dc20 pm20 an20 cd20 ct20), sl20⟩) (c20 : PySem.W.codeIn K cd20 "way_at" = true) (k20 : PySem.W.keepIn K (.ref f20) = true)
    (a21 : PySem.W.nsIn K mainGlobals "arcs" = some (some (.ref f21))) (l21 : K.lookup f21 = some ⟨oc21, od21, .func (PySem.W.fnOf "arcs" "arcs" (defArgs s_arcs) (defBody s_arcs) (defScope s_arcs) .none kV21 dc21 pm21 an21 cd21 ct21), sl21⟩) (c21 : PySem.W.codeIn K cd21 "arcs" = true) (k21 : PySem.W.keepIn K (.ref f21) = true)
    (a22 : PySem.W.nsIn K mainGlobals "goes_on" = some (some (.ref f22))) (l22 : K.lookup f22 = some ⟨oc22, od22, .func (PySem.W.fnOf "goes_on" "goes_on" (defArgs s_goes_on) (defBody s_goes_on) (defScope s_goes_on) .none kV22 dc22 pm22 an22 cd22 ct22), sl22⟩) (c22 : PySem.W.codeIn K cd22 "goes_on" = true) (k22 : PySem.W.keepIn K (.ref f22) = true)
    (a23 : PySem.W.nsIn K mainGlobals "joints_circle" = some (some (.ref f23))) (l23 : K.lookup f23 = some ⟨oc23, od23, .func (PySem.W.fnOf "joints_circle" "joints_circle" (defArgs s_joints_circle) (defBody s_joints_circle) (defScope s_joints_circle) .none kV23 dc23 pm23 an23 cd23 ct23), sl23⟩) (c23 : PySem.W.codeIn K cd23 "joints_circle" = true) (k23 : PySem.W.keepIn K (.ref f23) = true)
    (a24 : PySem.W.nsIn K mainGlobals "circle" = some (some (.ref f24))) (l24 : K.lookup f24 = some ⟨oc24, od24, .func (PySem.W.fnOf "circle" "circle" (defArgs s_circle) (defBody s_circle) (defScope s_circle) .none kV24 dc24 pm24 an24 cd24 ct24), sl24⟩) (c24 : PySem.W.codeIn K cd24 "circle" = true) (k24 : PySem.W.keepIn K (.ref f24) = true)
    (a25 : PySem.W.nsIn K mainGlobals "moved" = some (some (.ref f25))) (l25 : K.lookup f25 = some ⟨oc25, od25, .func (PySem.W.fnOf "moved" "moved" (defArgs s_moved) (defBody s_moved) (defScope s_moved) .none kV25 dc25 pm25 an25 cd25 ct25), sl25⟩) (c25 : PySem.W.codeIn K cd25 "moved" = true) (k25 : PySem.W.keepIn K (.ref f25) = true)
    (a26 : PySem.W.nsIn K mainGlobals "rotated" = some (some (.ref f26))) (l26 : K.lookup f26 = some ⟨oc26, od26, .func (PySem.W.fnOf "rotated" "rotated" (defArgs s_rotated) (defBody s_rotated) (defScope s_rotated) .none kV26 dc26 pm26 an26 cd26 ct26), sl26⟩) (c26 : PySem.W.codeIn K cd26 "rotated" = true) (k26 : PySem.W.keepIn K (.ref f26) = true)
    (a27 : PySem.W.nsIn K mainGlobals "turned_back" = some (some (.ref f27))) (l27 : K.lookup f27 = some ⟨oc27, od27, .func (PySem.W.fnOf "turned_back" "turned_back" (defArgs s_turned_back) (defBody s_turned_back) (defScope s_turned_back) .none kV27 dc27 pm27 an27 cd27 ct27), sl27⟩) (c27 : PySem.W.codeIn K cd27 "turned_back" = true) (k27 : PySem.W.keepIn K (.ref f27) = true)
    (a28 : PySem.W.nsIn K mainGlobals "is_on" = some (some (.ref f28))) (l28 : K.lookup f28 = some ⟨oc28, od28, .func (PySem.W.fnOf "is_on" "is_on" (defArgs s_is_on) (defBody s_is_on) (defScope s_is_on) .none kV28 dc28 pm28 an28 cd28 ct28), sl28⟩) (c28 : PySem.W.codeIn K cd28 "is_on" = true) (k28 : PySem.W.keepIn K (.ref f28) = true)
    (a29 : PySem.W.nsIn K mainGlobals "_law_state" = some (some (.ref f29))) (l29 : K.lookup f29 = some ⟨oc29, od29, .func (PySem.W.fnOf "_law_state" "_law_state" (defArgs s__law_state) (defBody s__law_state) (defScope s__law_state) .none kV29 dc29 pm29 an29 cd29 ct29), sl29⟩) (c29 : PySem.W.codeIn K cd29 "_law_state" = true) (k29 : PySem.W.keepIn K (.ref f29) = true)
    (a30 : PySem.W.nsIn K mainGlobals "_law_take" = some (some (.ref f30))) (l30 : K.lookup f30 = some ⟨oc30, od30, .func (PySem.W.fnOf "_law_take" "_law_take" (defArgs s__law_take) (defBody s__law_take) (defScope s__law_take) .none kV30 dc30 pm30 an30 cd30 ct30), sl30⟩) (c30 : PySem.W.codeIn K cd30 "_law_take" = true) (k30 : PySem.W.keepIn K (.ref f30) = true)
    (a31 : PySem.W.nsIn K mainGlobals "_law_part" = some (some (.ref f31))) (l31 : K.lookup f31 = some ⟨oc31, od31, .func (PySem.W.fnOf "_law_part" "_law_part" (defArgs s__law_part) (defBody s__law_part) (defScope s__law_part) .none kV31 dc31 pm31 an31 cd31 ct31), sl31⟩) (c31 : PySem.W.codeIn K cd31 "_law_part" = true) (k31 : PySem.W.keepIn K (.ref f31) = true)
    (a32 : PySem.W.nsIn K mainGlobals "_law_add" = some (some (.ref f32))) (l32 : K.lookup f32 = some ⟨oc32, od32, .func (PySem.W.fnOf "_law_add" "_law_add" (defArgs s__law_add) (defBody s__law_add) (defScope s__law_add) .none kV32 dc32 pm32 an32 cd32 ct32), sl32⟩) (c32 : PySem.W.codeIn K cd32 "_law_add" = true) (k32 : PySem.W.keepIn K (.ref f32) = true)
    (a33 : PySem.W.nsIn K mainGlobals "_law_mul" = some (some (.ref f33))) (l33 : K.lookup f33 = some ⟨oc33, od33, .func (PySem.W.fnOf "_law_mul" "_law_mul" (defArgs s__law_mul) (defBody s__law_mul) (defScope s__law_mul) .none kV33 dc33 pm33 an33 cd33 ct33), sl33⟩) (c33 : PySem.W.codeIn K cd33 "_law_mul" = true) (k33 : PySem.W.keepIn K (.ref f33) = true)
    (a34 : PySem.W.nsIn K mainGlobals "_law_neg" = some (some (.ref f34))) (l34 : K.lookup f34 = some ⟨oc34, od34, .func (PySem.W.fnOf "_law_neg" "_law_neg" (defArgs s__law_neg) (defBody s__law_neg) (defScope s__law_neg) .none kV34 dc34 pm34 an34 cd34 ct34), sl34⟩) (c34 : PySem.W.codeIn K cd34 "_law_neg" = true) (k34 : PySem.W.keepIn K (.ref f34) = true)
    (a35 : PySem.W.nsIn K mainGlobals "_law_over" = some (some (.ref f35))) (l35 : K.lookup f35 = some ⟨oc35, od35, .func (PySem.W.fnOf "_law_over" "_law_over" (defArgs s__law_over) (defBody s__law_over) (defScope s__law_over) .none kV35 dc35 pm35 an35 cd35 ct35), sl35⟩) (c35 : PySem.W.codeIn K cd35 "_law_over" = true) (k35 : PySem.W.keepIn K (.ref f35) = true)
    (a36 : PySem.W.nsIn K mainGlobals "_law_fraction" = some (some (.ref f36))) (l36 : K.lookup f36 = some ⟨oc36, od36, .func (PySem.W.fnOf "_law_fraction" "_law_fraction" (defArgs s__law_fraction) (defBody s__law_fraction) (defScope s__law_fraction) .none kV36 dc36 pm36 an36 cd36 ct36), sl36⟩) (c36 : PySem.W.codeIn K cd36 "_law_fraction" = true) (k36 : PySem.W.keepIn K (.ref f36) = true)
    (a37 : PySem.W.nsIn K mainGlobals "_law_minus" = some (some (.ref f37))) (l37 : K.lookup f37 = some ⟨oc37, od37, .func (PySem.W.fnOf "_law_minus" "_law_minus" (defArgs s__law_minus) (defBody s__law_minus) (defScope s__law_minus) .none kV37 dc37 pm37 an37 cd37 ct37), sl37⟩) (c37 : PySem.W.codeIn K cd37 "_law_minus" = true) (k37 : PySem.W.keepIn K (.ref f37) = true)
    (a38 : PySem.W.nsIn K mainGlobals "_law_dot" = some (some (.ref f38))) (l38 : K.lookup f38 = some ⟨oc38, od38, .func (PySem.W.fnOf "_law_dot" "_law_dot" (defArgs s__law_dot) (defBody s__law_dot) (defScope s__law_dot) .none kV38 dc38 pm38 an38 cd38 ct38), sl38⟩) (c38 : PySem.W.codeIn K cd38 "_law_dot" = true) (k38 : PySem.W.keepIn K (.ref f38) = true)
    (a39 : PySem.W.nsIn K mainGlobals "_law_cross" = some (some (.ref f39))) (l39 : K.lookup f39 = some ⟨oc39, od39, .func (PySem.W.fnOf "_law_cross" "_law_cross" (defArgs s__law_cross) (defBody s__law_cross) (defScope s__law_cross) .none kV39 dc39 pm39 an39 cd39 ct39), sl39⟩) (c39 : PySem.W.codeIn K cd39 "_law_cross" = true) (k39 : PySem.W.keepIn K (.ref f39) = true)
    (a40 : PySem.W.nsIn K mainGlobals "_law_put" = some (some (.ref f40))) (l40 : K.lookup f40 = some ⟨oc40, od40, .func (PySem.W.fnOf "_law_put" "_law_put" (defArgs s__law_put) (defBody s__law_put) (defScope s__law_put) .none kV40 dc40 pm40 an40 cd40 ct40), sl40⟩) (c40 : PySem.W.codeIn K cd40 "_law_put" = true) (k40 : PySem.W.keepIn K (.ref f40) = true)
    (a41 : PySem.W.nsIn K mainGlobals "_law_way" = some (some (.ref f41))) (l41 : K.lookup f41 = some ⟨oc41, od41, .func (PySem.W.fnOf "_law_way" "_law_way" (defArgs s__law_way) (defBody s__law_way) (defScope s__law_way) .none kV41 dc41 pm41 an41 cd41 ct41), sl41⟩) (c41 : PySem.W.codeIn K cd41 "_law_way" = true) (k41 : PySem.W.keepIn K (.ref f41) = true)
    (a42 : PySem.W.nsIn K mainGlobals "_law_spot" = some (some (.ref f42))) (l42 : K.lookup f42 = some ⟨oc42, od42, .func (PySem.W.fnOf "_law_spot" "_law_spot" (defArgs s__law_spot) (defBody s__law_spot) (defScope s__law_spot) .none kV42 dc42 pm42 an42 cd42 ct42), sl42⟩) (c42 : PySem.W.codeIn K cd42 "_law_spot" = true) (k42 : PySem.W.keepIn K (.ref f42) = true)
    (a43 : PySem.W.nsIn K mainGlobals "_law_word" = some (some (.ref f43))) (l43 : K.lookup f43 = some ⟨oc43, od43, .func (PySem.W.fnOf "_law_word" "_law_word" (defArgs s__law_word) (defBody s__law_word) (defScope s__law_word) .none kV43 dc43 pm43 an43 cd43 ct43), sl43⟩) (c43 : PySem.W.codeIn K cd43 "_law_word" = true) (k43 : PySem.W.keepIn K (.ref f43) = true)
    (a44 : PySem.W.nsIn K mainGlobals "_law_pairs" = some (some (.ref f44))) (l44 : K.lookup f44 = some ⟨oc44, od44, .func (PySem.W.fnOf "_law_pairs" "_law_pairs" (defArgs s__law_pairs) (defBody s__law_pairs) (defScope s__law_pairs) .none kV44 dc44 pm44 an44 cd44 ct44), sl44⟩) (c44 : PySem.W.codeIn K cd44 "_law_pairs" = true) (k44 : PySem.W.keepIn K (.ref f44) = true)
    (a45 : PySem.W.nsIn K mainGlobals "_law_single" = some (some (.ref f45))) (l45 : K.lookup f45 = some ⟨oc45, od45, .func (PySem.W.fnOf "_law_single" "_law_single" (defArgs s__law_single) (defBody s__law_single) (defScope s__law_single) .none kV45 dc45 pm45 an45 cd45 ct45), sl45⟩) (c45 : PySem.W.codeIn K cd45 "_law_single" = true) (k45 : PySem.W.keepIn K (.ref f45) = true)
    (a46 : PySem.W.nsIn K mainGlobals "_law_two" = some (some (.ref f46))) (l46 : K.lookup f46 = some ⟨oc46, od46, .func (PySem.W.fnOf "_law_two" "_law_two" (defArgs s__law_two) (defBody s__law_two) (defScope s__law_two) .none kV46 dc46 pm46 an46 cd46 ct46), sl46⟩) (c46 : PySem.W.codeIn K cd46 "_law_two" = true) (k46 : PySem.W.keepIn K (.ref f46) = true)
    (a47 : PySem.W.nsIn K mainGlobals "_law_circles" = some (some (.ref f47))) (l47 : K.lookup f47 = some ⟨oc47, od47, .func (PySem.W.fnOf "_law_circles" "_law_circles" (defArgs s__law_circles) (defBody s__law_circles) (defScope s__law_circles) .none kV47 dc47 pm47 an47 cd47 ct47), sl47⟩) (c47 : PySem.W.codeIn K cd47 "_law_circles" = true) (k47 : PySem.W.keepIn K (.ref f47) = true)
    (a48 : PySem.W.nsIn K mainGlobals "_law_round" = some (some (.ref f48))) (l48 : K.lookup f48 = some ⟨oc48, od48, .func (PySem.W.fnOf "_law_round" "_law_round" (defArgs s__law_round) (defBody s__law_round) (defScope s__law_round) .none kV48 dc48 pm48 an48 cd48 ct48), sl48⟩) (c48 : PySem.W.codeIn K cd48 "_law_round" = true) (k48 : PySem.W.keepIn K (.ref f48) = true)
    (a49 : PySem.W.nsIn K mainGlobals "_law_joint" = some (some (.ref f49))) (l49 : K.lookup f49 = some ⟨oc49, od49, .func (PySem.W.fnOf "_law_joint" "_law_joint" (defArgs s__law_joint) (defBody s__law_joint) (defScope s__law_joint) .none kV49 dc49 pm49 an49 cd49 ct49), sl49⟩) (c49 : PySem.W.codeIn K cd49 "_law_joint" = true) (k49 : PySem.W.keepIn K (.ref f49) = true)
    (a50 : PySem.W.nsIn K mainGlobals "_law_odd" = some (some (.ref f50))) (l50 : K.lookup f50 = some ⟨oc50, od50, .func (PySem.W.fnOf "_law_odd" "_law_odd" (defArgs s__law_odd) (defBody s__law_odd) (defScope s__law_odd) .none kV50 dc50 pm50 an50 cd50 ct50), sl50⟩) (c50 : PySem.W.codeIn K cd50 "_law_odd" = true) (k50 : PySem.W.keepIn K (.ref f50) = true)
    (a51 : PySem.W.nsIn K mainGlobals "law" = some (some (.ref f51))) (l51 : K.lookup f51 = some ⟨oc51, od51, .func (PySem.W.fnOf "law" "law" (defArgs s_law) (defBody s_law) (defScope s_law) .none kV51 dc51 pm51 an51 cd51 ct51), sl51⟩) (c51 : PySem.W.codeIn K cd51 "law" = true) (k51 : PySem.W.keepIn K (.ref f51) = true)
    (z_abs : PySem.W.nsIn K mainGlobals "abs" = some none)
    (z_all : PySem.W.nsIn K mainGlobals "all" = some none)
    (z_bool : PySem.W.nsIn K mainGlobals "bool" = some none)
    (z_int : PySem.W.nsIn K mainGlobals "int" = some none)
    (z_isinstance : PySem.W.nsIn K mainGlobals "isinstance" = some none)
    (z_len : PySem.W.nsIn K mainGlobals "len" = some none)
    (z_range : PySem.W.nsIn K mainGlobals "range" = some none)
    (z_tuple : PySem.W.nsIn K mainGlobals "tuple" = some none)
    {nmC0 qC0 : Str} {NC0 : Addr} {bsC0 bmC0 : List Value} {snC0 : List Str} {subC0 : List Value} {abC0 : Bool} {colC0 : Option Bool} {ddC0 : Option Addr} {m0C0 m1C0 m2C0 m3C0 m5C0 : Option Value}
    {fIC0 ccC0 cdaC0 : Addr} {ocC0 : Value} {odC0 anC0 : Option Addr} {kVC0 dcC0 pmC0 ctC0 : Value} {slC0 : Array (Option Value)} {cclC0 : Value} {cddC0 : Option Addr} {vsC0 : Array Value} {ccsC0 : Array (Option Value)} {clC0 : Value} {cldC0 : Option Addr} {cslC0 : Array (Option Value)} {fileC0 : Str} {tfC0 : Tok}
    (gC0 : PySem.W.nsIn K mainGlobals "Misstep" = some (some (.ref C0))) (xLC0 : K.lookup C0 = some (excClassObj nmC0 qC0 C0 NC0 bsC0 bmC0 true snC0 subC0 abC0 colC0 ddC0 m0C0 m1C0 m2C0 m3C0 m5C0 "ValueError.__new__")) (hbC0 : PySem.HandSPX.refsVE bmC0 = true)
    (saC0 : PySem.W.findIn K (.ref C0) "__setattr__" = some (some (.builtin "object.__setattr__"))) (gaC0 : PySem.W.findIn K (.ref C0) "__getattribute__" = some (some (.builtin "BaseException.__getattribute__"))) (ggC0 : PySem.W.findIn K (.ref C0) "__getattr__" = some none) (nbC0 : PySem.W.findIn K (.ref C0) "word" = some none)
    (a1C0 : PySem.W.findIn K (.ref C0) "__init__" = some (some (.ref fIC0))) (t1C0 : PySem.W.typeIn K (.ref fIC0) = some (.type "function"))
    (l1C0 : K.lookup fIC0 = some ⟨ocC0, odC0, .func (PySem.W.ksFn "__init__" "Misstep.__init__" (defArgs c_Misstep) (defBody c_Misstep) (defScope c_Misstep) .none kVC0 dcC0 pmC0 anC0 (.ref cdaC0) ctC0 ccC0), slC0⟩) (c1C0 : PySem.W.codeIn K (.ref cdaC0) "Misstep.__init__" = true)
    (lDC0 : K.lookup cdaC0 = some ⟨cclC0, cddC0, .fields vsC0, ccsC0⟩) (iFC0 : vsC0[2]? = some (.str fileC0 tfC0)) (iMC0 : ((l.prog.main.file : Str) == fileC0) = true) (lXC0 : K.lookup ccC0 = some ⟨clC0, cldC0, .cell (some (.ref C0)), cslC0⟩)
    (spC0 : PySem.W.ks_superIn K C0 C0 "__init__" = some (some (.builtin "ValueError.__init__"))) (veC0 : PySem.W.subIn K (.ref C0) (.type "ValueError") = some true) (meC0 : PySem.W.mroIn K C0 (.ref C0) = some true) (tpC0 : PySem.W.nsIn K cStatics "thirdparty.any" = some none)
    (topC0 : (l.prog.main.scope.names.lookup ("super" : Str)).isSome = false)
    (kCC0 : PySem.W.keepIn K (.ref C0) = true) (eCC0 : PySem.W.subIn K (.ref C0) (.type "BaseException") = some true) (tCC0 : PySem.W.typeIn K (.ref C0) = some (.type "type")) (hCC0 : PySem.W.hasDictIn K C0 = true) (iCC0 : PySem.W.isClsIn K C0 = true) (sCC0 : PySem.W.subIn K (.ref C0) (.ref C0) = some true)
    (z_super : PySem.W.nsIn K mainGlobals "super" = some none)
    (hl : lawOk 9 1 m_law) :
    ∃ fd : FuncData, (∀ (s : Shared) (v : Value), BindsTo s fd ⟨[v], []⟩ [("script", v)]) ∧ ∀ base : Heap, K.In base → base.Ns mainGlobals mg → FnOk l.prog w K mg base CX0 13 fa fd ["script"] (spLaw K) := by
  have e := hfa.symm.trans (PySem.W.mg_of X G a51)
  cases e
  obtain ⟨fd0, F0, b0⟩ : ∃ fd, Fun K "divisor" "divisor" s_divisor f0 fd ∧ Binds K fd ["one", "other"] [] := ⟨_, fun_mk (st := s_divisor) l0 c0 k0, (fun_mk (st := s_divisor) l0 c0 k0).binds (ps := ["one", "other"]) fun _ _ _ _ _ _ us hl => match us, hl with | [_, _], _ => rfl⟩
  clear l0 c0 k0
  obtain ⟨fd1, F1, b1⟩ : ∃ fd, Fun K "part" "part" s_part f1 fd ∧ Binds K fd ["above", "below"] [] := ⟨_, fun_mk (st := s_part) l1 c1 k1, (fun_mk (st := s_part) l1 c1 k1).binds (ps := ["above", "below"]) fun _ _ _ _ _ _ us hl => match us, hl with | [_, _], _ => rfl⟩
  clear l1 c1 k1
  obtain ⟨fd2, F2, b2⟩ : ∃ fd, Fun K "is_part" "is_part" s_is_part f2 fd ∧ Binds K fd ["value"] [] := ⟨_, fun_mk (st := s_is_part) l2 c2 k2, (fun_mk (st := s_is_part) l2 c2 k2).binds (ps := ["value"]) fun _ _ _ _ _ _ us hl => match us, hl with | [_], _ => rfl⟩
  clear l2 c2 k2
  obtain ⟨fd3, F3, b3⟩ : ∃ fd, Fun K "plus" "plus" s_plus f3 fd ∧ Binds K fd ["one", "other"] [] := ⟨_, fun_mk (st := s_plus) l3 c3 k3, (fun_mk (st := s_plus) l3 c3 k3).binds (ps := ["one", "other"]) fun _ _ _ _ _ _ us hl => match us, hl with | [_, _], _ => rfl⟩
  clear l3 c3 k3
  obtain ⟨fd4, F4, b4⟩ : ∃ fd, Fun K "minus" "minus" s_minus f4 fd ∧ Binds K fd ["one", "other"] [] := ⟨_, fun_mk (st := s_minus) l4 c4 k4, (fun_mk (st := s_minus) l4 c4 k4).binds (ps := ["one", "other"]) fun _ _ _ _ _ _ us hl => match us, hl with | [_, _], _ => rfl⟩
  clear l4 c4 k4
  obtain ⟨fd5, F5, b5⟩ : ∃ fd, Fun K "times" "times" s_times f5 fd ∧ Binds K fd ["one", "other"] [] := ⟨_, fun_mk (st := s_times) l5 c5 k5, (fun_mk (st := s_times) l5 c5 k5).binds (ps := ["one", "other"]) fun _ _ _ _ _ _ us hl => match us, hl with | [_, _], _ => rfl⟩
  clear l5 c5 k5
  obtain ⟨fd6, F6, b6⟩ : ∃ fd, Fun K "over" "over" s_over f6 fd ∧ Binds K fd ["one", "other"] [] := ⟨_, fun_mk (st := s_over) l6 c6 k6, (fun_mk (st := s_over) l6 c6 k6).binds (ps := ["one", "other"]) fun _ _ _ _ _ _ us hl => match us, hl with | [_, _], _ => rfl⟩
  clear l6 c6 k6
  obtain ⟨fd7, F7, b7⟩ : ∃ fd, Fun K "is_spot" "is_spot" s_is_spot f7 fd ∧ Binds K fd ["value"] [] := ⟨_, fun_mk (st := s_is_spot) l7 c7 k7, (fun_mk (st := s_is_spot) l7 c7 k7).binds (ps := ["value"]) fun _ _ _ _ _ _ us hl => match us, hl with | [_], _ => rfl⟩
  clear l7 c7 k7
  obtain ⟨fd8, F8, b8⟩ : ∃ fd, Fun K "is_way" "is_way" s_is_way f8 fd ∧ Binds K fd ["value"] [] := ⟨_, fun_mk (st := s_is_way) l8 c8 k8, (fun_mk (st := s_is_way) l8 c8 k8).binds (ps := ["value"]) fun _ _ _ _ _ _ us hl => match us, hl with | [_], _ => rfl⟩
  clear l8 c8 k8
  obtain ⟨fd9, F9, b9⟩ : ∃ fd, Fun K "dot" "dot" s_dot f9 fd ∧ Binds K fd ["one", "other"] [] := ⟨_, fun_mk (st := s_dot) l9 c9 k9, (fun_mk (st := s_dot) l9 c9 k9).binds (ps := ["one", "other"]) fun _ _ _ _ _ _ us hl => match us, hl with | [_, _], _ => rfl⟩
  clear l9 c9 k9
  obtain ⟨fd10, F10, b10⟩ : ∃ fd, Fun K "crossed" "crossed" s_crossed f10 fd ∧ Binds K fd ["one", "other"] [] := ⟨_, fun_mk (st := s_crossed) l10 c10 k10, (fun_mk (st := s_crossed) l10 c10 k10).binds (ps := ["one", "other"]) fun _ _ _ _ _ _ us hl => match us, hl with | [_, _], _ => rfl⟩
  clear l10 c10 k10
  obtain ⟨fd11, F11, b11⟩ : ∃ fd, Fun K "put" "put" s_put f11 fd ∧ Binds K fd ["one", "other", "factor"] [] := ⟨_, fun_mk (st := s_put) l11 c11 k11, (fun_mk (st := s_put) l11 c11 k11).binds (ps := ["one", "other", "factor"]) fun _ _ _ _ _ _ us hl => match us, hl with | [_, _, _], _ => rfl⟩
  clear l11 c11 k11
  obtain ⟨fd12, F12, b12⟩ : ∃ fd, Fun K "less" "less" s_less f12 fd ∧ Binds K fd ["one", "other"] [] := ⟨_, fun_mk (st := s_less) l12 c12 k12, (fun_mk (st := s_less) l12 c12 k12).binds (ps := ["one", "other"]) fun _ _ _ _ _ _ us hl => match us, hl with | [_, _], _ => rfl⟩
  clear l12 c12 k12
  obtain ⟨fd13, F13, b13⟩ : ∃ fd, Fun K "way_of" "way_of" s_way_of f13 fd ∧ Binds K fd ["half"] [] := ⟨_, fun_mk (st := s_way_of) l13 c13 k13, (fun_mk (st := s_way_of) l13 c13 k13).binds (ps := ["half"]) fun _ _ _ _ _ _ us hl => match us, hl with | [_], _ => rfl⟩
  clear l13 c13 k13
  obtain ⟨fd14, F14, b14⟩ : ∃ fd, Fun K "turned" "turned" s_turned f14 fd ∧ Binds K fd ["way"] [] := ⟨_, fun_mk (st := s_turned) l14 c14 k14, (fun_mk (st := s_turned) l14 c14 k14).binds (ps := ["way"]) fun _ _ _ _ _ _ us hl => match us, hl with | [_], _ => rfl⟩
  clear l14 c14 k14
  obtain ⟨fd15, F15, b15⟩ : ∃ fd, Fun K "second_length" "second_length" s_second_length f15 fd ∧ Binds K fd ["first", "way", "last", "end", "length"] [] := ⟨_, fun_mk (st := s_second_length) l15 c15 k15, (fun_mk (st := s_second_length) l15 c15 k15).binds (ps := ["first", "way", "last", "end", "length"]) fun _ _ _ _ _ _ us hl => match us, hl with | [_, _, _, _, _], _ => rfl⟩
  clear l15 c15 k15
  obtain ⟨fd16, F16, b16⟩ : ∃ fd, Fun K "joint" "joint" s_joint f16 fd ∧ Binds K fd ["first", "way", "last", "end", "length"] [] := ⟨_, fun_mk (st := s_joint) l16 c16 k16, (fun_mk (st := s_joint) l16 c16 k16).binds (ps := ["first", "way", "last", "end", "length"]) fun _ _ _ _ _ _ us hl => match us, hl with | [_, _, _, _, _], _ => rfl⟩
  clear l16 c16 k16
  obtain ⟨fd17, F17, b17⟩ : ∃ fd, Fun K "way_there" "way_there" s_way_there f17 fd ∧ Binds K fd ["first", "way", "last", "end", "length"] [] := ⟨_, fun_mk (st := s_way_there) l17 c17 k17, (fun_mk (st := s_way_there) l17 c17 k17).binds (ps := ["first", "way", "last", "end", "length"]) fun _ _ _ _ _ _ us hl => match us, hl with | [_, _, _, _, _], _ => rfl⟩
  clear l17 c17 k17
  obtain ⟨fd18, F18, b18⟩ : ∃ fd, Fun K "middle" "middle" s_middle f18 fd ∧ Binds K fd ["spot", "way", "other"] [] := ⟨_, fun_mk (st := s_middle) l18 c18 k18, (fun_mk (st := s_middle) l18 c18 k18).binds (ps := ["spot", "way", "other"]) fun _ _ _ _ _ _ us hl => match us, hl with | [_, _, _], _ => rfl⟩
  clear l18 c18 k18
  obtain ⟨fd19, F19, b19⟩ : ∃ fd, Fun K "bend" "bend" s_bend f19 fd ∧ Binds K fd ["spot", "way", "other"] [] := ⟨_, fun_mk (st := s_bend) l19 c19 k19, (fun_mk (st := s_bend) l19 c19 k19).binds (ps := ["spot", "way", "other"]) fun _ _ _ _ _ _ us hl => match us, hl with | [_, _, _], _ => rfl⟩
  clear l19 c19 k19
  obtain ⟨fd20, F20, b20⟩ : ∃ fd, Fun K "way_at" "way_at" s_way_at f20 fd ∧ Binds K fd ["spot", "way", "other"] [] := ⟨_, fun_mk (st := s_way_at) l20 c20 k20, (fun_mk (st := s_way_at) l20 c20 k20).binds (ps := ["spot", "way", "other"]) fun _ _ _ _ _ _ us hl => match us, hl with | [_, _, _], _ => rfl⟩
  clear l20 c20 k20
  obtain ⟨fd21, F21, b21⟩ : ∃ fd, Fun K "arcs" "arcs" s_arcs f21 fd ∧ Binds K fd ["first", "way", "last", "end", "length"] [] := ⟨_, fun_mk (st := s_arcs) l21 c21 k21, (fun_mk (st := s_arcs) l21 c21 k21).binds (ps := ["first", "way", "last", "end", "length"]) fun _ _ _ _ _ _ us hl => match us, hl with | [_, _, _, _, _], _ => rfl⟩
  clear l21 c21 k21
  obtain ⟨fd22, F22, b22⟩ : ∃ fd, Fun K "goes_on" "goes_on" s_goes_on f22 fd ∧ Binds K fd ["first", "way", "last", "end", "length"] [] := ⟨_, fun_mk (st := s_goes_on) l22 c22 k22, (fun_mk (st := s_goes_on) l22 c22 k22).binds (ps := ["first", "way", "last", "end", "length"]) fun _ _ _ _ _ _ us hl => match us, hl with | [_, _, _, _, _], _ => rfl⟩
  clear l22 c22 k22
  obtain ⟨fd23, F23, b23⟩ : ∃ fd, Fun K "joints_circle" "joints_circle" s_joints_circle f23 fd ∧ Binds K fd ["first", "way", "last", "end"] [] := ⟨_, fun_mk (st := s_joints_circle) l23 c23 k23, (fun_mk (st := s_joints_circle) l23 c23 k23).binds (ps := ["first", "way", "last", "end"]) fun _ _ _ _ _ _ us hl => match us, hl with | [_, _, _, _], _ => rfl⟩
  clear l23 c23 k23
  obtain ⟨fd24, F24, b24⟩ : ∃ fd, Fun K "circle" "circle" s_circle f24 fd ∧ Binds K fd ["one", "two", "three"] [] := ⟨_, fun_mk (st := s_circle) l24 c24 k24, (fun_mk (st := s_circle) l24 c24 k24).binds (ps := ["one", "two", "three"]) fun _ _ _ _ _ _ us hl => match us, hl with | [_, _, _], _ => rfl⟩
  clear l24 c24 k24
  obtain ⟨fd25, F25, b25⟩ : ∃ fd, Fun K "moved" "moved" s_moved f25 fd ∧ Binds K fd ["arc", "table", "shift"] [] := ⟨_, fun_mk (st := s_moved) l25 c25 k25, (fun_mk (st := s_moved) l25 c25 k25).binds (ps := ["arc", "table", "shift"]) fun _ _ _ _ _ _ us hl => match us, hl with | [_, _, _], _ => rfl⟩
  clear l25 c25 k25
  obtain ⟨fd26, F26, b26⟩ : ∃ fd, Fun K "rotated" "rotated" s_rotated f26 fd ∧ Binds K fd ["spot", "table"] [] := ⟨_, fun_mk (st := s_rotated) l26 c26 k26, (fun_mk (st := s_rotated) l26 c26 k26).binds (ps := ["spot", "table"]) fun _ _ _ _ _ _ us hl => match us, hl with | [_, _], _ => rfl⟩
  clear l26 c26 k26
  obtain ⟨fd27, F27, b27⟩ : ∃ fd, Fun K "turned_back" "turned_back" s_turned_back f27 fd ∧ Binds K fd ["arc"] [] := ⟨_, fun_mk (st := s_turned_back) l27 c27 k27, (fun_mk (st := s_turned_back) l27 c27 k27).binds (ps := ["arc"]) fun _ _ _ _ _ _ us hl => match us, hl with | [_], _ => rfl⟩
  clear l27 c27 k27
  obtain ⟨fd28, F28, b28⟩ : ∃ fd, Fun K "is_on" "is_on" s_is_on f28 fd ∧ Binds K fd ["arc", "spot"] [] := ⟨_, fun_mk (st := s_is_on) l28 c28 k28, (fun_mk (st := s_is_on) l28 c28 k28).binds (ps := ["arc", "spot"]) fun _ _ _ _ _ _ us hl => match us, hl with | [_, _], _ => rfl⟩
  clear l28 c28 k28
  obtain ⟨fd29, F29, b29⟩ : ∃ fd, Fun K "_law_state" "_law_state" s__law_state f29 fd ∧ Binds K fd ["script"] [] := ⟨_, fun_mk (st := s__law_state) l29 c29 k29, (fun_mk (st := s__law_state) l29 c29 k29).binds (ps := ["script"]) fun _ _ _ _ _ _ us hl => match us, hl with | [_], _ => rfl⟩
  clear l29 c29 k29
  obtain ⟨fd30, F30, b30⟩ : ∃ fd, Fun K "_law_take" "_law_take" s__law_take f30 fd ∧ Binds K fd ["state", "most"] [] := ⟨_, fun_mk (st := s__law_take) l30 c30 k30, (fun_mk (st := s__law_take) l30 c30 k30).binds (ps := ["state", "most"]) fun _ _ _ _ _ _ us hl => match us, hl with | [_, _], _ => rfl⟩
  clear l30 c30 k30
  obtain ⟨fd31, F31, b31⟩ : ∃ fd, Fun K "_law_part" "_law_part" s__law_part f31 fd ∧ Binds K fd ["above", "below"] [] := ⟨_, fun_mk (st := s__law_part) l31 c31 k31, (fun_mk (st := s__law_part) l31 c31 k31).binds (ps := ["above", "below"]) fun _ _ _ _ _ _ us hl => match us, hl with | [_, _], _ => rfl⟩
  clear l31 c31 k31
  obtain ⟨fd32, F32, b32⟩ : ∃ fd, Fun K "_law_add" "_law_add" s__law_add f32 fd ∧ Binds K fd ["one", "other"] [] := ⟨_, fun_mk (st := s__law_add) l32 c32 k32, (fun_mk (st := s__law_add) l32 c32 k32).binds (ps := ["one", "other"]) fun _ _ _ _ _ _ us hl => match us, hl with | [_, _], _ => rfl⟩
  clear l32 c32 k32
  obtain ⟨fd33, F33, b33⟩ : ∃ fd, Fun K "_law_mul" "_law_mul" s__law_mul f33 fd ∧ Binds K fd ["one", "other"] [] := ⟨_, fun_mk (st := s__law_mul) l33 c33 k33, (fun_mk (st := s__law_mul) l33 c33 k33).binds (ps := ["one", "other"]) fun _ _ _ _ _ _ us hl => match us, hl with | [_, _], _ => rfl⟩
  clear l33 c33 k33
  obtain ⟨fd34, F34, b34⟩ : ∃ fd, Fun K "_law_neg" "_law_neg" s__law_neg f34 fd ∧ Binds K fd ["one"] [] := ⟨_, fun_mk (st := s__law_neg) l34 c34 k34, (fun_mk (st := s__law_neg) l34 c34 k34).binds (ps := ["one"]) fun _ _ _ _ _ _ us hl => match us, hl with | [_], _ => rfl⟩
  clear l34 c34 k34
  obtain ⟨fd35, F35, b35⟩ : ∃ fd, Fun K "_law_over" "_law_over" s__law_over f35 fd ∧ Binds K fd ["one", "other"] [] := ⟨_, fun_mk (st := s__law_over) l35 c35 k35, (fun_mk (st := s__law_over) l35 c35 k35).binds (ps := ["one", "other"]) fun _ _ _ _ _ _ us hl => match us, hl with | [_, _], _ => rfl⟩
  clear l35 c35 k35
  obtain ⟨fd36, F36, b36⟩ : ∃ fd, Fun K "_law_fraction" "_law_fraction" s__law_fraction f36 fd ∧ Binds K fd ["state", "most"] [] := ⟨_, fun_mk (st := s__law_fraction) l36 c36 k36, (fun_mk (st := s__law_fraction) l36 c36 k36).binds (ps := ["state", "most"]) fun _ _ _ _ _ _ us hl => match us, hl with | [_, _], _ => rfl⟩
  clear l36 c36 k36
  obtain ⟨fd37, F37, b37⟩ : ∃ fd, Fun K "_law_minus" "_law_minus" s__law_minus f37 fd ∧ Binds K fd ["one", "other"] [] := ⟨_, fun_mk (st := s__law_minus) l37 c37 k37, (fun_mk (st := s__law_minus) l37 c37 k37).binds (ps := ["one", "other"]) fun _ _ _ _ _ _ us hl => match us, hl with | [_, _], _ => rfl⟩
  clear l37 c37 k37
  obtain ⟨fd38, F38, b38⟩ : ∃ fd, Fun K "_law_dot" "_law_dot" s__law_dot f38 fd ∧ Binds K fd ["one", "other"] [] := ⟨_, fun_mk (st := s__law_dot) l38 c38 k38, (fun_mk (st := s__law_dot) l38 c38 k38).binds (ps := ["one", "other"]) fun _ _ _ _ _ _ us hl => match us, hl with | [_, _], _ => rfl⟩
  clear l38 c38 k38
  obtain ⟨fd39, F39, b39⟩ : ∃ fd, Fun K "_law_cross" "_law_cross" s__law_cross f39 fd ∧ Binds K fd ["one", "other"] [] := ⟨_, fun_mk (st := s__law_cross) l39 c39 k39, (fun_mk (st := s__law_cross) l39 c39 k39).binds (ps := ["one", "other"]) fun _ _ _ _ _ _ us hl => match us, hl with | [_, _], _ => rfl⟩
  clear l39 c39 k39
  obtain ⟨fd40, F40, b40⟩ : ∃ fd, Fun K "_law_put" "_law_put" s__law_put f40 fd ∧ Binds K fd ["one", "other", "factor"] [] := ⟨_, fun_mk (st := s__law_put) l40 c40 k40, (fun_mk (st := s__law_put) l40 c40 k40).binds (ps := ["one", "other", "factor"]) fun _ _ _ _ _ _ us hl => match us, hl with | [_, _, _], _ => rfl⟩
  clear l40 c40 k40
  obtain ⟨fd41, F41, b41⟩ : ∃ fd, Fun K "_law_way" "_law_way" s__law_way f41 fd ∧ Binds K fd ["state"] [] := ⟨_, fun_mk (st := s__law_way) l41 c41 k41, (fun_mk (st := s__law_way) l41 c41 k41).binds (ps := ["state"]) fun _ _ _ _ _ _ us hl => match us, hl with | [_], _ => rfl⟩
  clear l41 c41 k41
  obtain ⟨fd42, F42, b42⟩ : ∃ fd, Fun K "_law_spot" "_law_spot" s__law_spot f42 fd ∧ Binds K fd ["state"] [] := ⟨_, fun_mk (st := s__law_spot) l42 c42 k42, (fun_mk (st := s__law_spot) l42 c42 k42).binds (ps := ["state"]) fun _ _ _ _ _ _ us hl => match us, hl with | [_], _ => rfl⟩
  clear l42 c42 k42
  obtain ⟨fd43, F43, b43⟩ : ∃ fd, Fun K "_law_word" "_law_word" s__law_word f43 fd ∧ Binds K fd ["call", "given"] [] := ⟨_, fun_mk (st := s__law_word) l43 c43 k43, (fun_mk (st := s__law_word) l43 c43 k43).binds (ps := ["call", "given"]) fun _ _ _ _ _ _ us hl => match us, hl with | [_, _], _ => rfl⟩
  clear l43 c43 k43
  obtain ⟨fd44, F44, b44⟩ : ∃ fd, Fun K "_law_pairs" "_law_pairs" s__law_pairs f44 fd ∧ Binds K fd ["state", "half", "way", "first", "last"] [] := ⟨_, fun_mk (st := s__law_pairs) l44 c44 k44, (fun_mk (st := s__law_pairs) l44 c44 k44).binds (ps := ["state", "half", "way", "first", "last"]) fun _ _ _ _ _ _ us hl => match us, hl with | [_, _, _, _, _], _ => rfl⟩
  clear l44 c44 k44
  obtain ⟨fd45, F45, b45⟩ : ∃ fd, Fun K "_law_single" "_law_single" s__law_single f45 fd ∧ Binds K fd ["state", "way", "first", "last"] [] := ⟨_, fun_mk (st := s__law_single) l45 c45 k45, (fun_mk (st := s__law_single) l45 c45 k45).binds (ps := ["state", "way", "first", "last"]) fun _ _ _ _ _ _ us hl => match us, hl with | [_, _, _, _], _ => rfl⟩
  clear l45 c45 k45
  obtain ⟨fd46, F46, b46⟩ : ∃ fd, Fun K "_law_two" "_law_two" s__law_two f46 fd ∧ Binds K fd ["state", "way", "end", "first", "last"] [] := ⟨_, fun_mk (st := s__law_two) l46 c46 k46, (fun_mk (st := s__law_two) l46 c46 k46).binds (ps := ["state", "way", "end", "first", "last"]) fun _ _ _ _ _ _ us hl => match us, hl with | [_, _, _, _, _], _ => rfl⟩
  clear l46 c46 k46
  obtain ⟨fd47, F47, b47⟩ : ∃ fd, Fun K "_law_circles" "_law_circles" s__law_circles f47 fd ∧ Binds K fd ["first", "way", "last", "end", "spot"] [] := ⟨_, fun_mk (st := s__law_circles) l47 c47 k47, (fun_mk (st := s__law_circles) l47 c47 k47).binds (ps := ["first", "way", "last", "end", "spot"]) fun _ _ _ _ _ _ us hl => match us, hl with | [_, _, _, _, _], _ => rfl⟩
  clear l47 c47 k47
  obtain ⟨fd48, F48, b48⟩ : ∃ fd, Fun K "_law_round" "_law_round" s__law_round f48 fd ∧ Binds K fd ["first", "way", "last", "end", "length"] [] := ⟨_, fun_mk (st := s__law_round) l48 c48 k48, (fun_mk (st := s__law_round) l48 c48 k48).binds (ps := ["first", "way", "last", "end", "length"]) fun _ _ _ _ _ _ us hl => match us, hl with | [_, _, _, _, _], _ => rfl⟩
  clear l48 c48 k48
  obtain ⟨fd49, F49, b49⟩ : ∃ fd, Fun K "_law_joint" "_law_joint" s__law_joint f49 fd ∧ Binds K fd ["first", "way", "last", "end", "length"] [] := ⟨_, fun_mk (st := s__law_joint) l49 c49 k49, (fun_mk (st := s__law_joint) l49 c49 k49).binds (ps := ["first", "way", "last", "end", "length"]) fun _ _ _ _ _ _ us hl => match us, hl with | [_, _, _, _, _], _ => rfl⟩
  clear l49 c49 k49
  obtain ⟨fd50, F50, b50⟩ : ∃ fd, Fun K "_law_odd" "_law_odd" s__law_odd f50 fd ∧ Binds K fd [] [] := ⟨_, fun_mk (st := s__law_odd) l50 c50 k50, (fun_mk (st := s__law_odd) l50 c50 k50).binds (ps := []) fun _ _ _ _ _ _ us hl => match us, hl with | [], _ => rfl⟩
  clear l50 c50 k50
  have F51 := fun_mk (st := s_law) l51 c51 k51
  have b51 := F51.binds (ps := ["script"]) fun _ _ _ _ _ _ us hl => match us, hl with | [_], _ => rfl
  have XC0 : ExI l.prog K C0 "Misstep.__init__" "word" "word" (PySem.Str.ofString "this may not be done: ") c_Misstep := ⟨⟨⟨nmC0, qC0, NC0, bsC0, bmC0, snC0, subC0, abC0, colC0, ddC0, m0C0, m1C0, m2C0, m3C0, m5C0, xLC0, hbC0⟩, saC0, eCC0, tCC0, kCC0⟩, veC0, meC0, spC0, tpC0, nbC0,
    ⟨fIC0, ccC0, cdaC0, ocC0, odC0, kVC0, dcC0, pmC0, anC0, ctC0, slC0, cclC0, cddC0, vsC0, ccsC0, clC0, cldC0, cslC0, fileC0, tfC0, a1C0, t1C0, l1C0, c1C0, lDC0, iFC0, iMC0, lXC0⟩, topC0, fun _ _ _ _ _ _ _ _ _ => rfl,
    rfl, rfl, rfl, rfl, rfl, rfl, rfl, by decide +kernel, by decide, ⟨_, rfl, rfl⟩, ⟨_, _, _, _, _, _, _, _, _, _, _, _, _, rfl, rfl⟩, by decide⟩
  have T : Tx l.prog K mg C0 f0 f1 f2 f3 f4 f5 f6 f7 f8 f9 f10 f11 f12 f13 f14 f15 f16 f17 f18 f19 f20 f21 f22 f23 f24 f25 f26 f27 f28 f29 f30 f31 f32 f33 f34 f35 f36 f37 f38 f39 f40 f41 f42 f43 f44 f45 f46 f47 f48 f49 f50 fa fd0 fd1 fd2 fd3 fd4 fd5 fd6 fd7 fd8 fd9 fd10 fd11 fd12 fd13 fd14 fd15 fd16 fd17 fd18 fd19 fd20 fd21 fd22 fd23 fd24 fd25 fd26 fd27 fd28 fd29 fd30 fd31 fd32 fd33 fd34 fd35 fd36 fd37 fd38 fd39 fd40 fd41 fd42 fd43 fd44 fd45 fd46 fd47 fd48 fd49 fd50 _ := ⟨F0, PySem.W.mg_of X G a0, b0, F1, PySem.W.mg_of X G a1, b1, F2, PySem.W.mg_of X G a2, b2, F3, PySem.W.mg_of X G a3, b3, F4, PySem.W.mg_of X G a4, b4, F5, PySem.W.mg_of X G a5, b5, F6, PySem.W.mg_of X G a6, b6, F7, PySem.W.mg_of X G a7, b7, F8, PySem.W.mg_of X G a8, b8, F9, PySem.W.mg_of X G a9, b9, F10, PySem.W.mg_of X G a10, b10, F11, PySem.W.mg_of X G a11, b11, F12, PySem.W.mg_of X G a12, b12, F13, PySem.W.mg_of X G a13, b13, F14, PySem.W.mg_of X G a14, b14, F15, PySem.W.mg_of X G a15, b15, a15, F16, PySem.W.mg_of X G a16, b16, a16, F17, PySem.W.mg_of X G a17, b17, F18, PySem.W.mg_of X G a18, b18, F19, PySem.W.mg_of X G a19, b19, a19, F20, PySem.W.mg_of X G a20, b20, a20, F21, PySem.W.mg_of X G a21, b21, F22, PySem.W.mg_of X G a22, b22, a22, F23, PySem.W.mg_of X G a23, b23, F24, PySem.W.mg_of X G a24, b24, F25, PySem.W.mg_of X G a25, b25, a25, F26, PySem.W.mg_of X G a26, b26, F27, PySem.W.mg_of X G a27, b27, F28, PySem.W.mg_of X G a28, b28, F29, PySem.W.mg_of X G a29, b29, F30, PySem.W.mg_of X G a30, b30, F31, PySem.W.mg_of X G a31, b31, F32, PySem.W.mg_of X G a32, b32, F33, PySem.W.mg_of X G a33, b33, F34, PySem.W.mg_of X G a34, b34, F35, PySem.W.mg_of X G a35, b35, F36, PySem.W.mg_of X G a36, b36, F37, PySem.W.mg_of X G a37, b37, F38, PySem.W.mg_of X G a38, b38, F39, PySem.W.mg_of X G a39, b39, F40, PySem.W.mg_of X G a40, b40, F41, PySem.W.mg_of X G a41, b41, F42, PySem.W.mg_of X G a42, b42, F43, PySem.W.mg_of X G a43, b43, F44, PySem.W.mg_of X G a44, b44, F45, PySem.W.mg_of X G a45, b45, F46, PySem.W.mg_of X G a46, b46, F47, PySem.W.mg_of X G a47, b47, F48, PySem.W.mg_of X G a48, b48, a48, F49, PySem.W.mg_of X G a49, b49, F50, PySem.W.mg_of X G a50, b50, F51, PySem.W.mg_of X G a51, b51, PySem.W.mg_of X G gC0, XC0, ⟨gaC0, ggC0, eCC0, hCC0⟩, exm_own eCC0 iCC0 tCC0 sCC0, PySem.W.mg_none_of X G z_super, PySem.W.mg_none_of X G z_abs, PySem.W.mg_none_of X G z_all, PySem.W.mg_none_of X G z_bool, PySem.W.mg_none_of X G z_int, PySem.W.mg_none_of X G z_isinstance, PySem.W.mg_none_of X G z_len, PySem.W.mg_none_of X G z_range, PySem.W.mg_none_of X G z_tuple⟩
  exact ⟨_, fun s v => .of_eq rfl, fun base _ _ => ok_law T hl⟩
end L2.Mir.W

set_option Elab.async false
set_option linter.all false
set_option maxRecDepth 100000
namespace L2.Mir.W
open PySem PySem.Spec PyProof.Rows

theorem gcd_loop (s : DS) : ∀ (n : Nat) (a b : Int), 0 ≤ a → 0 ≤ b → b.toNat < n →
    whileGo (mCmpT opNe (mVar 1) (mC (.int 0))) (sPar false 0 1 (mCons (mVar 1) (mCons (mBin opMod (mVar 0) (mVar 1)) mNil))) n [.val (.int a), .val (.int b)] s = .ok (.nx [.val (.int (Int.gcd a b)), .val (.int 0)]) s
  | 0, a, b, _, _, h => by omega
  | n + 1, a, b, ha, hb, h => by
    by_cases hb0 : b = 0
    · subst hb0
      simp [whileGo, ha, Int.natAbs_of_nonneg]
    · have hp : 0 < b := by omega
      have ih := gcd_loop s n b (a % b) hb (Int.emod_nonneg _ hb0) (by have := Int.emod_lt_of_pos a hp; omega)
      rw [gcd_step] at ih
      simp only [whileGo]
      simp [hb0, hp, ih]
theorem f_divisor_ok (a b : Int) (s : DS) : f_divisor [.int a, .int b] s = .ok (.int (Int.gcd a b)) s := by
  have h := gcd_loop s (measE [.val (.int (absI a)), .val (.int (absI b))]) (absI a) (absI b) (absI_nonneg a) (absI_nonneg b) (by have := absI_nonneg b; simp [measE, slMeas, dMeas]; omega)
  simp only [gcd_absI_l, gcd_absI_r] at h
  simp [f_divisor, m_divisor, sWhile, h]
theorem gcd_div {a b : Int} (hb : b ≠ 0) {k : Nat} (hk : b.natAbs < 2 ^ k) (h9 : k ≤ 9000) : DivOk (Int.gcd a b : Nat) := by
  have h1 := Int.gcd_pos_of_ne_zero_right a hb
  have h2 := Int.gcd_le_natAbs_right a hb
  exact DivOk.of (by omega) (by rw [Int.natAbs_natCast]; exact Nat.lt_of_le_of_lt h2 hk) h9
theorem f_part_ok {a b : Int} {k : Nat} (hb : b ≠ 0) (hk : b.natAbs < 2 ^ k) (h9 : k ≤ 9000) (s : DS) : f_part [.int a, .int b] s = .ok (qD (Rat.divInt a b)) s := by
  by_cases h : b < 0
  · have g := gcd_div (a := -a) (b := -b) (by omega) (k := k) (by omega) h9
    have e : Rat.divInt a b = Rat.divInt (-a) (-b) := by rw [← Rat.neg_divInt_neg]
    have d := f_divisor_ok (-a) (-b) s
    rw [e, qD_divInt _ _ (by omega)]
    generalize ((Int.gcd (-a) (-b) : Nat) : Int) = g1 at *
    simp [f_part, m_part, h, d, g]
  · have g := gcd_div (a := a) hb hk h9
    have d := f_divisor_ok a b s
    rw [qD_divInt _ _ (by omega)]
    generalize ((Int.gcd a b : Nat) : Int) = g1 at *
    simp [f_part, m_part, h, d, g]
theorem den_mul_lt {x y : Rat} {i j : Nat} (hx : szQ i x) (hy : szQ j y) : (x.den * y.den : Int).natAbs < 2 ^ (i + j) := by
  rw [Int.natAbs_mul, Int.natAbs_natCast, Int.natAbs_natCast]; exact pow_lt_mul hx.2 hy.2
theorem mulOk_nd {x y : Rat} {i j : Nat} (hx : szQ i x) (hy : szQ j y) (h : i + j ≤ 9000) : mulOk x.num y.den = true := mulOk_of hx.1 (by simpa using hy.2) (by omega)
theorem mulOk_nn {x y : Rat} {i j : Nat} (hx : szQ i x) (hy : szQ j y) (h : i + j ≤ 9000) : mulOk x.num y.num = true := mulOk_of hx.1 hy.1 (by omega)
theorem mulOk_dd {x y : Rat} {i j : Nat} (hx : szQ i x) (hy : szQ j y) (h : i + j ≤ 9000) : mulOk x.den y.den = true := mulOk_of (by simpa using hx.2) (by simpa using hy.2) (by omega)
theorem mulOk_dn {x y : Rat} {i j : Nat} (hx : szQ i x) (hy : szQ j y) (h : i + j ≤ 9000) : mulOk x.den y.num = true := mulOk_of (by simpa using hx.2) hy.1 (by omega)
theorem f_plus_ok {x y : Rat} {i j : Nat} (hx : szQ i x) (hy : szQ j y) (h : i + j ≤ 8999) (s : DS) : f_plus [qD x, qD y] s = .ok (qD (x + y)) s := by
  have h4 := f_part_ok (a := x.num * y.den + y.num * x.den) (b := x.den * y.den) (by simp [x.den_nz, y.den_nz]) (den_mul_lt hx hy) (by omega) s
  rw [add_divInt] at h4
  simp [f_plus, m_plus, qD, mulOk_nd hx hy (by omega), mulOk_nd hy hx (by omega), mulOk_dd hx hy (by omega)]
  rw [h4]
  simp [qD]
theorem f_minus_ok {x y : Rat} {i j : Nat} (hx : szQ i x) (hy : szQ j y) (h : i + j ≤ 8999) (s : DS) : f_minus [qD x, qD y] s = .ok (qD (x - y)) s := by
  have h4 := f_part_ok (a := x.num * y.den - y.num * x.den) (b := x.den * y.den) (by simp [x.den_nz, y.den_nz]) (den_mul_lt hx hy) (by omega) s
  rw [sub_divInt] at h4
  simp [f_minus, m_minus, qD, mulOk_nd hx hy (by omega), mulOk_nd hy hx (by omega), mulOk_dd hx hy (by omega)]
  rw [h4]
  simp [qD]
theorem f_times_ok {x y : Rat} {i j : Nat} (hx : szQ i x) (hy : szQ j y) (h : i + j ≤ 8999) (s : DS) : f_times [qD x, qD y] s = .ok (qD (x * y)) s := by
  have h4 := f_part_ok (a := x.num * y.num) (b := x.den * y.den) (by simp [x.den_nz, y.den_nz]) (den_mul_lt hx hy) (by omega) s
  rw [mul_divInt] at h4
  simp [f_times, m_times, qD, mulOk_nn hx hy (by omega), mulOk_dd hx hy (by omega)]
  rw [h4]
  simp [qD]
theorem num_ne {y : Rat} (h : y ≠ 0) : y.num ≠ 0 := fun e => h (Rat.num_eq_zero.mp e)
theorem f_over_ok {x y : Rat} {i j : Nat} (hx : szQ i x) (hy : szQ j y) (h : i + j ≤ 8999) (hy0 : y ≠ 0) (s : DS) : f_over [qD x, qD y] s = .ok (qD (x / y)) s := by
  have h4 := f_part_ok (a := x.num * y.den) (b := x.den * y.num) (k := i + j) (by simp [x.den_nz, num_ne hy0]) (by rw [Int.natAbs_mul, Int.natAbs_natCast]; exact pow_lt_mul hx.2 hy.1) (by omega) s
  rw [div_divInt] at h4
  simp [f_over, m_over, qD, mulOk_nd hx hy (by omega), mulOk_dn hx hy (by omega)]
  rw [h4]
  simp [qD]

/-! ### the law's own: quotients by a while -/
theorem lgcd_loop (x0 x1 : Sl) (s : DS) : ∀ (n : Nat) (a b : Int), 0 ≤ a → 0 ≤ b → b.toNat < n →
    whileGo (mCmpT opNe (mVar 3) (mC (.int 0))) (sPar false 2 3 (mCons (mVar 3) (mCons (mBin opMod (mCB bInt (mCons (mVar 2) mNil)) (mVar 3)) mNil))) n [x0, x1, .val (.int a), .val (.int b)] s = .ok (.nx [x0, x1, .val (.int (Int.gcd a b)), .val (.int 0)]) s
  | 0, a, b, _, _, h => by omega
  | n + 1, a, b, ha, hb, h => by
    by_cases hb0 : b = 0
    · subst hb0
      simp [whileGo, ha, Int.natAbs_of_nonneg]
    · have hp : 0 < b := by omega
      have ih := lgcd_loop x0 x1 s n b (a % b) hb (Int.emod_nonneg _ hb0) (by have := Int.emod_lt_of_pos a hp; omega)
      rw [gcd_step] at ih
      simp only [whileGo]
      simp [hb0, hp, ih]
theorem f__law_part_ok {a b : Int} {k : Nat} (hb : b ≠ 0) (hk : b.natAbs < 2 ^ k) (h9 : k ≤ 9000) (s : DS) : f__law_part [.int a, .int b] s = .ok (qD (Rat.divInt a b)) s := by
  have h := lgcd_loop (.val (.int a)) (.val (.int b)) s (measE [.val (.int a), .val (.int b), .val (.int (absI a)), .val (.int (absI b))]) (absI a) (absI b) (absI_nonneg a) (absI_nonneg b) (by have := absI_nonneg b; simp [measE, slMeas, dMeas]; omega)
  simp only [gcd_absI_l, gcd_absI_r] at h
  have g := gcd_div (a := a) hb hk h9
  by_cases c : b < 0
  · have e : Rat.divInt a b = Rat.divInt (-a) (-b) := by rw [← Rat.neg_divInt_neg]
    rw [e, qD_divInt _ _ (by omega)]
    have eg : Int.gcd (-a) (-b) = Int.gcd a b := by rw [Int.gcd_neg, Int.neg_gcd]
    rw [eg]
    have gn : ¬ DivOk (-((Int.gcd a b : Nat) : Int)) := fun z => by
      have := z.1
      omega
    generalize ((Int.gcd a b : Nat) : Int) = g1 at *
    simp [f__law_part, m__law_part, sWhile, h, c, g, gn]
  · rw [qD_divInt _ _ (by omega)]
    generalize ((Int.gcd a b : Nat) : Int) = g1 at *
    simp [f__law_part, m__law_part, sWhile, h, c, g]
theorem f__law_add_ok {x y : Rat} {i j : Nat} (hx : szQ i x) (hy : szQ j y) (h : i + j ≤ 8999) (s : DS) : f__law_add [qD x, qD y] s = .ok (qD (x + y)) s := by
  have h4 := f__law_part_ok (a := x.num * y.den + y.num * x.den) (b := x.den * y.den) (by simp [x.den_nz, y.den_nz]) (den_mul_lt hx hy) (by omega) s
  rw [add_divInt] at h4
  simp [f__law_add, m__law_add, qD, mulOk_nd hx hy (by omega), mulOk_nd hy hx (by omega), mulOk_dd hx hy (by omega)]
  rw [h4]
  simp [qD]
theorem f__law_mul_ok {x y : Rat} {i j : Nat} (hx : szQ i x) (hy : szQ j y) (h : i + j ≤ 8999) (s : DS) : f__law_mul [qD x, qD y] s = .ok (qD (x * y)) s := by
  have h4 := f__law_part_ok (a := x.num * y.num) (b := x.den * y.den) (by simp [x.den_nz, y.den_nz]) (den_mul_lt hx hy) (by omega) s
  rw [mul_divInt] at h4
  simp [f__law_mul, m__law_mul, qD, mulOk_nn hx hy (by omega), mulOk_dd hx hy (by omega)]
  rw [h4]
  simp [qD]
theorem f__law_over_ok {x y : Rat} {i j : Nat} (hx : szQ i x) (hy : szQ j y) (h : i + j ≤ 8999) (hy0 : y ≠ 0) (s : DS) : f__law_over [qD x, qD y] s = .ok (qD (x / y)) s := by
  have h4 := f__law_part_ok (a := x.num * y.den) (b := x.den * y.num) (k := i + j) (by simp [x.den_nz, num_ne hy0]) (by rw [Int.natAbs_mul, Int.natAbs_natCast]; exact pow_lt_mul hx.2 hy.1) (by omega) s
  rw [div_divInt] at h4
  simp [f__law_over, m__law_over, qD, mulOk_nd hx hy (by omega), mulOk_dn hx hy (by omega)]
  rw [h4]
  simp [qD]
theorem f__law_neg_ok (x : Rat) (s : DS) : f__law_neg [qD x] s = .ok (qD (-x)) s := by
  simp [f__law_neg, m__law_neg, qD]
/-! ### points -/
def ptD (x y : Rat) : D := .tup [qD x, qD y]
theorem ix_q0 (q : Rat) (s : DS) : opIx (qD q) (.int 0) s = .ok (.int q.num) s := by simp [qD]
theorem ix_q1 (q : Rat) (s : DS) : opIx (qD q) (.int 1) s = .ok (.int q.den) s := by simp [qD]
theorem ix_p0 (x y : Rat) (s : DS) : opIx (ptD x y) (.int 0) s = .ok (qD x) s := by simp [ptD]
theorem ix_p1 (x y : Rat) (s : DS) : opIx (ptD x y) (.int 1) s = .ok (qD y) s := by simp [ptD]
@[simp] theorem okD_p60 (x y : Rat) : okD 60 (ptD x y) = true := by simp [ptD]
@[simp] theorem deq_p (x y u v : Rat) : deq (ptD x y) (ptD u v) = (decide (x = u) && decide (y = v)) := by simp [ptD]
end L2.Mir.W

set_option Elab.async false
set_option linter.all false
set_option maxRecDepth 100000
namespace L2.Mir.W
open PySem PySem.Spec PyProof.Rows
section
variable {a b c d t u : Rat} {i j k : Nat} {s : DS}
theorem f_dot_ok (ha : szQ i a) (hb : szQ i b) (hc : szQ j c) (hd : szQ j d) (h : 2 * (i + j) ≤ 8999) (s : DS) : f_dot [ptD a b, ptD c d] s = .ok (qD (a * c + b * d)) s := by
  have t1 := f_times_ok ha hc (by omega) s
  have t2 := f_times_ok hb hd (by omega) s
  have p := f_plus_ok (ha.mul hc) (hb.mul hd) (by omega) s
  simp [f_dot, m_dot, ix_p0, ix_p1, -opIx, t1, t2, p]
theorem f_crossed_ok (ha : szQ i a) (hb : szQ i b) (hc : szQ j c) (hd : szQ j d) (h : 2 * (i + j) ≤ 8999) (s : DS) : f_crossed [ptD a b, ptD c d] s = .ok (qD (a * d - b * c)) s := by
  have t1 := f_times_ok ha hd (by omega) s
  have t2 := f_times_ok hb hc (by omega) s
  have p := f_minus_ok (ha.mul hd) (hb.mul hc) (by omega) s
  simp [f_crossed, m_crossed, ix_p0, ix_p1, -opIx, t1, t2, p]
theorem f_put_ok (ha : szQ i a) (hb : szQ i b) (hc : szQ j c) (hd : szQ j d) (ht : szQ k t) (h : i + j + k ≤ 8999) (s : DS) : f_put [ptD a b, ptD c d, qD t] s = .ok (ptD (a + t * c) (b + t * d)) s := by
  have t1 := f_times_ok ht hc (by omega) s
  have t2 := f_times_ok ht hd (by omega) s
  have p1 := f_plus_ok ha (ht.mul hc) (by omega) s
  have p2 := f_plus_ok hb (ht.mul hd) (by omega) s
  simp [f_put, m_put, ix_p0, ix_p1, -opIx, t1, t2, p1, p2]
  simp [ptD]
theorem qD_m1 : D.tup [.int (-1), .int 1] = qD (-1) := rfl
theorem qD_1 : D.tup [.int 1, .int 1] = qD 1 := rfl
theorem qD_2 : D.tup [.int 2, .int 1] = qD 2 := rfl
theorem qD_0 : D.tup [.int 0, .int 1] = qD 0 := rfl
theorem sz_m1 : szQ 1 (-1) := ⟨by decide, by decide⟩
theorem sz_1 : szQ 1 1 := ⟨by decide, by decide⟩
theorem sz_2 : szQ 2 2 := ⟨by decide, by decide⟩
theorem sz_0 : szQ 1 0 := ⟨by decide, by decide⟩
theorem f_less_ok (ha : szQ i a) (hb : szQ i b) (hc : szQ j c) (hd : szQ j d) (h : i + j + 1 ≤ 8999) (s : DS) : f_less [ptD a b, ptD c d] s = .ok (ptD (a - c) (b - d)) s := by
  have p := f_put_ok ha hb hc hd sz_m1 (by omega) s
  have e1 : a + -1 * c = a - c := by grind
  have e2 : b + -1 * d = b - d := by grind
  rw [e1, e2] at p
  simp [f_less, m_less, qD_m1, p]
theorem f_turned_ok (ha : szQ i a) (hb : szQ i b) (h : i + 1 ≤ 8999) (s : DS) : f_turned [ptD a b] s = .ok (ptD (-b) a) s := by
  have p := f_times_ok sz_m1 hb (by omega) s
  have e1 : -1 * b = -b := by grind
  rw [e1] at p
  simp [f_turned, m_turned, ix_p0, ix_p1, -opIx, qD_m1, p]
  simp [ptD]
theorem f_way_of_ok (ha : szQ i a) (h : 8 * i + 20 ≤ 8999) (h1 : 1 + a * a ≠ 0) (s : DS) : f_way_of [qD a] s = .ok (ptD ((1 - a * a) / (1 + a * a)) (2 * a / (1 + a * a))) s := by
  have t1 := f_times_ok ha ha (by omega) s
  have p1 := f_plus_ok sz_1 (ha.mul ha) (by omega) s
  have p2 := f_minus_ok sz_1 (ha.mul ha) (by omega) s
  have p3 := f_over_ok (sz_1.sub (ha.mul ha)) (sz_1.add (ha.mul ha)) (by omega) h1 s
  have p4 := f_times_ok sz_2 ha (by omega) s
  have p5 := f_over_ok (sz_2.mul ha) (sz_1.add (ha.mul ha)) (by omega) h1 s
  simp [f_way_of, m_way_of, qD_1, qD_2, t1, p1, p2, p3, p4, p5]
  simp [ptD]
theorem run_pt (x y : Rat) (i j : Nat) : (Pat.t [.n i, .n j]).run (ptD x y) = some [(i, qD x), (j, qD y)] := by simp [ptD]
theorem f_rotated_ok (ha : szQ i a) (hb : szQ i b) (hc : szQ j c) (hd : szQ j d) (h : 2 * (i + j) ≤ 8999) (s : DS) : f_rotated [ptD a b, ptD c d] s = .ok (ptD (c * a - d * b) (d * a + c * b)) s := by
  have t1 := f_times_ok hc ha (by omega) s
  have t2 := f_times_ok hd hb (by omega) s
  have t3 := f_times_ok hd ha (by omega) s
  have t4 := f_times_ok hc hb (by omega) s
  have p1 := f_minus_ok (hc.mul ha) (hd.mul hb) (by omega) s
  have p2 := f_plus_ok (hd.mul ha) (hc.mul hb) (by omega) s
  simp [f_rotated, m_rotated, ix_p0, ix_p1, -opIx, run_pt, -Pat.run, -Pat.runs, t1, t2, t3, t4, p1, p2]
  simp [ptD]
/-! the law's own -/
theorem f__law_minus_ok (ha : szQ i a) (hb : szQ i b) (hc : szQ j c) (hd : szQ j d) (h : i + j ≤ 8999) (s : DS) : f__law_minus [ptD a b, ptD c d] s = .ok (ptD (a - c) (b - d)) s := by
  have n1 := f__law_neg_ok c s
  have n2 := f__law_neg_ok d s
  have p1 := f__law_add_ok ha hc.neg (by omega) s
  have p2 := f__law_add_ok hb hd.neg (by omega) s
  rw [← Rat.sub_eq_add_neg] at p1 p2
  simp [f__law_minus, m__law_minus, ix_p0, ix_p1, -opIx, n1, n2, p1, p2]
  simp [ptD]
theorem f__law_dot_ok (ha : szQ i a) (hb : szQ i b) (hc : szQ j c) (hd : szQ j d) (h : 2 * (i + j) ≤ 8999) (s : DS) : f__law_dot [ptD a b, ptD c d] s = .ok (qD (a * c + b * d)) s := by
  have t1 := f__law_mul_ok ha hc (by omega) s
  have t2 := f__law_mul_ok hb hd (by omega) s
  have p := f__law_add_ok (ha.mul hc) (hb.mul hd) (by omega) s
  simp [f__law_dot, m__law_dot, ix_p0, ix_p1, -opIx, t1, t2, p]
theorem f__law_cross_ok (ha : szQ i a) (hb : szQ i b) (hc : szQ j c) (hd : szQ j d) (h : 2 * (i + j) ≤ 8999) (s : DS) : f__law_cross [ptD a b, ptD c d] s = .ok (qD (a * d - b * c)) s := by
  have t1 := f__law_mul_ok ha hd (by omega) s
  have t2 := f__law_mul_ok hb hc (by omega) s
  have n1 := f__law_neg_ok (b * c) s
  have p := f__law_add_ok (ha.mul hd) (hb.mul hc).neg (by omega) s
  rw [← Rat.sub_eq_add_neg] at p
  simp [f__law_cross, m__law_cross, ix_p0, ix_p1, -opIx, t1, t2, n1, p]
theorem f__law_put_ok (ha : szQ i a) (hb : szQ i b) (hc : szQ j c) (hd : szQ j d) (ht : szQ k t) (h : i + j + k ≤ 8999) (s : DS) : f__law_put [ptD a b, ptD c d, qD t] s = .ok (ptD (a + t * c) (b + t * d)) s := by
  have t1 := f__law_mul_ok ht hc (by omega) s
  have t2 := f__law_mul_ok ht hd (by omega) s
  have p1 := f__law_add_ok ha (ht.mul hc) (by omega) s
  have p2 := f__law_add_ok hb (ht.mul hd) (by omega) s
  simp [f__law_put, m__law_put, ix_p0, ix_p1, -opIx, t1, t2, p1, p2]
  simp [ptD]
end
end L2.Mir.W

set_option Elab.async false
set_option linter.all false
set_option maxRecDepth 100000
namespace L2.Mir.W
open PySem PySem.Spec PyProof.Rows
theorem isPart_ii (a b : Int) (s : DS) : f_is_part [.tup [.int a, .int b]] s = .ok (.bl (decide (1 ≤ b) && decide (Int.gcd a b = 1))) s := by
  have d := f_divisor_ok a b s
  have e : ((Int.gcd a b : Nat) : Int) = 1 ↔ Int.gcd a b = 1 := by omega
  by_cases h : 1 ≤ b
  · simp [f_is_part, m_is_part, lcGo, d, h]
    exact e
  · simp [f_is_part, m_is_part, lcGo, d, h]
theorem isPart_q (q : Rat) (s : DS) : f_is_part [qD q] s = .ok (.bl true) s := by
  have h := isPart_ii q.num q.den s
  have h1 : (1 : Int) ≤ q.den := by have := q.den_pos; omega
  have h2 : Int.gcd q.num q.den = 1 := by
    have := q.reduced
    unfold Nat.Coprime at this
    simpa [Int.gcd] using this
  rw [h2] at h
  simp only [h1, decide_true, Bool.and_self] at h
  exact h
theorem isSpot_p (x y : Rat) (s : DS) : f_is_spot [ptD x y] s = .ok (.bl true) s := by
  have h1 := isPart_q x s
  have h2 := isPart_q y s
  simp [f_is_spot, m_is_spot, ptD, lcGo, h1, h2]
theorem isWay_p {x y : Rat} {i : Nat} (hx : szQ i x) (hy : szQ i y) (h : 4 * i ≤ 8999) (s : DS) : f_is_way [ptD x y] s = .ok (.bl (decide (x * x + y * y = 1))) s := by
  have d := f_dot_ok hx hy hx hy (by omega) s
  have e := isSpot_p x y s
  simp [f_is_way, m_is_way, d, e, qD_1]

/-! ### draws -/
theorem f__law_fraction_ok {s : DS} (hs : StateOk s) {m : Int} (hm : 1 ≤ m) (hm2 : m ≤ 100) : ∃ q s', f__law_fraction [.st, .int m] s = .ok (qD q) s' ∧ StateOk s' ∧ q.num.natAbs ≤ m.natAbs ∧ q.den ≤ 3 := by
  obtain ⟨r, s1, e1, h1, p1, p2⟩ := fTake_ok hs (2 * m + 1) (TakeOk.small (by omega))
  obtain ⟨t, s2, e2, h2, q1, q2⟩ := fTake_ok h1 3 (TakeOk.small (by omega))
  have f := f__law_part_ok (a := r - m) (b := 1 + t) (k := 8) (by omega) (by omega) (by omega) s2
  refine ⟨Rat.divInt (r - m) (1 + t), s2, by simp [f__law_fraction, m__law_fraction, f__law_take, e1, e2, f], h2, ?_, ?_⟩
  · rw [Rat.num_divInt]
    have h1 : (((1 + t).gcd (r - m) : Nat) : Int) ∣ (1 + t).sign * (r - m) := Int.dvd_mul_of_dvd_right (Int.gcd_dvd_right ..)
    rw [Int.natAbs_ediv_of_dvd h1, Int.natAbs_mul, Int.sign_eq_one_of_pos (by omega)]
    refine Nat.le_trans (Nat.div_le_self _ _) ?_
    simp
    omega
  · rw [Rat.den_divInt, if_neg (by omega)]
    exact Nat.le_trans (Nat.div_le_self _ _) (by omega)
theorem sz_frac {q : Rat} {m : Int} {k : Nat} (h1 : q.num.natAbs ≤ m.natAbs) (h2 : q.den ≤ 3) (hm : m.natAbs < 2 ^ k) (hk : 2 ≤ k) : szQ k q := by
  refine ⟨by omega, Nat.lt_of_le_of_lt h2 ?_⟩
  exact Nat.lt_of_lt_of_le (by decide : 3 < 2 ^ 2) (Nat.pow_le_pow_right (by decide) hk)
theorem f__law_spot_ok {s : DS} (hs : StateOk s) : ∃ x y s', f__law_spot [.st] s = .ok (ptD x y) s' ∧ StateOk s' ∧ szQ 3 x ∧ szQ 3 y := by
  obtain ⟨x, s1, e1, h1, p1, p2⟩ := f__law_fraction_ok hs (m := 4) (by omega) (by omega)
  obtain ⟨y, s2, e2, h2, q1, q2⟩ := f__law_fraction_ok h1 (m := 4) (by omega) (by omega)
  exact ⟨x, y, s2, by simp [f__law_spot, m__law_spot, e1, e2, ptD], h2, sz_frac p1 p2 (by decide) (by decide), sz_frac q1 q2 (by decide) (by decide)⟩
theorem q_eq (q : Rat) : q * (q.den : Rat) = (q.num : Rat) ∧ (q.den : Rat) ≠ 0 := by
  have h0 := Rat.num_divInt_den q
  rw [Rat.divInt_eq_div] at h0
  have h2 : ((q.den : Int) : Rat) = (q.den : Rat) := rfl
  have h3 : (q.den : Rat) ≠ 0 := by
    intro h
    exact q.den_nz (Rat.natCast_eq_zero_iff.mp h)
  rw [h2] at h0
  exact ⟨by grind, h3⟩
theorem sq_pos (h : Rat) : 0 ≤ h * h := by
  rcases Rat.le_total (a := 0) (b := h) with g | g
  · exact Rat.mul_nonneg g g
  · have : 0 ≤ (-h) * (-h) := Rat.mul_nonneg (by grind) (by grind)
    grind
theorem low_ne (h : Rat) : 1 + h * h ≠ 0 := by
  have := sq_pos h
  grind
theorem way_sz {h : Rat} (h1 : h.num.natAbs ≤ 3) (h2 : h.den ≤ 3) : szQ 5 ((1 - h * h) / (1 + h * h)) ∧ szQ 5 (2 * h / (1 + h * h)) := by
  obtain ⟨e, d0⟩ := q_eq h
  have l0 := low_ne h
  have hd := h.den_pos
  have e1 : (1 - h * h) / (1 + h * h) = Rat.divInt (h.den * h.den - h.num * h.num) (h.den * h.den + h.num * h.num) := by
    rw [Rat.divInt_eq_div]
    simp only [Rat.intCast_sub, Rat.intCast_add, Rat.intCast_mul]
    have q1 : ((h.den : Int) : Rat) = (h.den : Rat) := rfl
    rw [q1, ← e]
    grind
  have e2 : 2 * h / (1 + h * h) = Rat.divInt (2 * h.num * h.den) (h.den * h.den + h.num * h.num) := by
    rw [Rat.divInt_eq_div]
    simp only [Rat.intCast_sub, Rat.intCast_add, Rat.intCast_mul]
    have q1 : ((h.den : Int) : Rat) = (h.den : Rat) := rfl
    have q2 : ((2 : Int) : Rat) = 2 := rfl
    rw [q1, q2, ← e]
    grind
  rw [e1, e2]
  generalize h.num = n at *
  generalize h.den = d at *
  have c1 : n = -3 ∨ n = -2 ∨ n = -1 ∨ n = 0 ∨ n = 1 ∨ n = 2 ∨ n = 3 := by omega
  have c2 : d = 1 ∨ d = 2 ∨ d = 3 := by omega
  constructor
  · refine divInt_sz ?_ ?_ ?_ <;> rcases c1 with rfl | rfl | rfl | rfl | rfl | rfl | rfl <;> rcases c2 with rfl | rfl | rfl <;> decide
  · refine divInt_sz ?_ ?_ ?_ <;> rcases c1 with rfl | rfl | rfl | rfl | rfl | rfl | rfl <;> rcases c2 with rfl | rfl | rfl <;> decide
theorem way_unit (h : Rat) : (1 - h * h) / (1 + h * h) * ((1 - h * h) / (1 + h * h)) + 2 * h / (1 + h * h) * (2 * h / (1 + h * h)) = 1 := by
  have l0 := low_ne h
  grind
theorem f__law_way_ok {s : DS} (hs : StateOk s) : ∃ h x y s', f__law_way [.st] s = .ok (.tup [qD h, ptD x y]) s' ∧ StateOk s' ∧ szQ 2 h ∧ szQ 5 x ∧ szQ 5 y ∧ x * x + y * y = 1 := by
  obtain ⟨h, s1, e1, h1, p1, p2⟩ := f__law_fraction_ok hs (m := 3) (by omega) (by omega)
  obtain ⟨r, s2, e2, h2, q1, q2⟩ := fTake_ok h1 2 (TakeOk.small (by omega))
  have hz : szQ 2 h := sz_frac p1 p2 (by decide) (by decide)
  have l0 := low_ne h
  have t1 := f__law_mul_ok hz hz (by omega) s1
  have t2 := f__law_add_ok sz_1 (hz.mul hz) (by omega) s1
  have n1 := f__law_neg_ok (h * h) s1
  have t3 := f__law_add_ok sz_1 (hz.mul hz).neg (by omega) s1
  have t4 := f__law_over_ok (sz_1.add (hz.mul hz).neg) (sz_1.add (hz.mul hz)) (by omega) l0 s1
  have t5 := f__law_mul_ok sz_2 hz (by omega) s1
  have t6 := f__law_over_ok (sz_2.mul hz) (sz_1.add (hz.mul hz)) (by omega) l0 s1
  have ee : 1 + -(h * h) = 1 - h * h := by grind
  rw [ee] at t3 t4
  obtain ⟨z1, z2⟩ := way_sz p1 p2
  have u := way_unit h
  generalize hx : (1 - h * h) / (1 + h * h) = x at *
  generalize hy : 2 * h / (1 + h * h) = y at *
  have n2 := f__law_neg_ok x s2
  have n3 := f__law_neg_ok y s2
  by_cases c : r = 0
  · refine ⟨h, x, y, s2, ?_, h2, hz, z1, z2, u⟩
    simp [f__law_way, m__law_way, f__law_take, e1, e2, t1, qD_1, qD_2, t2, n1, t3, t4, t5, t6, c, ptD]
  · refine ⟨h, -x, -y, s2, ?_, h2, hz, z1.neg, z2.neg, by grind⟩
    simp [f__law_way, m__law_way, f__law_take, e1, e2, t1, qD_1, qD_2, t2, n1, t3, t4, t5, t6, c, n2, n3, ptD]
end L2.Mir.W

set_option Elab.async false
set_option linter.all false
set_option maxRecDepth 100000
namespace L2.Mir.W
open PySem PySem.Spec PyProof.Rows
def mis (w : String) : Xc := ⟨0, [.str (PySem.Str.ofString w)]⟩
/-- both coordinates so great at most -/
def pz (k : Nat) (x y : Rat) : Prop := szQ k x ∧ szQ k y
theorem pz.mono {i j : Nat} {x y : Rat} (h : pz i x y) (hj : i ≤ j) : pz j x y := ⟨h.1.mono hj, h.2.mono hj⟩
theorem pz.sub {i j : Nat} {x y u v : Rat} (h : pz i x y) (g : pz j u v) : pz (i + j + 1) (x - u) (y - v) := ⟨h.1.sub g.1, h.2.sub g.2⟩
theorem pz.put {i j k : Nat} {x y u v t : Rat} (h : pz i x y) (g : pz j u v) (ht : szQ k t) : pz (i + j + k + 1) (x + t * u) (y + t * v) := ⟨(h.1.add (ht.mul g.1)).mono (by omega), (h.2.add (ht.mul g.2)).mono (by omega)⟩
theorem pz.dot {i j : Nat} {x y u v : Rat} (h : pz i x y) (g : pz j u v) : szQ (2 * (i + j) + 1) (x * u + y * v) := ((h.1.mul g.1).add (h.2.mul g.2)).mono (by omega)
theorem pz.cross {i j : Nat} {x y u v : Rat} (h : pz i x y) (g : pz j u v) : szQ (2 * (i + j) + 1) (x * v - y * u) := ((h.1.mul g.2).sub (h.2.mul g.1)).mono (by omega)
theorem szDiv {x y : Rat} {i j : Nat} (hx : szQ i x) (hy : szQ j y) (h : y ≠ 0) : szQ (i + j) (x / y) := by
  rw [← div_divInt]
  refine divInt_sz ?_ ?_ (by simp [x.den_nz, num_ne h])
  · rw [Int.natAbs_mul, Int.natAbs_natCast]; exact pow_lt_mul hx.1 hy.2
  · rw [Int.natAbs_mul, Int.natAbs_natCast]; exact pow_lt_mul hx.2 hy.1
theorem pt_of (x y : Rat) : D.tup [qD x, qD y] = ptD x y := rfl
section
variable {px py tx ty qx qy ux uy l : Rat} {i j k n : Nat} {s : DS}
theorem f_bend_ok (hp : pz i px py) (ht : pz j tx ty) (hq : pz k qx qy) (h : 6 * (i + k + 1) + 2 * j + 10 ≤ 8999) (h0 : (qx - px) * (qx - px) + (qy - py) * (qy - py) ≠ 0) (s : DS) :
    f_bend [ptD px py, ptD tx ty, ptD qx qy] s = .ok (qD (2 * (tx * (qy - py) - ty * (qx - px)) / ((qx - px) * (qx - px) + (qy - py) * (qy - py)))) s := by
  have g := (hq.sub hp).mono (by omega : k + i + 1 ≤ i + k + 1)
  have e1 := f_less_ok hq.1 hq.2 hp.1 hp.2 (by omega) s
  have e2 := f_dot_ok g.1 g.2 g.1 g.2 (by omega) s
  have e3 := f_crossed_ok ht.1 ht.2 g.1 g.2 (by omega) s
  have e4 := f_times_ok sz_2 (ht.cross g) (by omega) s
  have e5 := f_over_ok (sz_2.mul (ht.cross g)) (g.dot g) (by omega) h0 s
  have h1 := num_ne h0
  simp [f_bend, m_bend, qD_2, ix_q0, -opIx, e1, e2, h0, e3, e4, e5]
theorem f_bend_exc (hp : pz i px py) (ht : pz j tx ty) (hq : pz k qx qy) (h : 6 * (i + k + 1) + 2 * j + 10 ≤ 8999) (h0 : (qx - px) * (qx - px) + (qy - py) * (qy - py) = 0) (s : DS) :
    f_bend [ptD px py, ptD tx ty, ptD qx qy] s = .exc (mis "points") s := by
  have g := (hq.sub hp).mono (by omega : k + i + 1 ≤ i + k + 1)
  have e1 := f_less_ok hq.1 hq.2 hp.1 hp.2 (by omega) s
  have e2 := f_dot_ok g.1 g.2 g.1 g.2 (by omega) s
  rw [h0] at e2
  simp [f_bend, m_bend, ix_q0, -opIx, e1, e2, mis]
theorem f_way_at_ok (hp : pz i px py) (ht : pz j tx ty) (hq : pz k qx qy) (h : 8 * (i + k + 1) + 4 * j + 20 ≤ 8999) (h0 : (qx - px) * (qx - px) + (qy - py) * (qy - py) ≠ 0) (s : DS) :
    f_way_at [ptD px py, ptD tx ty, ptD qx qy] s = .ok (ptD (2 * (tx * (qx - px) + ty * (qy - py)) / ((qx - px) * (qx - px) + (qy - py) * (qy - py)) * (qx - px) - tx) (2 * (tx * (qx - px) + ty * (qy - py)) / ((qx - px) * (qx - px) + (qy - py) * (qy - py)) * (qy - py) - ty)) s := by
  have g := (hq.sub hp).mono (by omega : k + i + 1 ≤ i + k + 1)
  have e1 := f_less_ok hq.1 hq.2 hp.1 hp.2 (by omega) s
  have e2 := f_dot_ok g.1 g.2 g.1 g.2 (by omega) s
  have e3 := f_dot_ok ht.1 ht.2 g.1 g.2 (by omega) s
  have e4 := f_times_ok sz_2 (ht.dot g) (by omega) s
  have e5 := f_over_ok (sz_2.mul (ht.dot g)) (g.dot g) (by omega) h0 s
  have z5 := szDiv (sz_2.mul (ht.dot g)) (g.dot g) h0
  have e6 := f_times_ok z5 g.1 (by omega) s
  have e7 := f_times_ok z5 g.2 (by omega) s
  have e8 := f_less_ok (z5.mul g.1) (z5.mul g.2) ht.1 ht.2 (by omega) s
  simp [f_way_at, m_way_at, qD_2, ix_q0, ix_p0, ix_p1, pt_of, -opIx, e1, e2, h0, e3, e4, e5, e6, e7, e8]
theorem f_way_at_exc (hp : pz i px py) (ht : pz j tx ty) (hq : pz k qx qy) (h : 8 * (i + k + 1) + 4 * j + 20 ≤ 8999) (h0 : (qx - px) * (qx - px) + (qy - py) * (qy - py) = 0) (s : DS) :
    f_way_at [ptD px py, ptD tx ty, ptD qx qy] s = .exc (mis "points") s := by
  have g := (hq.sub hp).mono (by omega : k + i + 1 ≤ i + k + 1)
  have e1 := f_less_ok hq.1 hq.2 hp.1 hp.2 (by omega) s
  have e2 := f_dot_ok g.1 g.2 g.1 g.2 (by omega) s
  rw [h0] at e2
  simp [f_way_at, m_way_at, ix_q0, -opIx, e1, e2, mis]
/-- middle: where the low one is not nought -/
theorem f_middle_ok (hp : pz i px py) (ht : pz j tx ty) (hq : pz k qx qy) (h : 8 * (i + k + 1) + 8 * j + 20 ≤ 8999) (h0 : 2 * ((qx - px) * (-ty) + (qy - py) * tx) ≠ 0) (s : DS) :
    f_middle [ptD px py, ptD tx ty, ptD qx qy] s = .ok (ptD (px + ((qx - px) * (qx - px) + (qy - py) * (qy - py)) / (2 * ((qx - px) * (-ty) + (qy - py) * tx)) * (-ty)) (py + ((qx - px) * (qx - px) + (qy - py) * (qy - py)) / (2 * ((qx - px) * (-ty) + (qy - py) * tx)) * tx)) s := by
  have g := (hq.sub hp).mono (by omega : k + i + 1 ≤ i + k + 1)
  have tt : pz j (-ty) tx := ⟨ht.2.neg, ht.1⟩
  have e1 := f_less_ok hq.1 hq.2 hp.1 hp.2 (by omega) s
  have e2 := f_turned_ok ht.1 ht.2 (by omega) s
  have e3 := f_dot_ok g.1 g.2 tt.1 tt.2 (by omega) s
  have e4 := f_times_ok sz_2 (g.dot tt) (by omega) s
  have e5 := f_dot_ok g.1 g.2 g.1 g.2 (by omega) s
  have e6 := f_over_ok (g.dot g) (sz_2.mul (g.dot tt)) (by omega) h0 s
  have z6 := szDiv (g.dot g) (sz_2.mul (g.dot tt)) h0
  have e7 := f_put_ok hp.1 hp.2 tt.1 tt.2 z6 (by omega) s
  have h1 := num_ne h0
  simp [f_middle, m_middle, qD_2, ix_q0, pt_of, -opIx, e1, e2, e3, e4, h1, e5, e6, e7]
theorem f_middle_non (hp : pz i px py) (ht : pz j tx ty) (hq : pz k qx qy) (h : 8 * (i + k + 1) + 8 * j + 20 ≤ 8999) (h0 : 2 * ((qx - px) * (-ty) + (qy - py) * tx) = 0) (s : DS) :
    f_middle [ptD px py, ptD tx ty, ptD qx qy] s = .ok .non s := by
  have g := (hq.sub hp).mono (by omega : k + i + 1 ≤ i + k + 1)
  have tt : pz j (-ty) tx := ⟨ht.2.neg, ht.1⟩
  have e1 := f_less_ok hq.1 hq.2 hp.1 hp.2 (by omega) s
  have e2 := f_turned_ok ht.1 ht.2 (by omega) s
  have e3 := f_dot_ok g.1 g.2 tt.1 tt.2 (by omega) s
  have e4 := f_times_ok sz_2 (g.dot tt) (by omega) s
  rw [h0] at e4
  simp [f_middle, m_middle, qD_2, ix_q0, pt_of, -opIx, e1, e2, e3, e4]
end
end L2.Mir.W

set_option Elab.async false
set_option linter.all false
set_option maxRecDepth 100000
namespace L2.Mir.W
open PySem PySem.Spec PyProof.Rows
section
variable {ax ay bx by' cx cy x y : Rat} {i n : Nat} {s : DS}
theorem f_circle_ok (h1 : pz i ax ay) (h2 : pz i bx by') (h3 : pz i cx cy) (h : 14 * (2 * i + 1) + 6 ≤ 8999) (h0 : 2 * ((bx - ax) * (cy - ay) - (by' - ay) * (cx - ax)) ≠ 0)
    (hx : (((bx - ax) * (bx - ax) + (by' - ay) * (by' - ay)) * (cy - ay) - ((cx - ax) * (cx - ax) + (cy - ay) * (cy - ay)) * (by' - ay)) / (2 * ((bx - ax) * (cy - ay) - (by' - ay) * (cx - ax))) = x)
    (hy : (((cx - ax) * (cx - ax) + (cy - ay) * (cy - ay)) * (bx - ax) - ((bx - ax) * (bx - ax) + (by' - ay) * (by' - ay)) * (cx - ax)) / (2 * ((bx - ax) * (cy - ay) - (by' - ay) * (cx - ax))) = y)
    (hz : pz n x y) (hn : 4 * n + i + 10 ≤ 8999) (s : DS) : f_circle [ptD ax ay, ptD bx by', ptD cx cy] s = .ok (.tup [ptD (ax + x) (ay + y), qD (x * x + y * y)]) s := by
  have u := (h2.sub h1).mono (by omega : i + i + 1 ≤ 2 * i + 1)
  have v := (h3.sub h1).mono (by omega : i + i + 1 ≤ 2 * i + 1)
  have e1 := f_less_ok h2.1 h2.2 h1.1 h1.2 (by omega) s
  have e2 := f_less_ok h3.1 h3.2 h1.1 h1.2 (by omega) s
  have e3 := f_crossed_ok u.1 u.2 v.1 v.2 (by omega) s
  have e4 := f_times_ok sz_2 (u.cross v) (by omega) s
  have e5 := f_dot_ok u.1 u.2 u.1 u.2 (by omega) s
  have e6 := f_dot_ok v.1 v.2 v.1 v.2 (by omega) s
  have e7 := f_times_ok (u.dot u) v.2 (by omega) s
  have e8 := f_times_ok (v.dot v) u.2 (by omega) s
  have e9 := f_minus_ok ((u.dot u).mul v.2) ((v.dot v).mul u.2) (by omega) s
  have e10 := f_over_ok (((u.dot u).mul v.2).sub ((v.dot v).mul u.2)) (sz_2.mul (u.cross v)) (by omega) h0 s
  have e11 := f_times_ok (v.dot v) u.1 (by omega) s
  have e12 := f_times_ok (u.dot u) v.1 (by omega) s
  have e13 := f_minus_ok ((v.dot v).mul u.1) ((u.dot u).mul v.1) (by omega) s
  have e14 := f_over_ok (((v.dot v).mul u.1).sub ((u.dot u).mul v.1)) (sz_2.mul (u.cross v)) (by omega) h0 s
  rw [hx] at e10
  rw [hy] at e14
  have e15 := f_put_ok h1.1 h1.2 hz.1 hz.2 sz_1 (by omega) s
  rw [Rat.one_mul, Rat.one_mul] at e15
  have e16 := f_times_ok hz.1 hz.1 (by omega) s
  have e17 := f_times_ok hz.2 hz.2 (by omega) s
  have e18 := f_plus_ok (hz.1.mul hz.1) (hz.2.mul hz.2) (by omega) s
  have n0 := num_ne h0
  simp [f_circle, m_circle, qD_2, qD_1, ix_q0, ix_p0, ix_p1, pt_of, -opIx, e1, e2, e3, e4, n0, e5, e6, e7, e8, e9, e10, e11, e12, e13, e14, e15, e16, e17, e18]
theorem f_circle_non (h1 : pz i ax ay) (h2 : pz i bx by') (h3 : pz i cx cy) (h : 14 * (2 * i + 1) + 6 ≤ 8999) (h0 : 2 * ((bx - ax) * (cy - ay) - (by' - ay) * (cx - ax)) = 0) (s : DS) : f_circle [ptD ax ay, ptD bx by', ptD cx cy] s = .ok .non s := by
  have u := (h2.sub h1).mono (by omega : i + i + 1 ≤ 2 * i + 1)
  have v := (h3.sub h1).mono (by omega : i + i + 1 ≤ 2 * i + 1)
  have e1 := f_less_ok h2.1 h2.2 h1.1 h1.2 (by omega) s
  have e2 := f_less_ok h3.1 h3.2 h1.1 h1.2 (by omega) s
  have e3 := f_crossed_ok u.1 u.2 v.1 v.2 (by omega) s
  have e4 := f_times_ok sz_2 (u.cross v) (by omega) s
  rw [h0] at e4
  simp [f_circle, m_circle, qD_2, qD_1, ix_q0, ix_p0, ix_p1, pt_of, -opIx, e1, e2, e3, e4]
end
/-! ### two arcs -/
section
variable {px py tx ty qx qy ux uy l : Rat} {s : DS}
def lowV (px py tx ty qx qy ux uy l : Rat) : Rat := (qx - px) * ux + (qy - py) * uy - l * (tx * ux + ty * uy - 1)
def topV (px py tx ty qx qy ux uy l : Rat) : Rat := ((qx - px) * (qx - px) + (qy - py) * (qy - py)) / 2 - l * ((qx - px) * tx + (qy - py) * ty)
theorem low_sz (hp : pz 3 px py) (ht : pz 5 tx ty) (hq : pz 3 qx qy) (hu : pz 5 ux uy) (hl : szQ 4 l) : szQ 53 (lowV px py tx ty qx qy ux uy l) := by
  have g := hq.sub hp
  exact ((g.dot hu).sub (hl.mul ((ht.dot hu).sub sz_1))).mono (by decide)
theorem top_sz (hp : pz 3 px py) (ht : pz 5 tx ty) (hq : pz 3 qx qy) (hu : pz 5 ux uy) (hl : szQ 4 l) : szQ 61 (topV px py tx ty qx qy ux uy l) := by
  have g := hq.sub hp
  exact ((szDiv (g.dot g) sz_2 (by decide)).sub (hl.mul (g.dot ht))).mono (by decide)
theorem f_second_ok (hp : pz 3 px py) (ht : pz 5 tx ty) (hq : pz 3 qx qy) (hu : pz 5 ux uy) (hl : szQ 4 l) (h0 : lowV px py tx ty qx qy ux uy l ≠ 0) (s : DS) :
    f_second_length [ptD px py, ptD tx ty, ptD qx qy, ptD ux uy, qD l] s = .ok (qD (topV px py tx ty qx qy ux uy l / lowV px py tx ty qx qy ux uy l)) s := by
  have zl := low_sz hp ht hq hu hl
  have zt := top_sz hp ht hq hu hl
  have g := hq.sub hp
  have e1 := f_less_ok hq.1 hq.2 hp.1 hp.2 (by omega) s
  have e2 := f_dot_ok g.1 g.2 g.1 g.2 (by omega) s
  have e3 := f_over_ok (g.dot g) sz_2 (by omega) (by decide) s
  have e4 := f_dot_ok g.1 g.2 ht.1 ht.2 (by omega) s
  have e5 := f_times_ok hl (g.dot ht) (by omega) s
  have e6 := f_minus_ok (szDiv (g.dot g) sz_2 (by decide)) (hl.mul (g.dot ht)) (by omega) s
  have e7 := f_dot_ok g.1 g.2 hu.1 hu.2 (by omega) s
  have e8 := f_dot_ok ht.1 ht.2 hu.1 hu.2 (by omega) s
  have e9 := f_minus_ok (ht.dot hu) sz_1 (by omega) s
  have e10 := f_times_ok hl ((ht.dot hu).sub sz_1) (by omega) s
  have e11 := f_minus_ok (g.dot hu) (hl.mul ((ht.dot hu).sub sz_1)) (by omega) s
  have e12 := f_over_ok zt zl (by omega) h0 s
  have n0 := num_ne h0
  unfold topV lowV at *
  simp [f_second_length, m_second_length, qD_2, qD_1, ix_q0, ix_p0, ix_p1, pt_of, -opIx, e1, e2, e3, e4, e5, e6, e7, e8, e9, e10, e11, n0, e12]
theorem f_second_exc (hp : pz 3 px py) (ht : pz 5 tx ty) (hq : pz 3 qx qy) (hu : pz 5 ux uy) (hl : szQ 4 l) (h0 : lowV px py tx ty qx qy ux uy l = 0) (s : DS) :
    f_second_length [ptD px py, ptD tx ty, ptD qx qy, ptD ux uy, qD l] s = .exc (mis "length") s := by
  have g := hq.sub hp
  have e1 := f_less_ok hq.1 hq.2 hp.1 hp.2 (by omega) s
  have e2 := f_dot_ok g.1 g.2 g.1 g.2 (by omega) s
  have e3 := f_over_ok (g.dot g) sz_2 (by omega) (by decide) s
  have e4 := f_dot_ok g.1 g.2 ht.1 ht.2 (by omega) s
  have e5 := f_times_ok hl (g.dot ht) (by omega) s
  have e6 := f_minus_ok (szDiv (g.dot g) sz_2 (by decide)) (hl.mul (g.dot ht)) (by omega) s
  have e7 := f_dot_ok g.1 g.2 hu.1 hu.2 (by omega) s
  have e8 := f_dot_ok ht.1 ht.2 hu.1 hu.2 (by omega) s
  have e9 := f_minus_ok (ht.dot hu) sz_1 (by omega) s
  have e10 := f_times_ok hl ((ht.dot hu).sub sz_1) (by omega) s
  have e11 := f_minus_ok (g.dot hu) (hl.mul ((ht.dot hu).sub sz_1)) (by omega) s
  unfold lowV at h0
  rw [h0] at e11
  simp [f_second_length, m_second_length, qD_2, qD_1, ix_q0, ix_p0, ix_p1, pt_of, -opIx, e1, e2, e3, e4, e5, e6, e7, e8, e9, e10, e11, mis]
end
end L2.Mir.W

set_option Elab.async false
set_option linter.all false
set_option maxRecDepth 100000
namespace L2.Mir.W
open PySem PySem.Spec PyProof.Rows
/-- what two arcs are made of -/
structure Bi (px py tx ty qx qy ux uy l : Rat) : Prop where
  p : pz 3 px py
  t : pz 5 tx ty
  q : pz 3 qx qy
  u : pz 5 ux uy
  l : szQ 4 l
def muV (px py tx ty qx qy ux uy l : Rat) : Rat := topV px py tx ty qx qy ux uy l / lowV px py tx ty qx qy ux uy l
def spX (px py tx ty qx qy ux uy l : Rat) : Rat := (px + l * tx) + l / (l + muV px py tx ty qx qy ux uy l) * ((qx + -muV px py tx ty qx qy ux uy l * ux) - (px + l * tx))
def spY (px py tx ty qx qy ux uy l : Rat) : Rat := (py + l * ty) + l / (l + muV px py tx ty qx qy ux uy l) * ((qy + -muV px py tx ty qx qy ux uy l * uy) - (py + l * ty))
section
variable {px py tx ty qx qy ux uy l : Rat} {s : DS}
theorem Bi.mu (B : Bi px py tx ty qx qy ux uy l) (h0 : lowV px py tx ty qx qy ux uy l ≠ 0) : szQ 114 (muV px py tx ty qx qy ux uy l) :=
  (szDiv (top_sz B.p B.t B.q B.u B.l) (low_sz B.p B.t B.q B.u B.l) h0).mono (by decide)
theorem Bi.one (B : Bi px py tx ty qx qy ux uy l) : pz 13 (px + l * tx) (py + l * ty) := (B.p.put B.t B.l).mono (by decide)
theorem Bi.two (B : Bi px py tx ty qx qy ux uy l) (h0 : lowV px py tx ty qx qy ux uy l ≠ 0) : pz 123 (qx + -muV px py tx ty qx qy ux uy l * ux) (qy + -muV px py tx ty qx qy ux uy l * uy) := (B.q.put B.u (B.mu h0).neg).mono (by decide)
theorem Bi.there (B : Bi px py tx ty qx qy ux uy l) (h0 : lowV px py tx ty qx qy ux uy l ≠ 0) : pz 137 ((qx + -muV px py tx ty qx qy ux uy l * ux) - (px + l * tx)) ((qy + -muV px py tx ty qx qy ux uy l * uy) - (py + l * ty)) := ((B.two h0).sub B.one).mono (by decide)
theorem Bi.whole (B : Bi px py tx ty qx qy ux uy l) (h0 : lowV px py tx ty qx qy ux uy l ≠ 0) : szQ 119 (l + muV px py tx ty qx qy ux uy l) := (B.l.add (B.mu h0)).mono (by decide)
theorem Bi.spot (B : Bi px py tx ty qx qy ux uy l) (h0 : lowV px py tx ty qx qy ux uy l ≠ 0) (hw : l + muV px py tx ty qx qy ux uy l ≠ 0) : pz 274 (spX px py tx ty qx qy ux uy l) (spY px py tx ty qx qy ux uy l) :=
  (B.one.put (B.there h0) (szDiv B.l (B.whole h0) hw)).mono (by decide)
theorem f_second_ok' (B : Bi px py tx ty qx qy ux uy l) (h0 : lowV px py tx ty qx qy ux uy l ≠ 0) (s : DS) : f_second_length [ptD px py, ptD tx ty, ptD qx qy, ptD ux uy, qD l] s = .ok (qD (muV px py tx ty qx qy ux uy l)) s := f_second_ok B.p B.t B.q B.u B.l h0 s
theorem f_joint_ok (B : Bi px py tx ty qx qy ux uy l) (h0 : lowV px py tx ty qx qy ux uy l ≠ 0) (hw : l + muV px py tx ty qx qy ux uy l ≠ 0) (s : DS) :
    f_joint [ptD px py, ptD tx ty, ptD qx qy, ptD ux uy, qD l] s = .ok (ptD (spX px py tx ty qx qy ux uy l) (spY px py tx ty qx qy ux uy l)) s := by
  have e1 := f_second_ok' B h0 s
  have zm := B.mu h0
  have e2 := f_plus_ok B.l zm (by omega) s
  have e3 := f_put_ok B.p.1 B.p.2 B.t.1 B.t.2 B.l (by omega) s
  have e4 := f_times_ok sz_m1 zm (by omega) s
  have ee : -1 * muV px py tx ty qx qy ux uy l = -muV px py tx ty qx qy ux uy l := by grind
  rw [ee] at e4
  have e5 := f_put_ok B.q.1 B.q.2 B.u.1 B.u.2 zm.neg (by omega) s
  have e6 := f_less_ok (B.two h0).1 (B.two h0).2 B.one.1 B.one.2 (by omega) s
  have e7 := f_over_ok B.l (B.whole h0) (by omega) hw s
  have e8 := f_put_ok B.one.1 B.one.2 (B.there h0).1 (B.there h0).2 (szDiv B.l (B.whole h0) hw) (by omega) s
  have n0 := num_ne hw
  simp [f_joint, m_joint, qD_m1, ix_q0, pt_of, -opIx, e1, e2, n0, e3, e4, e5, e6, e7, e8]
  rfl
theorem f_joint_low (B : Bi px py tx ty qx qy ux uy l) (h0 : lowV px py tx ty qx qy ux uy l = 0) (s : DS) : f_joint [ptD px py, ptD tx ty, ptD qx qy, ptD ux uy, qD l] s = .exc (mis "length") s := by
  have e1 := f_second_exc B.p B.t B.q B.u B.l h0 s
  simp [f_joint, m_joint, e1]
theorem f_joint_whole (B : Bi px py tx ty qx qy ux uy l) (h0 : lowV px py tx ty qx qy ux uy l ≠ 0) (hw : l + muV px py tx ty qx qy ux uy l = 0) (s : DS) : f_joint [ptD px py, ptD tx ty, ptD qx qy, ptD ux uy, qD l] s = .exc (mis "joint") s := by
  have e1 := f_second_ok' B h0 s
  have zm := B.mu h0
  have e2 := f_plus_ok B.l zm (by omega) s
  rw [hw] at e2
  simp [f_joint, m_joint, ix_q0, -opIx, e1, e2, mis]
theorem f_way_there_ok (B : Bi px py tx ty qx qy ux uy l) (h0 : lowV px py tx ty qx qy ux uy l ≠ 0) (s : DS) :
    f_way_there [ptD px py, ptD tx ty, ptD qx qy, ptD ux uy, qD l] s = .ok (ptD ((qx + -muV px py tx ty qx qy ux uy l * ux) - (px + l * tx)) ((qy + -muV px py tx ty qx qy ux uy l * uy) - (py + l * ty))) s := by
  have e1 := f_second_ok' B h0 s
  have zm := B.mu h0
  have e3 := f_put_ok B.p.1 B.p.2 B.t.1 B.t.2 B.l (by omega) s
  have e4 := f_times_ok sz_m1 zm (by omega) s
  have ee : -1 * muV px py tx ty qx qy ux uy l = -muV px py tx ty qx qy ux uy l := by grind
  rw [ee] at e4
  have e5 := f_put_ok B.q.1 B.q.2 B.u.1 B.u.2 zm.neg (by omega) s
  have e6 := f_less_ok (B.two h0).1 (B.two h0).2 B.one.1 B.one.2 (by omega) s
  simp [f_way_there, m_way_there, qD_m1, ix_q0, pt_of, -opIx, e1, e3, e4, e5, e6]
/-! the laws of two arcs -/
/-- the way there is as long as the whole -/
theorem there_len (ht : tx * tx + ty * ty = 1) (hu : ux * ux + uy * uy = 1) (h0 : lowV px py tx ty qx qy ux uy l ≠ 0) :
    ((qx + -muV px py tx ty qx qy ux uy l * ux) - (px + l * tx)) * ((qx + -muV px py tx ty qx qy ux uy l * ux) - (px + l * tx)) + ((qy + -muV px py tx ty qx qy ux uy l * uy) - (py + l * ty)) * ((qy + -muV px py tx ty qx qy ux uy l * uy) - (py + l * ty))
      = (l + muV px py tx ty qx qy ux uy l) * (l + muV px py tx ty qx qy ux uy l) := by
  have hm : muV px py tx ty qx qy ux uy l * lowV px py tx ty qx qy ux uy l = topV px py tx ty qx qy ux uy l := by unfold muV; grind
  generalize muV px py tx ty qx qy ux uy l = m at *
  unfold lowV topV at hm
  grind
end
end L2.Mir.W

set_option Elab.async false
set_option linter.all false
set_option maxRecDepth 100000
namespace L2.Mir.W
open PySem PySem.Spec PyProof.Rows
theorem reflect {tx ty nx ny l : Rat} (ht : tx * tx + ty * ty = 1) (hn : nx * nx + ny * ny = 1) (h0 : (l * (tx + nx)) * (l * (tx + nx)) + (l * (ty + ny)) * (l * (ty + ny)) ≠ 0) :
    2 * (tx * (l * (tx + nx)) + ty * (l * (ty + ny))) / ((l * (tx + nx)) * (l * (tx + nx)) + (l * (ty + ny)) * (l * (ty + ny))) * (l * (tx + nx)) - tx = nx := by
  have hD : (l * (tx + nx)) * (l * (tx + nx)) + (l * (ty + ny)) * (l * (ty + ny)) = 2 * (l * (l * (1 + (tx * nx + ty * ny)))) := by grind
  have hT : tx * (l * (tx + nx)) + ty * (l * (ty + ny)) = l * (1 + (tx * nx + ty * ny)) := by grind
  rw [hD] at h0 ⊢
  rw [hT]
  generalize 1 + (tx * nx + ty * ny) = c at *
  have l0 : l ≠ 0 := fun z => h0 (by rw [z]; grind)
  have c0 : c ≠ 0 := fun z => h0 (by rw [z]; grind)
  grind
section
variable {px py tx ty qx qy ux uy l : Rat}
/-- all joints lie on one circle (or on one line) -/
theorem joint_circle (ht : tx * tx + ty * ty = 1) (hu : ux * ux + uy * uy = 1) (h0 : lowV px py tx ty qx qy ux uy l ≠ 0) (hw : l + muV px py tx ty qx qy ux uy l ≠ 0) :
    (1 - (tx * ux + ty * uy)) * ((spX px py tx ty qx qy ux uy l - px) * (spX px py tx ty qx qy ux uy l - px) + (spY px py tx ty qx qy ux uy l - py) * (spY px py tx ty qx qy ux uy l - py))
      = (spX px py tx ty qx qy ux uy l - px) * ((1 - (tx * ux + ty * uy)) * (qx - px) - (tx * uy - ty * ux) * (qy - py)) + (spY px py tx ty qx qy ux uy l - py) * ((tx * uy - ty * ux) * (qx - px) + (1 - (tx * ux + ty * uy)) * (qy - py)) := by
  have hm : muV px py tx ty qx qy ux uy l * lowV px py tx ty qx qy ux uy l = topV px py tx ty qx qy ux uy l := by unfold muV; grind
  unfold spX spY
  generalize muV px py tx ty qx qy ux uy l = m at *
  unfold lowV topV at hm
  have e1 : px + l * tx + l / (l + m) * (qx + -m * ux - (px + l * tx)) - px = l / (l + m) * ((qx - px) + m * (tx - ux)) := by grind
  have e2 : py + l * ty + l / (l + m) * (qy + -m * uy - (py + l * ty)) - py = l / (l + m) * ((qy - py) + m * (ty - uy)) := by grind
  rw [e1, e2]
  generalize qx - px = gx at *
  generalize qy - py = gy at *
  have key : (1 - (tx * ux + ty * uy)) * (l * ((gx + m * (tx - ux)) * (gx + m * (tx - ux)) + (gy + m * (ty - uy)) * (gy + m * (ty - uy)))) = (l + m) * ((gx + m * (tx - ux)) * ((1 - (tx * ux + ty * uy)) * gx - (tx * uy - ty * ux) * gy) + (gy + m * (ty - uy)) * ((tx * uy - ty * ux) * gx + (1 - (tx * ux + ty * uy)) * gy)) := by
    grind
  generalize gx + m * (tx - ux) = vx at *
  generalize gy + m * (ty - uy) = vy at *
  generalize 1 - (tx * ux + ty * uy) = c at *
  generalize c * gx - (tx * uy - ty * ux) * gy = nx at *
  generalize (tx * uy - ty * ux) * gx + c * gy = ny at *
  generalize l + m = w at *
  have : l / w * w = l := by grind
  generalize l / w = r at *
  subst this
  have k2 : c * (r * (vx * vx + vy * vy)) = vx * nx + vy * ny := by grind
  grind
end
end L2.Mir.W

set_option Elab.async false
set_option linter.all false
set_option maxRecDepth 100000
namespace L2.Mir.W
open PySem PySem.Spec PyProof.Rows
theorem sq2_zero {a b : Rat} (h : a * a + b * b = 0) : a = 0 ∧ b = 0 := by
  have h1 := sq_pos a
  have h2 := sq_pos b
  have h3 : a * a = 0 := by grind
  have h4 : b * b = 0 := by grind
  exact ⟨by grind, by grind⟩
theorem same_way {tx ty ux uy : Rat} (ht : tx * tx + ty * ty = 1) (hu : ux * ux + uy * uy = 1) (h : 1 - (tx * ux + ty * uy) = 0) : tx = ux ∧ ty = uy := by
  have := sq2_zero (a := tx - ux) (b := ty - uy) (by grind)
  exact ⟨by grind, by grind⟩
theorem not_line {u0 u1 v0 v1 w0 w1 : Rat} (hu : ¬ (u0 = 0 ∧ u1 = 0)) (hv : ¬ (v0 = 0 ∧ v1 = 0)) (huv : ¬ (u0 = v0 ∧ u1 = v1)) (h1 : 2 * (u0 * w0 + u1 * w1) = u0 * u0 + u1 * u1) (h2 : 2 * (v0 * w0 + v1 * w1) = v0 * v0 + v1 * v1) : u0 * v1 - u1 * v0 ≠ 0 := by
  intro hc
  have n0 : u0 * u0 + u1 * u1 ≠ 0 := fun z => hu (sq2_zero z)
  have e0 : v0 * (u0 * u0 + u1 * u1) = u0 * (u0 * v0 + u1 * v1) := by grind
  have e1 : v1 * (u0 * u0 + u1 * u1) = u1 * (u0 * v0 + u1 * v1) := by grind
  have k0 : v0 = (u0 * v0 + u1 * v1) / (u0 * u0 + u1 * u1) * u0 := by grind
  have k1 : v1 = (u0 * v0 + u1 * v1) / (u0 * u0 + u1 * u1) * u1 := by grind
  generalize (u0 * v0 + u1 * v1) / (u0 * u0 + u1 * u1) = k at *
  have h3 : k * (u0 * u0 + u1 * u1) = k * k * (u0 * u0 + u1 * u1) := by
    rw [k0, k1] at h2
    grind
  have h4 : k * (1 - k) * (u0 * u0 + u1 * u1) = 0 := by grind
  have h5 : k * (1 - k) = 0 := by grind
  rcases Rat.mul_eq_zero.mp h5 with z | z
  · exact hv ⟨by rw [k0, z]; grind, by rw [k1, z]; grind⟩
  · have : k = 1 := by grind
    exact huv ⟨by rw [k0, this]; grind, by rw [k1, this]; grind⟩
/-- three points of a circle tell its middle -/
theorem circ3 {ax ay bx by' cx cy mx my r : Rat} (hab : ¬ (ax = bx ∧ ay = by')) (hac : ¬ (ax = cx ∧ ay = cy)) (hbc : ¬ (bx = cx ∧ by' = cy))
    (ha : (ax - mx) * (ax - mx) + (ay - my) * (ay - my) = r) (hb : (bx - mx) * (bx - mx) + (by' - my) * (by' - my) = r) (hc : (cx - mx) * (cx - mx) + (cy - my) * (cy - my) = r) :
    2 * ((bx - ax) * (cy - ay) - (by' - ay) * (cx - ax)) ≠ 0 ∧
    (((bx - ax) * (bx - ax) + (by' - ay) * (by' - ay)) * (cy - ay) - ((cx - ax) * (cx - ax) + (cy - ay) * (cy - ay)) * (by' - ay)) / (2 * ((bx - ax) * (cy - ay) - (by' - ay) * (cx - ax))) = mx - ax ∧
    (((cx - ax) * (cx - ax) + (cy - ay) * (cy - ay)) * (bx - ax) - ((bx - ax) * (bx - ax) + (by' - ay) * (by' - ay)) * (cx - ax)) / (2 * ((bx - ax) * (cy - ay) - (by' - ay) * (cx - ax))) = my - ay := by
  have e1 : 2 * ((bx - ax) * (mx - ax) + (by' - ay) * (my - ay)) = (bx - ax) * (bx - ax) + (by' - ay) * (by' - ay) := by grind
  have e2 : 2 * ((cx - ax) * (mx - ax) + (cy - ay) * (my - ay)) = (cx - ax) * (cx - ax) + (cy - ay) * (cy - ay) := by grind
  have n := not_line (u0 := bx - ax) (u1 := by' - ay) (v0 := cx - ax) (v1 := cy - ay) (fun z => hab (by grind)) (fun z => hac (by grind)) (fun z => hbc (by grind)) e1 e2
  generalize bx - ax = u0 at *
  generalize by' - ay = u1 at *
  generalize cx - ax = v0 at *
  generalize cy - ay = v1 at *
  generalize mx - ax = w0 at *
  generalize my - ay = w1 at *
  refine ⟨by grind, ?_, ?_⟩
  · rw [← e1, ← e2]; grind
  · rw [← e1, ← e2]; grind
/-! joints -/
abbrev Pt := Rat × Rat
def pD (p : Pt) : D := ptD p.1 p.2
def jV (px py tx ty qx qy ux uy l : Rat) : Option Pt := if lowV px py tx ty qx qy ux uy l = 0 then none else if l + muV px py tx ty qx qy ux uy l = 0 then none else some (spX px py tx ty qx qy ux uy l, spY px py tx ty qx qy ux uy l)
section
variable {px py tx ty qx qy ux uy l : Rat} {s : DS}
theorem joint_cases (B : Bi px py tx ty qx qy ux uy l) (s : DS) : (∃ p, jV px py tx ty qx qy ux uy l = some p ∧ f_joint [ptD px py, ptD tx ty, ptD qx qy, ptD ux uy, qD l] s = .ok (pD p) s ∧ pz 274 p.1 p.2) ∨
    (jV px py tx ty qx qy ux uy l = none ∧ ∃ w, f_joint [ptD px py, ptD tx ty, ptD qx qy, ptD ux uy, qD l] s = .exc (mis w) s) := by
  unfold jV
  by_cases h0 : lowV px py tx ty qx qy ux uy l = 0
  · right
    rw [if_pos h0]
    exact ⟨rfl, _, f_joint_low B h0 s⟩
  · rw [if_neg h0]
    by_cases hw : l + muV px py tx ty qx qy ux uy l = 0
    · right
      rw [if_pos hw]
      exact ⟨rfl, _, f_joint_whole B h0 hw s⟩
    · left
      rw [if_neg hw]
      exact ⟨_, rfl, f_joint_ok B h0 hw s, B.spot h0 hw⟩
end
theorem inD_p (p : Pt) (l : List Pt) : inD (pD p) (l.map pD) = decide (p ∈ l) := by
  unfold inD
  induction l with
  | nil => simp
  | cons q l ih =>
    rw [List.map_cons, List.any_cons, ih]
    simp only [pD, deq_p]
    obtain ⟨a, b⟩ := p
    obtain ⟨c, d⟩ := q
    rw [Bool.eq_iff_iff]
    simp
    constructor
    · rintro (⟨rfl, rfl⟩ | h)
      · exact .inl ⟨rfl, rfl⟩
      · exact .inr h
    · rintro (⟨rfl, rfl⟩ | h)
      · exact .inl ⟨rfl, rfl⟩
      · exact .inr h
end L2.Mir.W

set_option Elab.async false
set_option linter.all false
set_option maxRecDepth 100000
namespace L2.Mir.W
open PySem PySem.Spec PyProof.Rows
/-- two points with ways, of the sizes drawn -/
structure Ends2 (px py tx ty qx qy ux uy : Rat) : Prop where
  p : pz 3 px py
  t : pz 5 tx ty
  q : pz 3 qx qy
  u : pz 5 ux uy
  tu : tx * tx + ty * ty = 1
  uu : ux * ux + uy * uy = 1
def addJ (px py tx ty qx qy ux uy : Rat) (acc : List Pt) (n : Int) : List Pt := match jV px py tx ty qx qy ux uy (n : Rat) with
  | none => acc
  | some p => if p ∈ acc then acc else acc ++ [p]
theorem okDs_p (n : Nat) : ∀ l : List Pt, okDs (n + 2) (l.map pD) = true
  | [] => by simp
  | p :: l => by
    rw [List.map_cons]
    simp only [okDs, okDs_p n l, Bool.and_true]
    simp [pD, ptD]
theorem okDs_59 (l : List Pt) : okDs 59 (l.map pD) = true := okDs_p 57 l
theorem okD_pD (p : Pt) : okD 60 (pD p) = true := okD_p60 _ _
theorem rng_12 : rngD 1 12 = ([1, 2, 3, 4, 5, 6, 7, 8, 9, 10, 11] : List Int).map D.int := rfl
theorem sz_n {n : Int} (h1 : 1 ≤ n) (h2 : n ≤ 11) : szQ 4 (n : Rat) := ⟨by show n.natAbs < 2 ^ 4; omega, by show 1 < 2 ^ 4; decide⟩
theorem qD_n (n : Int) : D.tup [.int n, .int 1] = qD (n : Rat) := rfl
section
variable {px py tx ty qx qy ux uy : Rat} {s : DS}
theorem Ends2.bi (E : Ends2 px py tx ty qx qy ux uy) {l : Rat} (h : szQ 4 l) : Bi px py tx ty qx qy ux uy l := ⟨E.p, E.t, E.q, E.u, h⟩
noncomputable def bd_j : MS := (sSeq (sTry 0 (rHide (mCR f_joint (mCons (mVar 0) (mCons (mVar 1) (mCons (mVar 2) (mCons (mVar 3) (mCons (mTup (mCons (mVar 5) (mCons (mC (.int 1)) mNil))) mNil))))))) (sSet false 6 (mCall f_joint (mCons (mVar 0) (mCons (mVar 1) (mCons (mVar 2) (mCons (mVar 3) (mCons (mTup (mCons (mVar 5) (mCons (mC (.int 1)) mNil))) mNil))))))) (fun _ => sCt)) (sIf (mCmpT (opIn true) (mVar 6) (mVar 4)) (sApp false 4 (mVar 6)) sNx))
theorem jc_go (E : Ends2 px py tx ty qx qy ux uy) : ∀ (ns : List Int) (acc : List Pt) (x5 x6 : Sl), (∀ n ∈ ns, 1 ≤ n ∧ n ≤ 11) → acc.length + ns.length ≤ 1000 →
    ∃ y5 y6, forGo (.n 5) bd_j (ns.map D.int) [.val (ptD px py), .val (ptD tx ty), .val (ptD qx qy), .val (ptD ux uy), .own (acc.map pD), x5, x6] s = .ok (.nx [.val (ptD px py), .val (ptD tx ty), .val (ptD qx qy), .val (ptD ux uy), .own ((ns.foldl (addJ px py tx ty qx qy ux uy) acc).map pD), y5, y6]) s
  | [], acc, x5, x6, _, _ => ⟨x5, x6, rfl⟩
  | n :: ns, acc, x5, x6, hn, hl => by
    obtain ⟨n1, n2⟩ := hn n List.mem_cons_self
    have hns : ∀ m ∈ ns, 1 ≤ m ∧ m ≤ 11 := fun m hm => hn m (List.mem_cons_of_mem _ hm)
    simp only [List.length_cons] at hl
    rcases joint_cases (E.bi (sz_n n1 n2)) s with ⟨p, e1, e2, _⟩ | ⟨e1, w, e2⟩
    · have hi := inD_p p acc
      by_cases c : p ∈ acc
      · obtain ⟨y5, y6, h⟩ := jc_go E ns acc (.val (.int n)) (.val (pD p)) hns (by omega)
        refine ⟨y5, y6, ?_⟩
        have ea : addJ px py tx ty qx qy ux uy acc n = acc := by unfold addJ; rw [e1]; simp [c]
        rw [List.foldl_cons, ea, ← h]
        simp [forGo, bd_j, qD_n, e2, okDs_59, okD_pD, hi, c]
      · have hlen : LenOk (acc.length + 1) := LenOk.small (by omega)
        obtain ⟨y5, y6, h⟩ := jc_go E ns (acc ++ [p]) (.val (.int n)) (.val (pD p)) hns (by simp; omega)
        refine ⟨y5, y6, ?_⟩
        have ea : addJ px py tx ty qx qy ux uy acc n = acc ++ [p] := by unfold addJ; rw [e1]; simp [c]
        rw [List.foldl_cons, ea, ← h]
        simp [forGo, bd_j, qD_n, e2, okDs_59, okD_pD, hi, c, hlen]
    · obtain ⟨y5, y6, h⟩ := jc_go E ns acc (.val (.int n)) x6 hns (by omega)
      refine ⟨y5, y6, ?_⟩
      have ea : addJ px py tx ty qx qy ux uy acc n = acc := by unfold addJ; rw [e1]
      rw [List.foldl_cons, ea, ← h]
      simp [forGo, bd_j, qD_n, e2, mis]
end
end L2.Mir.W

set_option Elab.async false
set_option linter.all false
set_option maxRecDepth 100000
namespace L2.Mir.W
open PySem PySem.Spec PyProof.Rows
section
variable {px py tx ty qx qy ux uy l : Rat} {s : DS}
theorem jV_some {p : Pt} (h : jV px py tx ty qx qy ux uy l = some p) : lowV px py tx ty qx qy ux uy l ≠ 0 ∧ l + muV px py tx ty qx qy ux uy l ≠ 0 ∧ p.1 = spX px py tx ty qx qy ux uy l ∧ p.2 = spY px py tx ty qx qy ux uy l := by
  unfold jV at h
  split at h
  · cases h
  · split at h
    · cases h
    · cases h
      exact ⟨by assumption, by assumption, rfl, rfl⟩
/-- a joint of some length -/
def IsJ (px py tx ty qx qy ux uy : Rat) (p : Pt) : Prop := ∃ l, szQ 4 l ∧ jV px py tx ty qx qy ux uy l = some p
theorem IsJ.sz {p : Pt} (E : Ends2 px py tx ty qx qy ux uy) (h : IsJ px py tx ty qx qy ux uy p) : pz 274 p.1 p.2 := by
  obtain ⟨l, hl, h⟩ := h
  obtain ⟨h0, hw, e1, e2⟩ := jV_some h
  rw [e1, e2]
  exact (E.bi hl).spot h0 hw
theorem IsJ.line {p : Pt} (E : Ends2 px py tx ty qx qy ux uy) (h : IsJ px py tx ty qx qy ux uy p) (hc : 1 - (tx * ux + ty * uy) = 0) : ∃ r, p.1 = px + r * (qx - px) ∧ p.2 = py + r * (qy - py) := by
  obtain ⟨l, hl, h⟩ := h
  obtain ⟨h0, hw, e1, e2⟩ := jV_some h
  obtain ⟨t1, t2⟩ := same_way E.tu E.uu hc
  refine ⟨l / (l + muV px py tx ty qx qy ux uy l), ?_, ?_⟩
  · rw [e1]; unfold spX; rw [← t1]; grind
  · rw [e2]; unfold spY; rw [← t2]; grind
def mX (px py tx ty qx qy ux uy : Rat) : Rat := px + ((1 - (tx * ux + ty * uy)) * (qx - px) - (tx * uy - ty * ux) * (qy - py)) / (2 * (1 - (tx * ux + ty * uy)))
def mY (px py tx ty qx qy ux uy : Rat) : Rat := py + ((tx * uy - ty * ux) * (qx - px) + (1 - (tx * ux + ty * uy)) * (qy - py)) / (2 * (1 - (tx * ux + ty * uy)))
def rV (px py tx ty qx qy ux uy : Rat) : Rat := (px - mX px py tx ty qx qy ux uy) * (px - mX px py tx ty qx qy ux uy) + (py - mY px py tx ty qx qy ux uy) * (py - mY px py tx ty qx qy ux uy)
theorem m_sz (E : Ends2 px py tx ty qx qy ux uy) (hc : 1 - (tx * ux + ty * uy) ≠ 0) : pz 88 (mX px py tx ty qx qy ux uy) (mY px py tx ty qx qy ux uy) := by
  have g := E.q.sub E.p
  have z1 : szQ 23 (1 - (tx * ux + ty * uy)) := (sz_1.sub (E.t.dot E.u)).mono (by decide)
  have z2 : szQ 21 (tx * uy - ty * ux) := (E.t.cross E.u).mono (by decide)
  have z3 : szQ 25 (2 * (1 - (tx * ux + ty * uy))) := (sz_2.mul z1).mono (by decide)
  have n3 : 2 * (1 - (tx * ux + ty * uy)) ≠ 0 := by grind
  exact ⟨(E.p.1.add (szDiv ((z1.mul g.1).sub (z2.mul g.2)) z3 n3)).mono (by decide), (E.p.2.add (szDiv ((z2.mul g.1).add (z1.mul g.2)) z3 n3)).mono (by decide)⟩
theorem IsJ.circ {p : Pt} (E : Ends2 px py tx ty qx qy ux uy) (h : IsJ px py tx ty qx qy ux uy p) (hc : 1 - (tx * ux + ty * uy) ≠ 0) :
    (p.1 - mX px py tx ty qx qy ux uy) * (p.1 - mX px py tx ty qx qy ux uy) + (p.2 - mY px py tx ty qx qy ux uy) * (p.2 - mY px py tx ty qx qy ux uy) = rV px py tx ty qx qy ux uy := by
  obtain ⟨l, hl, h⟩ := h
  obtain ⟨h0, hw, e1, e2⟩ := jV_some h
  have k := joint_circle E.tu E.uu h0 hw
  rw [← e1, ← e2] at k
  unfold rV mX mY
  generalize p.1 = x at *
  generalize p.2 = y at *
  generalize (1 - (tx * ux + ty * uy)) * (qx - px) - (tx * uy - ty * ux) * (qy - py) = nx at *
  generalize (tx * uy - ty * ux) * (qx - px) + (1 - (tx * ux + ty * uy)) * (qy - py) = ny at *
  generalize 1 - (tx * ux + ty * uy) = c at *
  have a1 : 2 * c ≠ 0 := by grind
  have b1 : nx = nx / (2 * c) * (2 * c) := by grind
  have b2 : ny = ny / (2 * c) * (2 * c) := by grind
  generalize nx / (2 * c) = ex at *
  generalize ny / (2 * c) = ey at *
  subst b1 b2
  have k2 : (x - px) * (x - px) + (y - py) * (y - py) = 2 * ((x - px) * ex + (y - py) * ey) := by grind
  grind
/-! the list of joints -/
def spotsL (px py tx ty qx qy ux uy : Rat) : List Pt := ([1, 2, 3, 4, 5, 6, 7, 8, 9, 10, 11] : List Int).foldl (addJ px py tx ty qx qy ux uy) []
theorem addJ_good {acc : List Pt} {n : Int} (h1 : 1 ≤ n) (h2 : n ≤ 11) (h : acc.Nodup ∧ ∀ p ∈ acc, IsJ px py tx ty qx qy ux uy p) : (addJ px py tx ty qx qy ux uy acc n).Nodup ∧ ∀ p ∈ addJ px py tx ty qx qy ux uy acc n, IsJ px py tx ty qx qy ux uy p := by
  unfold addJ
  split
  · exact h
  · rename_i p e
    split
    · exact h
    · rename_i c
      refine ⟨?_, fun q hq => ?_⟩
      · rw [List.nodup_append]
        refine ⟨h.1, by simp, fun a ha b hb z => ?_⟩
        rw [List.mem_singleton.mp hb] at z
        exact c (z ▸ ha)
      · rcases List.mem_append.mp hq with hq | hq
        · exact h.2 q hq
        · rw [List.mem_singleton.mp hq]
          exact ⟨_, sz_n h1 h2, e⟩
theorem foldJ_good : ∀ (ns : List Int) (acc : List Pt), (∀ n ∈ ns, 1 ≤ n ∧ n ≤ 11) → (acc.Nodup ∧ ∀ p ∈ acc, IsJ px py tx ty qx qy ux uy p) → (ns.foldl (addJ px py tx ty qx qy ux uy) acc).Nodup ∧ ∀ p ∈ ns.foldl (addJ px py tx ty qx qy ux uy) acc, IsJ px py tx ty qx qy ux uy p
  | [], acc, _, h => h
  | n :: ns, acc, hn, h => foldJ_good ns _ (fun m hm => hn m (List.mem_cons_of_mem _ hm)) (addJ_good (hn n List.mem_cons_self).1 (hn n List.mem_cons_self).2 h)
theorem n11 : ∀ n ∈ ([1, 2, 3, 4, 5, 6, 7, 8, 9, 10, 11] : List Int), 1 ≤ n ∧ n ≤ 11 := by decide
theorem spotsL_good : (spotsL px py tx ty qx qy ux uy).Nodup ∧ ∀ p ∈ spotsL px py tx ty qx qy ux uy, IsJ px py tx ty qx qy ux uy p := foldJ_good _ [] n11 ⟨List.nodup_nil, by simp⟩
theorem addJ_len {acc : List Pt} {n : Int} : (addJ px py tx ty qx qy ux uy acc n).length ≤ acc.length + 1 := by
  unfold addJ
  split
  · omega
  · split
    · omega
    · simp
theorem foldJ_len : ∀ (ns : List Int) (acc : List Pt), (ns.foldl (addJ px py tx ty qx qy ux uy) acc).length ≤ acc.length + ns.length
  | [], acc => by simp
  | n :: ns, acc => by
    have h1 := foldJ_len ns (addJ px py tx ty qx qy ux uy acc n)
    have h2 := @addJ_len px py tx ty qx qy ux uy acc n
    simp only [List.foldl_cons, List.length_cons]
    omega
theorem spotsL_len : (spotsL px py tx ty qx qy ux uy).length ≤ 11 := by
  have := foldJ_len (px := px) (py := py) (tx := tx) (ty := ty) (qx := qx) (qy := qy) (ux := ux) (uy := uy) [1, 2, 3, 4, 5, 6, 7, 8, 9, 10, 11] []
  simpa [spotsL] using this
theorem joints_circle_few (E : Ends2 px py tx ty qx qy ux uy) (h : (spotsL px py tx ty qx qy ux uy).length < 3) (s : DS) : f_joints_circle [ptD px py, ptD tx ty, ptD qx qy, ptD ux uy] s = .exc (mis "joint") s := by
  obtain ⟨y5, y6, g⟩ := jc_go (s := s) E [1, 2, 3, 4, 5, 6, 7, 8, 9, 10, 11] [] .no .no n11 (by simp)
  rw [← rng_12] at g
  have hl : LenOk (spotsL px py tx ty qx qy ux uy).length := LenOk.small (by omega)
  unfold spotsL at h hl
  unfold bd_j at g
  simp only [List.map_nil] at g
  have h3 : (((([1, 2, 3, 4, 5, 6, 7, 8, 9, 10, 11] : List Int).foldl (addJ px py tx ty qx qy ux uy) []).length : Nat) : Int) < 3 := by omega
  generalize (([1, 2, 3, 4, 5, 6, 7, 8, 9, 10, 11] : List Int).foldl (addJ px py tx ty qx qy ux uy) []) = sp at *
  simp [f_joints_circle, m_joints_circle, -sTry, -rHide, -mCR, g, h3, hl, mis]
end
end L2.Mir.W

set_option Elab.async false
set_option linter.all false
set_option maxRecDepth 100000
namespace L2.Mir.W
open PySem PySem.Spec PyProof.Rows
section
variable {px py tx ty qx qy ux uy l : Rat} {s : DS}
def roundD (px py tx ty qx qy ux uy : Rat) : D := if 1 - (tx * ux + ty * uy) = 0 then .non else .tup [ptD (mX px py tx ty qx qy ux uy) (mY px py tx ty qx qy ux uy), qD (rV px py tx ty qx qy ux uy)]
theorem circle_of (E : Ends2 px py tx ty qx qy ux uy) {a b c : Pt} (ha : IsJ px py tx ty qx qy ux uy a) (hb : IsJ px py tx ty qx qy ux uy b) (hc : IsJ px py tx ty qx qy ux uy c) (hab : a ≠ b) (hac : a ≠ c) (hbc : b ≠ c) (s : DS) :
    f_circle [pD a, pD b, pD c] s = .ok (roundD px py tx ty qx qy ux uy) s := by
  have za := ha.sz E
  have zb := hb.sz E
  have zc := hc.sz E
  unfold roundD pD
  by_cases h : 1 - (tx * ux + ty * uy) = 0
  · rw [if_pos h]
    obtain ⟨r1, a1, a2⟩ := ha.line E h
    obtain ⟨r2, b1, b2⟩ := hb.line E h
    obtain ⟨r3, c1, c2⟩ := hc.line E h
    exact f_circle_non za zb zc (by decide) (by rw [a1, a2, b1, b2, c1, c2]; grind) s
  · rw [if_neg h]
    have ka := ha.circ E h
    have kb := hb.circ E h
    have kc := hc.circ E h
    have zm := m_sz E h
    have d1 : ¬ (a.1 = b.1 ∧ a.2 = b.2) := fun z => hab (Prod.ext z.1 z.2)
    have d2 : ¬ (a.1 = c.1 ∧ a.2 = c.2) := fun z => hac (Prod.ext z.1 z.2)
    have d3 : ¬ (b.1 = c.1 ∧ b.2 = c.2) := fun z => hbc (Prod.ext z.1 z.2)
    obtain ⟨n0, hx, hy⟩ := circ3 d1 d2 d3 ka kb kc
    have k := f_circle_ok za zb zc (by decide) n0 hx hy (zm.sub za) (by decide) s
    rw [k]
    have e1 : a.1 + (mX px py tx ty qx qy ux uy - a.1) = mX px py tx ty qx qy ux uy := by grind
    have e2 : a.2 + (mY px py tx ty qx qy ux uy - a.2) = mY px py tx ty qx qy ux uy := by grind
    have e3 : (mX px py tx ty qx qy ux uy - a.1) * (mX px py tx ty qx qy ux uy - a.1) + (mY px py tx ty qx qy ux uy - a.2) * (mY px py tx ty qx qy ux uy - a.2) = rV px py tx ty qx qy ux uy := by rw [← ka]; grind
    rw [e1, e2, e3]
theorem joints_circle_many (E : Ends2 px py tx ty qx qy ux uy) {a b c : Pt} {r : List Pt} (h : spotsL px py tx ty qx qy ux uy = a :: b :: c :: r) (s : DS) : f_joints_circle [ptD px py, ptD tx ty, ptD qx qy, ptD ux uy] s = .ok (roundD px py tx ty qx qy ux uy) s := by
  obtain ⟨y5, y6, g⟩ := jc_go (s := s) E [1, 2, 3, 4, 5, 6, 7, 8, 9, 10, 11] [] .no .no n11 (by simp)
  rw [← rng_12] at g
  obtain ⟨nd, good⟩ := @spotsL_good px py tx ty qx qy ux uy
  have hlen := @spotsL_len px py tx ty qx qy ux uy
  rw [h] at nd good hlen
  have e : ([1, 2, 3, 4, 5, 6, 7, 8, 9, 10, 11] : List Int).foldl (addJ px py tx ty qx qy ux uy) [] = a :: b :: c :: r := h
  rw [e] at g
  unfold bd_j at g
  simp only [List.map_nil] at g
  simp only [List.nodup_cons, List.mem_cons, not_or] at nd
  have k := circle_of E (good a (by simp)) (good b (by simp)) (good c (by simp)) nd.1.1 nd.1.2.1 nd.2.1.1 s
  have hl : LenOk (r.length + 1 + 1 + 1) := LenOk.small (by simp only [List.length_cons] at hlen; omega)
  have h3 : ¬ ((r.length + 1 + 1 + 1 : Nat) : Int) < 3 := by omega
  have h4 : ¬ ((r.length : Int) + 1 + 1 + 1) < 3 := by omega
  simp only [List.map_cons] at g
  simp [f_joints_circle, m_joints_circle, -sTry, -rHide, -mCR, g, h3, h4, hl, k]
/-! the law's joints -/
theorem f__law_joint_ok (B : Bi px py tx ty qx qy ux uy l) (s : DS) : f__law_joint [ptD px py, ptD tx ty, ptD qx qy, ptD ux uy, qD l] s = .ok (match jV px py tx ty qx qy ux uy l with | some p => pD p | none => .non) s := by
  rcases joint_cases B s with ⟨p, e1, e2, _⟩ | ⟨e1, w, e2⟩
  · simp [f__law_joint, m__law_joint, e1, e2]
  · simp [f__law_joint, m__law_joint, e1, e2, mis]
noncomputable def bd_c : MS := (sSeq (sSet false 7 (mCB f__law_joint (mCons (mVar 0) (mCons (mVar 1) (mCons (mVar 2) (mCons (mVar 3) (mCons (mTup (mCons (mVar 6) (mCons (mC (.int 1)) mNil))) mNil))))))) (sSet false 5 (mIf (mAndT (mCmpT (opIs true) (mVar 7) (mC .non)) (mCmpT (opIn true) (mVar 7) (mVar 5))) (mBin opAdd (mVar 5) (mLst (mCons (mVar 7) mNil))) (mVar 5))))
theorem isNonD_p (p : Pt) : isNonD (pD p) = some false := rfl
theorem lc_go (E : Ends2 px py tx ty qx qy ux uy) (x4 x8 x9 x10 x11 : Sl) : ∀ (ns : List Int) (acc : List Pt) (x6 x7 : Sl), (∀ n ∈ ns, 1 ≤ n ∧ n ≤ 11) → acc.length + ns.length ≤ 1000 →
    ∃ y6 y7, forGo (.n 6) bd_c (ns.map D.int) [.val (ptD px py), .val (ptD tx ty), .val (ptD qx qy), .val (ptD ux uy), x4, .val (.lst (acc.map pD)), x6, x7, x8, x9, x10, x11] s = .ok (.nx [.val (ptD px py), .val (ptD tx ty), .val (ptD qx qy), .val (ptD ux uy), x4, .val (.lst ((ns.foldl (addJ px py tx ty qx qy ux uy) acc).map pD)), y6, y7, x8, x9, x10, x11]) s
  | [], acc, x6, x7, _, _ => ⟨x6, x7, rfl⟩
  | n :: ns, acc, x6, x7, hn, hl => by
    obtain ⟨n1, n2⟩ := hn n List.mem_cons_self
    have hns : ∀ m ∈ ns, 1 ≤ m ∧ m ≤ 11 := fun m hm => hn m (List.mem_cons_of_mem _ hm)
    simp only [List.length_cons] at hl
    have j := f__law_joint_ok (E.bi (sz_n n1 n2)) s
    cases q : jV px py tx ty qx qy ux uy (n : Rat) with
    | some p =>
      rw [q] at j
      have hi := inD_p p acc
      by_cases c : p ∈ acc
      · obtain ⟨y5, y6, h⟩ := lc_go E x4 x8 x9 x10 x11 ns acc (.val (.int n)) (.val (pD p)) hns (by omega)
        refine ⟨y5, y6, ?_⟩
        have ea : addJ px py tx ty qx qy ux uy acc n = acc := by unfold addJ; rw [q]; simp [c]
        rw [List.foldl_cons, ea, ← h]
        simp [forGo, bd_c, qD_n, j, okDs_59, okD_pD, hi, c, isNonD_p]
      · have hlen : LenOk (acc.length + 1) := LenOk.small (by omega)
        obtain ⟨y5, y6, h⟩ := lc_go E x4 x8 x9 x10 x11 ns (acc ++ [p]) (.val (.int n)) (.val (pD p)) hns (by simp; omega)
        refine ⟨y5, y6, ?_⟩
        have ea : addJ px py tx ty qx qy ux uy acc n = acc ++ [p] := by unfold addJ; rw [q]; simp [c]
        rw [List.foldl_cons, ea, ← h]
        simp [forGo, bd_c, qD_n, j, okDs_59, okD_pD, hi, c, hlen, isNonD_p]
    | none =>
      rw [q] at j
      obtain ⟨y5, y6, h⟩ := lc_go E x4 x8 x9 x10 x11 ns acc (.val (.int n)) (.val .non) hns (by omega)
      refine ⟨y5, y6, ?_⟩
      have ea : addJ px py tx ty qx qy ux uy acc n = acc := by unfold addJ; rw [q]
      rw [List.foldl_cons, ea, ← h]
      simp [forGo, bd_c, qD_n, j]
end
end L2.Mir.W

set_option Elab.async false
set_option linter.all false
set_option maxRecDepth 100000
namespace L2.Mir.W
open PySem PySem.Spec PyProof.Rows
theorem lcGo_none {f : D → M (Option D)} {s : DS} {ds : List D} (h : ∀ d ∈ ds, f d s = .ok none s) : lcGo f ds s = .ok [] s := by
  rw [lcGo_filter (p := fun _ => false) (fun d hd => by simpa using h d hd)]
  simp
theorem atI_three {α : Type} (x y z w : α) (xs : List α) : L2.atI (x :: y :: z :: w :: xs) 3 = some w := atI_nat (j := 3) rfl
theorem atI_four {α : Type} (x y z w v : α) (xs : List α) : L2.atI (x :: y :: z :: w :: v :: xs) 4 = some v := atI_nat (j := 4) rfl
@[simp] theorem okD_p59 (x y : Rat) : okD 59 (ptD x y) = true := by simp [ptD]
@[simp] theorem okD_p58 (x y : Rat) : okD 58 (ptD x y) = true := by simp [ptD]
theorem so_joint : PyData.strOk (PySem.Str.ofString "joint") = true := by decide +kernel
theorem so_points : PyData.strOk (PySem.Str.ofString "points") = true := by decide +kernel
theorem so_length : PyData.strOk (PySem.Str.ofString "length") = true := by decide +kernel
theorem so_turn : PyData.strOk (PySem.Str.ofString "turn") = true := by decide +kernel
/-! words -/
theorem word3 {x : Str} {fm : List D → M D} {a b c : D} {s : DS} {w : String} (ht : Tab.get [("moved", f_moved), ("bend", f_bend), ("way_at", f_way_at)] x = some fm) (h : fm [a, b, c] s = .exc (mis w) s) : f__law_word [.fn x, .tup [a, b, c]] s = .ok (.str (PySem.Str.ofString w)) s := by
  simp [f__law_word, m__law_word, ht, h, mis, atI_three, atI_four, -Tab.get_cons]
theorem word5 {x : Str} {fm : List D → M D} {a b c d e : D} {s : DS} {w : String} (ht : Tab.get [("joint", f_joint), ("goes_on", f_goes_on), ("_law_round", f__law_round), ("second_length", f_second_length)] x = some fm) (h : fm [a, b, c, d, e] s = .exc (mis w) s) : f__law_word [.fn x, .tup [a, b, c, d, e]] s = .ok (.str (PySem.Str.ofString w)) s := by
  simp [f__law_word, m__law_word, ht, h, mis, atI_three, atI_four, -Tab.get_cons]
theorem tab_bend : Tab.get [("moved", f_moved), ("bend", f_bend), ("way_at", f_way_at)] "bend" = some f_bend := by
  rw [Tab.get_cons, if_neg (by decide), Tab.get_cons, if_pos rfl]
theorem tab_way_at : Tab.get [("moved", f_moved), ("bend", f_bend), ("way_at", f_way_at)] "way_at" = some f_way_at := by
  rw [Tab.get_cons, if_neg (by decide), Tab.get_cons, if_neg (by decide), Tab.get_cons, if_pos rfl]
theorem tab_moved : Tab.get [("moved", f_moved), ("bend", f_bend), ("way_at", f_way_at)] "moved" = some f_moved := by
  rw [Tab.get_cons, if_pos rfl]
theorem tab_joint : Tab.get [("joint", f_joint), ("goes_on", f_goes_on), ("_law_round", f__law_round), ("second_length", f_second_length)] "joint" = some f_joint := by
  rw [Tab.get_cons, if_pos rfl]
theorem tab_goes_on : Tab.get [("joint", f_joint), ("goes_on", f_goes_on), ("_law_round", f__law_round), ("second_length", f_second_length)] "goes_on" = some f_goes_on := by
  rw [Tab.get_cons, if_neg (by decide), Tab.get_cons, if_pos rfl]
theorem tab_round : Tab.get [("joint", f_joint), ("goes_on", f_goes_on), ("_law_round", f__law_round), ("second_length", f_second_length)] "_law_round" = some f__law_round := by
  rw [Tab.get_cons, if_neg (by decide), Tab.get_cons, if_neg (by decide), Tab.get_cons, if_pos rfl]
theorem tab_second : Tab.get [("joint", f_joint), ("goes_on", f_goes_on), ("_law_round", f__law_round), ("second_length", f_second_length)] "second_length" = some f_second_length := by
  rw [Tab.get_cons, if_neg (by decide), Tab.get_cons, if_neg (by decide), Tab.get_cons, if_neg (by decide), Tab.get_cons, if_pos rfl]
section
variable {px py tx ty qx qy ux uy l : Rat} {s : DS}
theorem ix_l0 (a : D) (r : List D) (s : DS) : opIx (.lst (a :: r)) (.int 0) s = .ok a s := by simp
theorem ix_l1 (a b : D) (r : List D) (s : DS) : opIx (.lst (a :: b :: r)) (.int 1) s = .ok b s := by simp
theorem ix_l2 (a b c : D) (r : List D) (s : DS) : opIx (.lst (a :: b :: c :: r)) (.int 2) s = .ok c s := by simp
theorem ix_t0 (a : D) (r : List D) (s : DS) : opIx (.tup (a :: r)) (.int 0) s = .ok a s := by simp
theorem ix_t1 (a b : D) (r : List D) (s : DS) : opIx (.tup (a :: b :: r)) (.int 1) s = .ok b s := by simp
theorem ix_t2 (a b c : D) (r : List D) (s : DS) : opIx (.tup (a :: b :: c :: r)) (.int 2) s = .ok c s := by simp
theorem circles_ok (E : Ends2 px py tx ty qx qy ux uy) {p : Pt} (hp : IsJ px py tx ty qx qy ux uy p) (s : DS) : f__law_circles [ptD px py, ptD tx ty, ptD qx qy, ptD ux uy, pD p] s = .ok (.bl true) s := by
  obtain ⟨y6, y7, g⟩ := lc_go (s := s) E (.val (pD p)) .no .no .no .no [1, 2, 3, 4, 5, 6, 7, 8, 9, 10, 11] [] .no .no n11 (by simp)
  rw [← rng_12] at g
  obtain ⟨nd, good⟩ := @spotsL_good px py tx ty qx qy ux uy
  have hlen := @spotsL_len px py tx ty qx qy ux uy
  have e : ([1, 2, 3, 4, 5, 6, 7, 8, 9, 10, 11] : List Int).foldl (addJ px py tx ty qx qy ux uy) [] = spotsL px py tx ty qx qy ux uy := rfl
  rw [e] at g
  unfold bd_c at g
  simp only [List.map_nil] at g
  by_cases h3 : (spotsL px py tx ty qx qy ux uy).length < 3
  · have k := joints_circle_few E h3 s
    have kr : f__law_round [ptD px py, ptD tx ty, ptD qx qy, ptD ux uy, qD 1] s = .exc (mis "joint") s := by simp [f__law_round, m__law_round, k]
    have kw := word5 (x := "_law_round") tab_round kr
    have hl : LenOk (spotsL px py tx ty qx qy ux uy).length := LenOk.small (by omega)
    have h3' : ((spotsL px py tx ty qx qy ux uy).length : Int) < 3 := by omega
    simp [f__law_circles, m__law_circles, g, h3', hl, qD_1, kw, so_joint]
  · obtain ⟨a, b, c, r, hs⟩ : ∃ a b c r, spotsL px py tx ty qx qy ux uy = a :: b :: c :: r := by
      match hq : spotsL px py tx ty qx qy ux uy with
      | [] => rw [hq] at h3; simp at h3
      | [_] => rw [hq] at h3; simp at h3
      | [_, _] => rw [hq] at h3; simp at h3
      | a :: b :: c :: r => exact ⟨a, b, c, r, rfl⟩
    have k := joints_circle_many E hs s
    rw [hs] at nd good hlen g
    simp only [List.nodup_cons, List.mem_cons, not_or] at nd
    have k2 := circle_of E (good a (by simp)) (good b (by simp)) (good c (by simp)) nd.1.1 nd.1.2.1 nd.2.1.1 s
    have hl : LenOk (r.length + 1 + 1 + 1) := LenOk.small (by simp only [List.length_cons] at hlen; omega)
    have hl2 : LenOk (r.length + 1 + 1 + 1 + 1) := LenOk.small (by simp only [List.length_cons] at hlen; omega)
    have h4 : ¬ ((r.length : Int) + 1 + 1 + 1) < 3 := by omega
    have allJ : ∀ q ∈ (a :: b :: c :: r) ++ [p], IsJ px py tx ty qx qy ux uy q := fun q hq => by
      rcases List.mem_append.mp hq with hq | hq
      · exact good q hq
      · rw [List.mem_singleton.mp hq]; exact hp
    simp only [List.map_cons] at g
    unfold roundD at k k2
    by_cases hc : 1 - (tx * ux + ty * uy) = 0
    · rw [if_pos hc] at k k2
      have key : ∀ (env : VE), 10 < env.length → env[5]? = some (some (.lst (pD a :: pD b :: pD c :: r.map pD))) → lcGo (lcF (.n 10) (mCmpT opNe (mCall f__law_cross (mCons (mCall f__law_minus (mCons (mBin opIx (mVar 5) (mC (.int 1))) (mCons (mBin opIx (mVar 5) (mC (.int 0))) mNil))) (mCons (mCall f__law_minus (mCons (mVar 10) (mCons (mBin opIx (mVar 5) (mC (.int 0))) mNil))) mNil))) (mTup (mCons (mC (.int 0)) (mCons (mC (.int 1)) mNil)))) (mVar 10) env) (((a :: b :: c :: r) ++ [p]).map pD) s = .ok [] s := by
        intro env hn he
        refine lcGo_none fun d hd => ?_
        obtain ⟨q, hq, rfl⟩ := List.mem_map.mp hd
        have jq := allJ q hq
        have za := (good a (by simp)).sz E
        have zb := (good b (by simp)).sz E
        have zq := jq.sz E
        have m1 := f__law_minus_ok zb.1 zb.2 za.1 za.2 (by decide) s
        have m2 := f__law_minus_ok zq.1 zq.2 za.1 za.2 (by decide) s
        have w1 := zb.sub za
        have w2 := zq.sub za
        have m3 := f__law_cross_ok w1.1 w1.2 w2.1 w2.2 (by decide) s
        obtain ⟨r1, a1, a2⟩ := (good a (by simp)).line E hc
        obtain ⟨r2, b1, b2⟩ := (good b (by simp)).line E hc
        obtain ⟨r3, c1, c2⟩ := jq.line E hc
        have z : (b.1 - a.1) * (q.2 - a.2) - (b.2 - a.2) * (q.1 - a.1) = 0 := by rw [a1, a2, b1, b2, c1, c2]; grind
        rw [z] at m3
        have he' : (env.set 10 (some (pD q)))[5]? = some (some (.lst (pD a :: pD b :: pD c :: r.map pD))) := by rw [List.getElem?_set_ne (by decide)]; exact he
        simp [hn, he, ix_l0, ix_l1, -opIx, qD_0, pD, m1, m2, m3]
      simp only [List.cons_append, List.map_cons, List.map_append, List.map_nil] at key
      simp [f__law_circles, m__law_circles, g, h4, hl, hl2, k, ix_l0, ix_l1, ix_l2, -opIx, k2, -lcF, key]
    · rw [if_neg hc] at k k2
      have zm := m_sz E hc
      have key : ∀ (env : VE), 10 < env.length → env[8]? = some (some (.tup [ptD (mX px py tx ty qx qy ux uy) (mY px py tx ty qx qy ux uy), qD (rV px py tx ty qx qy ux uy)])) → lcGo (lcF (.n 10) tsYes (mCall f__law_minus (mCons (mVar 10) (mCons (mBin opIx (mVar 8) (mC (.int 0))) mNil))) env) (((a :: b :: c :: r) ++ [p]).map pD) s = .ok (((a :: b :: c :: r) ++ [p]).map fun q => ptD (q.1 - mX px py tx ty qx qy ux uy) (q.2 - mY px py tx ty qx qy ux uy)) s := by
        intro env hn he
        refine lcGo_mapE fun q hq => ?_
        have zq := (allJ q hq).sz E
        have m1 := f__law_minus_ok zq.1 zq.2 zm.1 zm.2 (by decide) s
        simp [hn, he, ix_t0, -opIx, pD, m1]
      have key2 : ∀ (env : VE), 11 < env.length → env[8]? = some (some (.tup [ptD (mX px py tx ty qx qy ux uy) (mY px py tx ty qx qy ux uy), qD (rV px py tx ty qx qy ux uy)])) → lcGo (lcF (.n 11) (mCmpT opNe (mCall f__law_dot (mCons (mVar 11) (mCons (mVar 11) mNil))) (mBin opIx (mVar 8) (mC (.int 1)))) (mVar 11) env) (((a :: b :: c :: r) ++ [p]).map fun q => ptD (q.1 - mX px py tx ty qx qy ux uy) (q.2 - mY px py tx ty qx qy ux uy)) s = .ok [] s := by
        intro env hn he
        refine lcGo_none fun d hd => ?_
        obtain ⟨q, hq, rfl⟩ := List.mem_map.mp hd
        have zq := ((allJ q hq).sz E).sub zm
        have m1 := f__law_dot_ok zq.1 zq.2 zq.1 zq.2 (by decide) s
        rw [(allJ q hq).circ E hc] at m1
        simp [hn, he, ix_t1, -opIx, m1]
      simp only [List.cons_append, List.map_cons, List.map_append, List.map_nil] at key key2
      simp [f__law_circles, m__law_circles, g, h4, hl, hl2, k, ix_l0, ix_l1, ix_l2, -opIx, k2, -lcF, key, key2]
end
end L2.Mir.W

set_option Elab.async false
set_option linter.all false
set_option maxRecDepth 100000
namespace L2.Mir.W
open PySem PySem.Spec PyProof.Rows
section
variable {px py tx ty qx qy ux uy l : Rat} {s : DS}
theorem pD_mk (x y : Rat) : pD (x, y) = ptD x y := rfl
theorem unit_there (E : Ends2 px py tx ty qx qy ux uy) (h0 : lowV px py tx ty qx qy ux uy l ≠ 0) (hw : l + muV px py tx ty qx qy ux uy l ≠ 0) :
    ((qx + -muV px py tx ty qx qy ux uy l * ux) - (px + l * tx)) / (l + muV px py tx ty qx qy ux uy l) * (((qx + -muV px py tx ty qx qy ux uy l * ux) - (px + l * tx)) / (l + muV px py tx ty qx qy ux uy l)) +
    ((qy + -muV px py tx ty qx qy ux uy l * uy) - (py + l * ty)) / (l + muV px py tx ty qx qy ux uy l) * (((qy + -muV px py tx ty qx qy ux uy l * uy) - (py + l * ty)) / (l + muV px py tx ty qx qy ux uy l)) = 1 := by
  have k := there_len E.tu E.uu h0
  generalize (qx + -muV px py tx ty qx qy ux uy l * ux) - (px + l * tx) = a at *
  generalize (qy + -muV px py tx ty qx qy ux uy l * uy) - (py + l * ty) = b at *
  generalize l + muV px py tx ty qx qy ux uy l = w at *
  grind
/-- the way at the joint -/
theorem way_first (E : Ends2 px py tx ty qx qy ux uy) (hl : szQ 4 l) (h0 : lowV px py tx ty qx qy ux uy l ≠ 0) (hw : l + muV px py tx ty qx qy ux uy l ≠ 0)
    (hd : (spX px py tx ty qx qy ux uy l - px) * (spX px py tx ty qx qy ux uy l - px) + (spY px py tx ty qx qy ux uy l - py) * (spY px py tx ty qx qy ux uy l - py) ≠ 0) (s : DS) :
    f_way_at [ptD px py, ptD tx ty, ptD (spX px py tx ty qx qy ux uy l) (spY px py tx ty qx qy ux uy l)] s = .ok (ptD (((qx + -muV px py tx ty qx qy ux uy l * ux) - (px + l * tx)) / (l + muV px py tx ty qx qy ux uy l)) (((qy + -muV px py tx ty qx qy ux uy l * uy) - (py + l * ty)) / (l + muV px py tx ty qx qy ux uy l))) s := by
  have k := f_way_at_ok E.p E.t ((E.bi hl).spot h0 hw) (by decide) hd s
  have hn := unit_there E h0 hw
  have hx : spX px py tx ty qx qy ux uy l - px = l * (tx + ((qx + -muV px py tx ty qx qy ux uy l * ux) - (px + l * tx)) / (l + muV px py tx ty qx qy ux uy l)) := by unfold spX; grind
  have hy : spY px py tx ty qx qy ux uy l - py = l * (ty + ((qy + -muV px py tx ty qx qy ux uy l * uy) - (py + l * ty)) / (l + muV px py tx ty qx qy ux uy l)) := by unfold spY; grind
  rw [hx, hy] at k hd
  have e1 := reflect E.tu hn hd
  have e2 := reflect (tx := ty) (ty := tx) (by have := E.tu; grind) (by rw [Rat.add_comm]; exact hn) (by rw [Rat.add_comm]; exact hd)
  rw [Rat.add_comm (ty * _) _, Rat.add_comm (l * (ty + _) * _) _] at e2
  rw [k, e1, e2]
theorem way_last (E : Ends2 px py tx ty qx qy ux uy) (hl : szQ 4 l) (h0 : lowV px py tx ty qx qy ux uy l ≠ 0) (hw : l + muV px py tx ty qx qy ux uy l ≠ 0)
    (hd : (qx - spX px py tx ty qx qy ux uy l) * (qx - spX px py tx ty qx qy ux uy l) + (qy - spY px py tx ty qx qy ux uy l) * (qy - spY px py tx ty qx qy ux uy l) ≠ 0) (s : DS) :
    f_way_at [ptD (spX px py tx ty qx qy ux uy l) (spY px py tx ty qx qy ux uy l), ptD (((qx + -muV px py tx ty qx qy ux uy l * ux) - (px + l * tx)) / (l + muV px py tx ty qx qy ux uy l)) (((qy + -muV px py tx ty qx qy ux uy l * uy) - (py + l * ty)) / (l + muV px py tx ty qx qy ux uy l)), ptD qx qy] s = .ok (ptD ux uy) s := by
  have B := E.bi hl
  have zn : pz 256 (((qx + -muV px py tx ty qx qy ux uy l * ux) - (px + l * tx)) / (l + muV px py tx ty qx qy ux uy l)) (((qy + -muV px py tx ty qx qy ux uy l * uy) - (py + l * ty)) / (l + muV px py tx ty qx qy ux uy l)) := ⟨szDiv (B.there h0).1 (B.whole h0) hw, szDiv (B.there h0).2 (B.whole h0) hw⟩
  have k := f_way_at_ok (B.spot h0 hw) zn E.q (by decide) hd s
  have hn := unit_there E h0 hw
  have hx : qx - spX px py tx ty qx qy ux uy l = muV px py tx ty qx qy ux uy l * (((qx + -muV px py tx ty qx qy ux uy l * ux) - (px + l * tx)) / (l + muV px py tx ty qx qy ux uy l) + ux) := by unfold spX; grind
  have hy : qy - spY px py tx ty qx qy ux uy l = muV px py tx ty qx qy ux uy l * (((qy + -muV px py tx ty qx qy ux uy l * uy) - (py + l * ty)) / (l + muV px py tx ty qx qy ux uy l) + uy) := by unfold spY; grind
  rw [hx, hy] at k hd
  have e1 := reflect hn E.uu hd
  have e2 := reflect (by rw [Rat.add_comm]; exact hn) (nx := uy) (ny := ux) (by have := E.uu; grind) (by rw [Rat.add_comm]; exact hd)
  rw [Rat.add_comm (_ * (_ * (_ + uy))) _, Rat.add_comm (_ * (_ + uy) * _) _] at e2
  rw [k, e1, e2]
end
end L2.Mir.W

set_option Elab.async false
set_option linter.all false
set_option maxRecDepth 100000
namespace L2.Mir.W
open PySem PySem.Spec PyProof.Rows
section
variable {px py tx ty qx qy ux uy l : Rat} {s : DS}
theorem gap_eq {a b c d : Rat} : (a - c) * (a - c) + (b - d) * (b - d) = 0 ↔ a = c ∧ b = d := by
  constructor
  · intro h
    obtain ⟨h1, h2⟩ := sq2_zero h
    exact ⟨by grind, by grind⟩
  · rintro ⟨rfl, rfl⟩
    grind
def nX (px py tx ty qx qy ux uy l : Rat) : Rat := ((qx + -muV px py tx ty qx qy ux uy l * ux) - (px + l * tx)) / (l + muV px py tx ty qx qy ux uy l)
def nY (px py tx ty qx qy ux uy l : Rat) : Rat := ((qy + -muV px py tx ty qx qy ux uy l * uy) - (py + l * ty)) / (l + muV px py tx ty qx qy ux uy l)
theorem f_arcs_ok (E : Ends2 px py tx ty qx qy ux uy) (hl : szQ 4 l) (h0 : lowV px py tx ty qx qy ux uy l ≠ 0) (hw : l + muV px py tx ty qx qy ux uy l ≠ 0)
    (hf : ¬ (spX px py tx ty qx qy ux uy l = px ∧ spY px py tx ty qx qy ux uy l = py)) (s : DS) :
    f_arcs [ptD px py, ptD tx ty, ptD qx qy, ptD ux uy, qD l] s = .ok (.tup [.tup [ptD px py, ptD tx ty, ptD (spX px py tx ty qx qy ux uy l) (spY px py tx ty qx qy ux uy l)], .tup [ptD (spX px py tx ty qx qy ux uy l) (spY px py tx ty qx qy ux uy l), ptD (nX px py tx ty qx qy ux uy l) (nY px py tx ty qx qy ux uy l), ptD qx qy]]) s := by
  have e1 := f_joint_ok (E.bi hl) h0 hw s
  have e2 := way_first E hl h0 hw (fun z => hf (gap_eq.mp z)) s
  simp [f_arcs, m_arcs, e1, e2, nX, nY]
theorem run_tt (a b : D) (i j : Nat) : (Pat.t [.n i, .n j]).run (.tup [a, b]) = some [(i, a), (j, b)] := by simp
theorem f_goes_on_ok (E : Ends2 px py tx ty qx qy ux uy) (hl : szQ 4 l) (h0 : lowV px py tx ty qx qy ux uy l ≠ 0) (hw : l + muV px py tx ty qx qy ux uy l ≠ 0)
    (hf : ¬ (spX px py tx ty qx qy ux uy l = px ∧ spY px py tx ty qx qy ux uy l = py)) (hq : ¬ (spX px py tx ty qx qy ux uy l = qx ∧ spY px py tx ty qx qy ux uy l = qy)) (s : DS) :
    f_goes_on [ptD px py, ptD tx ty, ptD qx qy, ptD ux uy, qD l] s = .ok (.bl true) s := by
  have e1 := f_arcs_ok E hl h0 hw hf s
  have e2 := way_last E hl h0 hw (fun z => hq ⟨(gap_eq.mp z).1.symm, (gap_eq.mp z).2.symm⟩) s
  unfold nX nY at e1
  simp [f_goes_on, m_goes_on, run_tt, -Pat.run, -Pat.runs, e1, e2]
theorem f_goes_on_first (E : Ends2 px py tx ty qx qy ux uy) (hl : szQ 4 l) (h0 : lowV px py tx ty qx qy ux uy l ≠ 0) (hw : l + muV px py tx ty qx qy ux uy l ≠ 0)
    (hf : spX px py tx ty qx qy ux uy l = px ∧ spY px py tx ty qx qy ux uy l = py) (s : DS) :
    f_goes_on [ptD px py, ptD tx ty, ptD qx qy, ptD ux uy, qD l] s = .exc (mis "points") s := by
  have e1 := f_joint_ok (E.bi hl) h0 hw s
  have e2 := f_way_at_exc E.p E.t ((E.bi hl).spot h0 hw) (by decide) (gap_eq.mpr hf) s
  simp [f_goes_on, m_goes_on, f_arcs, m_arcs, run_tt, -Pat.run, -Pat.runs, e1, e2]
theorem f_goes_on_last (E : Ends2 px py tx ty qx qy ux uy) (hl : szQ 4 l) (h0 : lowV px py tx ty qx qy ux uy l ≠ 0) (hw : l + muV px py tx ty qx qy ux uy l ≠ 0)
    (hf : ¬ (spX px py tx ty qx qy ux uy l = px ∧ spY px py tx ty qx qy ux uy l = py)) (hq : spX px py tx ty qx qy ux uy l = qx ∧ spY px py tx ty qx qy ux uy l = qy) (s : DS) :
    f_goes_on [ptD px py, ptD tx ty, ptD qx qy, ptD ux uy, qD l] s = .exc (mis "points") s := by
  have e1 := f_arcs_ok E hl h0 hw hf s
  have B := E.bi hl
  have zn : pz 256 (nX px py tx ty qx qy ux uy l) (nY px py tx ty qx qy ux uy l) := ⟨szDiv (B.there h0).1 (B.whole h0) hw, szDiv (B.there h0).2 (B.whole h0) hw⟩
  have e2 := f_way_at_exc (B.spot h0 hw) zn E.q (by decide) (gap_eq.mpr ⟨hq.1.symm, hq.2.symm⟩) s
  simp [f_goes_on, m_goes_on, run_tt, -Pat.run, -Pat.runs, e1, e2]
/-! the law's own reckoning -/
def half : Rat := ⟨1, 2, by decide, by decide⟩
theorem qD_half : D.tup [.int 1, .int 2] = qD half := rfl
theorem half_2 : half * 2 = 1 := by decide +kernel
theorem sz_half : szQ 2 half := ⟨by decide, by decide⟩
theorem law_low (B : Bi px py tx ty qx qy ux uy l) (s : DS) : ∃ gd a b c d, f__law_dot [ptD (qx - px) (qy - py), ptD ux uy] s = .ok (qD gd) s ∧ f__law_dot [ptD tx ty, ptD ux uy] s = .ok (qD a) s ∧ f__law_add [qD a, qD (-1)] s = .ok (qD b) s ∧
    f__law_mul [qD l, qD b] s = .ok (qD c) s ∧ f__law_neg [qD c] s = .ok (qD d) s ∧ f__law_add [qD gd, qD d] s = .ok (qD (lowV px py tx ty qx qy ux uy l)) s := by
  have g := B.q.sub B.p
  have e1 := f__law_dot_ok g.1 g.2 B.u.1 B.u.2 (by decide) s
  have e2 := f__law_dot_ok B.t.1 B.t.2 B.u.1 B.u.2 (by decide) s
  have e3 := f__law_add_ok (B.t.dot B.u) sz_m1 (by decide) s
  have e4 := f__law_mul_ok B.l ((B.t.dot B.u).add sz_m1) (by decide) s
  have e5 := f__law_neg_ok (l * (tx * ux + ty * uy + -1)) s
  have e6 := f__law_add_ok (g.dot B.u) (B.l.mul ((B.t.dot B.u).add sz_m1)).neg (by decide) s
  have ee : (qx - px) * ux + (qy - py) * uy + -(l * (tx * ux + ty * uy + -1)) = lowV px py tx ty qx qy ux uy l := by unfold lowV; grind
  rw [ee] at e6
  exact ⟨_, _, _, _, _, e1, e2, e3, e4, e5, e6⟩
theorem law_top (B : Bi px py tx ty qx qy ux uy l) (s : DS) : ∃ gd a b c d, f__law_dot [ptD (qx - px) (qy - py), ptD (qx - px) (qy - py)] s = .ok (qD gd) s ∧ f__law_mul [qD half, qD gd] s = .ok (qD a) s ∧ f__law_dot [ptD (qx - px) (qy - py), ptD tx ty] s = .ok (qD b) s ∧
    f__law_mul [qD l, qD b] s = .ok (qD c) s ∧ f__law_neg [qD c] s = .ok (qD d) s ∧ f__law_add [qD a, qD d] s = .ok (qD (topV px py tx ty qx qy ux uy l)) s := by
  have g := B.q.sub B.p
  have e1 := f__law_dot_ok g.1 g.2 g.1 g.2 (by decide) s
  have e2 := f__law_mul_ok sz_half (g.dot g) (by decide) s
  have e3 := f__law_dot_ok g.1 g.2 B.t.1 B.t.2 (by decide) s
  have e4 := f__law_mul_ok B.l (g.dot B.t) (by decide) s
  have e5 := f__law_neg_ok (l * ((qx - px) * tx + (qy - py) * ty)) s
  have e6 := f__law_add_ok (sz_half.mul (g.dot g)) (B.l.mul (g.dot B.t)).neg (by decide) s
  have h2 := half_2
  have ee : half * ((qx - px) * (qx - px) + (qy - py) * (qy - py)) + -(l * ((qx - px) * tx + (qy - py) * ty)) = topV px py tx ty qx qy ux uy l := by
    unfold topV
    generalize half = h at *
    grind
  rw [ee] at e6
  exact ⟨_, _, _, _, _, e1, e2, e3, e4, e5, e6⟩
theorem len_ok {r t : Int} (h1 : 0 ≤ r) (h2 : r < 6) (h3 : 0 ≤ t) (h4 : t < 2) (s : DS) : f__law_part [.int (1 + r), .int (1 + t)] s = .ok (qD (Rat.divInt (1 + r) (1 + t))) s ∧ szQ 4 (Rat.divInt (1 + r) (1 + t)) :=
  ⟨f__law_part_ok (k := 4) (by omega) (by omega) (by omega) s, divInt_sz (by omega) (by omega) (by omega)⟩
end
end L2.Mir.W

set_option Elab.async false
set_option linter.all false
set_option maxRecDepth 100000
set_option maxHeartbeats 1000000
namespace L2.Mir.W
open PySem PySem.Spec PyProof.Rows
section
variable {px py tx ty qx qy ux uy l : Rat} {s : DS}
def ET2 (px py tx ty qx qy ux uy : Rat) (x5 x6 x7 x8 x9 x10 x11 x12 x13 x14 x15 x16 x17 : Sl) : SE := [.val .st, .val (ptD tx ty), .val (ptD ux uy), .val (ptD px py), .val (ptD qx qy), x5, x6, x7, x8, x9, x10, x11, x12, x13, x14, x15, x16, x17]
variable {x5 x6 x7 x8 x9 x10 x11 x12 x13 x14 x15 x16 x17 : Sl}
theorem tw_1 (hs : StateOk s) : ∃ l s', q__law_two_1 (ET2 px py tx ty qx qy ux uy x5 x6 x7 x8 x9 x10 x11 x12 x13 x14 x15 x16 x17) s = .ok (.nx (ET2 px py tx ty qx qy ux uy (.val (qD l)) x6 x7 x8 x9 x10 x11 x12 x13 x14 x15 x16 x17)) s' ∧ StateOk s' ∧ szQ 4 l := by
  obtain ⟨r, s1, e1, h1, r1, r2⟩ := fTake_ok hs 6 (TakeOk.small (by omega))
  obtain ⟨t, s2, e2, h2, t1, t2⟩ := fTake_ok h1 2 (TakeOk.small (by omega))
  obtain ⟨el, hl⟩ := len_ok r1 (by omega) t1 (by omega) s2
  exact ⟨_, s2, by simp [q__law_two_1, ET2, f__law_take, e1, e2, el], h2, hl⟩
theorem tw_2 (E : Ends2 px py tx ty qx qy ux uy) : q__law_two_2 (ET2 px py tx ty qx qy ux uy x5 x6 x7 x8 x9 x10 x11 x12 x13 x14 x15 x16 x17) s = .ok (.nx (ET2 px py tx ty qx qy ux uy x5 (.val (ptD (qx - px) (qy - py))) x7 x8 x9 x10 x11 x12 x13 x14 x15 x16 x17)) s := by
  have m1 := f__law_minus_ok E.q.1 E.q.2 E.p.1 E.p.2 (by decide) s
  simp [q__law_two_2, ET2, m1]
theorem tw_3 (B : Bi px py tx ty qx qy ux uy l) : q__law_two_3 (ET2 px py tx ty qx qy ux uy (.val (qD l)) (.val (ptD (qx - px) (qy - py))) x7 x8 x9 x10 x11 x12 x13 x14 x15 x16 x17) s = .ok (.nx (ET2 px py tx ty qx qy ux uy (.val (qD l)) (.val (ptD (qx - px) (qy - py))) (.val (qD (lowV px py tx ty qx qy ux uy l))) x8 x9 x10 x11 x12 x13 x14 x15 x16 x17)) s := by
  obtain ⟨g1, a1, b1, c1, d1, k1, k2, k3, k4, k5, k6⟩ := law_low B s
  simp [q__law_two_3, ET2, qD_m1, k1, k2, k3, k4, k5, k6]
theorem tw_4 (B : Bi px py tx ty qx qy ux uy l) : q__law_two_4 (ET2 px py tx ty qx qy ux uy (.val (qD l)) (.val (ptD (qx - px) (qy - py))) x7 x8 x9 x10 x11 x12 x13 x14 x15 x16 x17) s = .ok (.nx (ET2 px py tx ty qx qy ux uy (.val (qD l)) (.val (ptD (qx - px) (qy - py))) x7 (.val (qD (topV px py tx ty qx qy ux uy l))) x9 x10 x11 x12 x13 x14 x15 x16 x17)) s := by
  obtain ⟨g1, a1, b1, c1, d1, k1, k2, k3, k4, k5, k6⟩ := law_top B s
  simp [q__law_two_4, ET2, qD_half, k1, k2, k3, k4, k5, k6]
def givenD (px py tx ty qx qy ux uy l : Rat) : D := .tup [ptD px py, ptD tx ty, ptD qx qy, ptD ux uy, qD l]
theorem tw_5 : q__law_two_5 (ET2 px py tx ty qx qy ux uy (.val (qD l)) x6 x7 x8 x9 x10 x11 x12 x13 x14 x15 x16 x17) s = .ok (.nx (ET2 px py tx ty qx qy ux uy (.val (qD l)) x6 x7 x8 (.val (givenD px py tx ty qx qy ux uy l)) x10 x11 x12 x13 x14 x15 x16 x17)) s := by
  simp [q__law_two_5, ET2, givenD]
theorem tw_6 {v : Rat} (hv : v ≠ 0) : q__law_two_6 (ET2 px py tx ty qx qy ux uy x5 x6 (.val (qD v)) x8 x9 x10 x11 x12 x13 x14 x15 x16 x17) s = .ok (.nx (ET2 px py tx ty qx qy ux uy x5 x6 (.val (qD v)) x8 x9 x10 x11 x12 x13 x14 x15 x16 x17)) s := by
  simp [q__law_two_6, ET2, qD_0, hv]
theorem tw_6z (B : Bi px py tx ty qx qy ux uy l) (h0 : lowV px py tx ty qx qy ux uy l = 0) : q__law_two_6 (ET2 px py tx ty qx qy ux uy x5 x6 (.val (qD 0)) x8 (.val (givenD px py tx ty qx qy ux uy l)) x10 x11 x12 x13 x14 x15 x16 x17) s = .ok (.rt (.bl true)) s := by
  have x1 := f_second_exc B.p B.t B.q B.u B.l h0 s
  have x2 := f_joint_low B h0 s
  have w1 := word5 (x := "second_length") tab_second x1
  have w2 := word5 (x := "joint") tab_joint x2
  simp [q__law_two_6, ET2, qD_0, givenD, w1, w2, so_length]
theorem tw_7 (B : Bi px py tx ty qx qy ux uy l) (h0 : lowV px py tx ty qx qy ux uy l ≠ 0) : q__law_two_7 (ET2 px py tx ty qx qy ux uy x5 x6 (.val (qD (lowV px py tx ty qx qy ux uy l))) (.val (qD (topV px py tx ty qx qy ux uy l))) x9 x10 x11 x12 x13 x14 x15 x16 x17) s = .ok (.nx (ET2 px py tx ty qx qy ux uy x5 x6 (.val (qD (lowV px py tx ty qx qy ux uy l))) (.val (qD (topV px py tx ty qx qy ux uy l))) x9 (.val (qD (muV px py tx ty qx qy ux uy l))) x11 x12 x13 x14 x15 x16 x17)) s := by
  have o1 := f__law_over_ok (top_sz B.p B.t B.q B.u B.l) (low_sz B.p B.t B.q B.u B.l) (by decide) h0 s
  have em : topV px py tx ty qx qy ux uy l / lowV px py tx ty qx qy ux uy l = muV px py tx ty qx qy ux uy l := rfl
  rw [em] at o1
  simp [q__law_two_7, ET2, o1]
theorem tw_8 (B : Bi px py tx ty qx qy ux uy l) (h0 : lowV px py tx ty qx qy ux uy l ≠ 0) : q__law_two_8 (ET2 px py tx ty qx qy ux uy (.val (qD l)) x6 x7 x8 x9 (.val (qD (muV px py tx ty qx qy ux uy l))) x11 x12 x13 x14 x15 x16 x17) s = .ok (.nx (ET2 px py tx ty qx qy ux uy (.val (qD l)) x6 x7 x8 x9 (.val (qD (muV px py tx ty qx qy ux uy l))) x11 x12 x13 x14 x15 x16 x17)) s := by
  have o2 := f_second_ok' B h0 s
  simp [q__law_two_8, ET2, o2]
theorem tw_9 (B : Bi px py tx ty qx qy ux uy l) {m : Rat} (zm : szQ 114 m) : q__law_two_9 (ET2 px py tx ty qx qy ux uy (.val (qD l)) x6 x7 x8 x9 (.val (qD m)) x11 x12 x13 x14 x15 x16 x17) s = .ok (.nx (ET2 px py tx ty qx qy ux uy (.val (qD l)) x6 x7 x8 x9 (.val (qD m)) (.val (ptD (px + l * tx) (py + l * ty))) (.val (ptD (qx + -m * ux) (qy + -m * uy))) x13 x14 x15 x16 x17)) s := by
  have o3 := f__law_put_ok B.p.1 B.p.2 B.t.1 B.t.2 B.l (by decide) s
  have o4 := f__law_neg_ok m s
  have o5 := f__law_put_ok B.q.1 B.q.2 B.u.1 B.u.2 zm.neg (by decide) s
  simp [q__law_two_9, ET2, o3, o4, o5]
theorem tw_10 {a b c d m : Rat} (h1 : pz 123 a b) (h2 : pz 13 c d) (hl : szQ 4 l) (zm : szQ 114 m) : q__law_two_10 (ET2 px py tx ty qx qy ux uy (.val (qD l)) x6 x7 x8 x9 (.val (qD m)) (.val (ptD c d)) (.val (ptD a b)) x13 x14 x15 x16 x17) s = .ok (.nx (ET2 px py tx ty qx qy ux uy (.val (qD l)) x6 x7 x8 x9 (.val (qD m)) (.val (ptD c d)) (.val (ptD a b)) (.val (ptD (a - c) (b - d))) (.val (qD (l + m))) x15 x16 x17)) s := by
  have o6 := f__law_minus_ok h1.1 h1.2 h2.1 h2.2 (by decide) s
  have o7 := f__law_add_ok hl zm (by decide) s
  simp [q__law_two_10, ET2, o6, o7]
theorem tw_11 (E : Ends2 px py tx ty qx qy ux uy) (hl : szQ 4 l) (h0 : lowV px py tx ty qx qy ux uy l ≠ 0) : q__law_two_11 (ET2 px py tx ty qx qy ux uy (.val (qD l)) x6 x7 x8 x9 x10 x11 x12 (.val (ptD ((qx + -muV px py tx ty qx qy ux uy l * ux) - (px + l * tx)) ((qy + -muV px py tx ty qx qy ux uy l * uy) - (py + l * ty)))) (.val (qD (l + muV px py tx ty qx qy ux uy l))) x15 x16 x17) s
    = .ok (.nx (ET2 px py tx ty qx qy ux uy (.val (qD l)) x6 x7 x8 x9 x10 x11 x12 (.val (ptD ((qx + -muV px py tx ty qx qy ux uy l * ux) - (px + l * tx)) ((qy + -muV px py tx ty qx qy ux uy l * uy) - (py + l * ty)))) (.val (qD (l + muV px py tx ty qx qy ux uy l))) x15 x16 x17)) s := by
  have B := E.bi hl
  have o8 := f_way_there_ok B h0 s
  have zt := B.there h0
  have zw := B.whole h0
  have o9 := f__law_dot_ok zt.1 zt.2 zt.1 zt.2 (by decide) s
  rw [there_len E.tu E.uu h0] at o9
  have o10 := f__law_mul_ok zw zw (by decide) s
  generalize (qx + -muV px py tx ty qx qy ux uy l * ux) - (px + l * tx) = a at *
  generalize (qy + -muV px py tx ty qx qy ux uy l * uy) - (py + l * ty) = b at *
  generalize l + muV px py tx ty qx qy ux uy l = w at *
  simp [q__law_two_11, ET2, o8, o9, o10]
theorem tw_12 {w : Rat} (hw : w ≠ 0) : q__law_two_12 (ET2 px py tx ty qx qy ux uy x5 x6 x7 x8 x9 x10 x11 x12 x13 (.val (qD w)) x15 x16 x17) s = .ok (.nx (ET2 px py tx ty qx qy ux uy x5 x6 x7 x8 x9 x10 x11 x12 x13 (.val (qD w)) x15 x16 x17)) s := by
  simp [q__law_two_12, ET2, qD_0, hw]
theorem tw_12z (B : Bi px py tx ty qx qy ux uy l) (h0 : lowV px py tx ty qx qy ux uy l ≠ 0) (hw : l + muV px py tx ty qx qy ux uy l = 0) : q__law_two_12 (ET2 px py tx ty qx qy ux uy x5 x6 x7 x8 (.val (givenD px py tx ty qx qy ux uy l)) x10 x11 x12 x13 (.val (qD 0)) x15 x16 x17) s = .ok (.rt (.bl true)) s := by
  have x2 := f_joint_whole B h0 hw s
  have w2 := word5 (x := "joint") tab_joint x2
  simp [q__law_two_12, ET2, qD_0, givenD, w2, so_joint]
end
end L2.Mir.W

set_option Elab.async false
set_option linter.all false
set_option maxRecDepth 100000
set_option maxHeartbeats 1000000
namespace L2.Mir.W
open PySem PySem.Spec PyProof.Rows
section
variable {px py tx ty qx qy ux uy l : Rat} {s : DS}
variable {x5 x6 x7 x8 x9 x10 x11 x12 x13 x14 x15 x16 x17 : Sl}
theorem tw_13 {a b c d w : Rat} (h1 : pz 13 a b) (h2 : pz 137 c d) (hl : szQ 4 l) (zw : szQ 119 w) (hw : w ≠ 0) : q__law_two_13 (ET2 px py tx ty qx qy ux uy (.val (qD l)) x6 x7 x8 x9 x10 (.val (ptD a b)) x12 (.val (ptD c d)) (.val (qD w)) x15 x16 x17) s = .ok (.nx (ET2 px py tx ty qx qy ux uy (.val (qD l)) x6 x7 x8 x9 x10 (.val (ptD a b)) x12 (.val (ptD c d)) (.val (qD w)) (.val (ptD (a + l / w * c) (b + l / w * d))) x16 x17)) s := by
  have p1 := f__law_over_ok hl zw (by decide) hw s
  have p2 := f__law_put_ok h1.1 h1.2 h2.1 h2.2 (szDiv hl zw hw) (by decide) s
  simp [q__law_two_13, ET2, p1, p2]
theorem tw_14 (B : Bi px py tx ty qx qy ux uy l) (h0 : lowV px py tx ty qx qy ux uy l ≠ 0) (hw : l + muV px py tx ty qx qy ux uy l ≠ 0) : q__law_two_14 (ET2 px py tx ty qx qy ux uy (.val (qD l)) x6 x7 x8 x9 x10 x11 x12 x13 x14 (.val (ptD (spX px py tx ty qx qy ux uy l) (spY px py tx ty qx qy ux uy l))) x16 x17) s = .ok (.nx (ET2 px py tx ty qx qy ux uy (.val (qD l)) x6 x7 x8 x9 x10 x11 x12 x13 x14 (.val (ptD (spX px py tx ty qx qy ux uy l) (spY px py tx ty qx qy ux uy l))) x16 x17)) s := by
  have p3 := f_joint_ok B h0 hw s
  simp [q__law_two_14, ET2, p3]
theorem tw_15 {a b : Rat} (hf : ¬ (a = px ∧ b = py)) (hq : ¬ (a = qx ∧ b = qy)) : q__law_two_15 (ET2 px py tx ty qx qy ux uy x5 x6 x7 x8 x9 x10 x11 x12 x13 x14 (.val (ptD a b)) x16 x17) s = .ok (.nx (ET2 px py tx ty qx qy ux uy x5 x6 x7 x8 x9 x10 x11 x12 x13 x14 (.val (ptD a b)) x16 x17)) s := by
  have h1 : deq (ptD a b) (ptD px py) = false := by rw [deq_p]; simpa using fun x y => hf ⟨x, y⟩
  have h2 : deq (ptD a b) (ptD qx qy) = false := by rw [deq_p]; simpa using fun x y => hq ⟨x, y⟩
  simp [q__law_two_15, ET2, h1, h2, -deq_p]
theorem tw_15f (E : Ends2 px py tx ty qx qy ux uy) (hl : szQ 4 l) (h0 : lowV px py tx ty qx qy ux uy l ≠ 0) (hw : l + muV px py tx ty qx qy ux uy l ≠ 0) (hf : spX px py tx ty qx qy ux uy l = px ∧ spY px py tx ty qx qy ux uy l = py) :
    q__law_two_15 (ET2 px py tx ty qx qy ux uy x5 x6 x7 x8 (.val (givenD px py tx ty qx qy ux uy l)) x10 x11 x12 x13 x14 (.val (ptD (spX px py tx ty qx qy ux uy l) (spY px py tx ty qx qy ux uy l))) x16 x17) s = .ok (.rt (.bl true)) s := by
  have x2 := f_goes_on_first E hl h0 hw hf s
  have w2 := word5 (x := "goes_on") tab_goes_on x2
  have h1 : deq (ptD (spX px py tx ty qx qy ux uy l) (spY px py tx ty qx qy ux uy l)) (ptD px py) = true := by rw [deq_p]; simpa using hf
  simp [q__law_two_15, ET2, h1, -deq_p, givenD, w2, so_points]
theorem tw_15q (E : Ends2 px py tx ty qx qy ux uy) (hl : szQ 4 l) (h0 : lowV px py tx ty qx qy ux uy l ≠ 0) (hw : l + muV px py tx ty qx qy ux uy l ≠ 0) (hf : ¬ (spX px py tx ty qx qy ux uy l = px ∧ spY px py tx ty qx qy ux uy l = py)) (hq : spX px py tx ty qx qy ux uy l = qx ∧ spY px py tx ty qx qy ux uy l = qy) :
    q__law_two_15 (ET2 px py tx ty qx qy ux uy x5 x6 x7 x8 (.val (givenD px py tx ty qx qy ux uy l)) x10 x11 x12 x13 x14 (.val (ptD (spX px py tx ty qx qy ux uy l) (spY px py tx ty qx qy ux uy l))) x16 x17) s = .ok (.rt (.bl true)) s := by
  have x2 := f_goes_on_last E hl h0 hw hf hq s
  have w2 := word5 (x := "goes_on") tab_goes_on x2
  have h1 : deq (ptD (spX px py tx ty qx qy ux uy l) (spY px py tx ty qx qy ux uy l)) (ptD px py) = false := by rw [deq_p]; simpa using fun x y => hf ⟨x, y⟩
  have h2 : deq (ptD (spX px py tx ty qx qy ux uy l) (spY px py tx ty qx qy ux uy l)) (ptD qx qy) = true := by rw [deq_p]; simpa using hq
  simp [q__law_two_15, ET2, h1, h2, -deq_p, givenD, w2, so_points]
def arcsD (px py tx ty qx qy a b c d : Rat) : D := .tup [.tup [ptD px py, ptD tx ty, ptD a b], .tup [ptD a b, ptD c d, ptD qx qy]]
theorem tw_16 (E : Ends2 px py tx ty qx qy ux uy) (hl : szQ 4 l) (h0 : lowV px py tx ty qx qy ux uy l ≠ 0) (hw : l + muV px py tx ty qx qy ux uy l ≠ 0) (hf : ¬ (spX px py tx ty qx qy ux uy l = px ∧ spY px py tx ty qx qy ux uy l = py)) :
    q__law_two_16 (ET2 px py tx ty qx qy ux uy (.val (qD l)) x6 x7 x8 x9 x10 x11 x12 x13 x14 x15 x16 x17) s = .ok (.nx (ET2 px py tx ty qx qy ux uy (.val (qD l)) x6 x7 x8 x9 x10 x11 x12 x13 x14 x15 (.val (arcsD px py tx ty qx qy (spX px py tx ty qx qy ux uy l) (spY px py tx ty qx qy ux uy l) (nX px py tx ty qx qy ux uy l) (nY px py tx ty qx qy ux uy l))) x17)) s := by
  have p := f_arcs_ok E hl h0 hw hf s
  simp [q__law_two_16, ET2, p, arcsD]
theorem tw_17 {a b w : Rat} (h : pz 137 a b) (zw : szQ 119 w) (hw : w ≠ 0) : q__law_two_17 (ET2 px py tx ty qx qy ux uy x5 x6 x7 x8 x9 x10 x11 x12 (.val (ptD a b)) (.val (qD w)) x15 x16 x17) s = .ok (.nx (ET2 px py tx ty qx qy ux uy x5 x6 x7 x8 x9 x10 x11 x12 (.val (ptD a b)) (.val (qD w)) x15 x16 (.val (ptD (a / w) (b / w))))) s := by
  have p4 := f__law_over_ok h.1 zw (by decide) hw s
  have p5 := f__law_over_ok h.2 zw (by decide) hw s
  simp [q__law_two_17, ET2, ix_p0, ix_p1, -opIx, p4, p5, pt_of]
theorem tw_18 (E : Ends2 px py tx ty qx qy ux uy) (hl : szQ 4 l) (h0 : lowV px py tx ty qx qy ux uy l ≠ 0) (hw : l + muV px py tx ty qx qy ux uy l ≠ 0) (hf : ¬ (spX px py tx ty qx qy ux uy l = px ∧ spY px py tx ty qx qy ux uy l = py)) (hq : ¬ (spX px py tx ty qx qy ux uy l = qx ∧ spY px py tx ty qx qy ux uy l = qy)) {c d : Rat} :
    q__law_two_18 (ET2 px py tx ty qx qy ux uy (.val (qD l)) x6 x7 x8 x9 x10 x11 x12 x13 x14 (.val (ptD (spX px py tx ty qx qy ux uy l) (spY px py tx ty qx qy ux uy l))) (.val (arcsD px py tx ty qx qy (spX px py tx ty qx qy ux uy l) (spY px py tx ty qx qy ux uy l) c d)) (.val (ptD c d))) s
      = .ok (.nx (ET2 px py tx ty qx qy ux uy (.val (qD l)) x6 x7 x8 x9 x10 x11 x12 x13 x14 (.val (ptD (spX px py tx ty qx qy ux uy l) (spY px py tx ty qx qy ux uy l))) (.val (arcsD px py tx ty qx qy (spX px py tx ty qx qy ux uy l) (spY px py tx ty qx qy ux uy l) c d)) (.val (ptD c d)))) s := by
  have p := f_goes_on_ok E hl h0 hw hf hq s
  simp [q__law_two_18, ET2, p, arcsD]
theorem tw_19 (E : Ends2 px py tx ty qx qy ux uy) {a b : Rat} (hj : IsJ px py tx ty qx qy ux uy (a, b)) : q__law_two_19 (ET2 px py tx ty qx qy ux uy x5 x6 x7 x8 x9 x10 x11 x12 x13 x14 (.val (ptD a b)) x16 x17) s = .ok (.rt (.bl true)) s := by
  have p6 := circles_ok E hj s
  rw [pD_mk] at p6
  simp [q__law_two_19, ET2, p6]
theorem law_two_ok (hs : StateOk s) (E : Ends2 px py tx ty qx qy ux uy) : ∃ s', f__law_two [.st, ptD tx ty, ptD ux uy, ptD px py, ptD qx qy] s = .ok (.bl true) s' ∧ StateOk s' := by
  obtain ⟨l, s', e1, h1, hl⟩ := tw_1 (px := px) (py := py) (tx := tx) (ty := ty) (qx := qx) (qy := qy) (ux := ux) (uy := uy) (x5 := .no) (x6 := .no) (x7 := .no) (x8 := .no) (x9 := .no) (x10 := .no) (x11 := .no) (x12 := .no) (x13 := .no) (x14 := .no) (x15 := .no) (x16 := .no) (x17 := .no) hs
  refine ⟨s', ?_, h1⟩
  have B := E.bi hl
  refine runDef_rt ?_
  have e0 : startE 18 [.st, ptD tx ty, ptD ux uy, ptD px py, ptD qx qy] = ET2 px py tx ty qx qy ux uy .no .no .no .no .no .no .no .no .no .no .no .no .no := rfl
  rw [e0]
  unfold m__law_two
  rw [sSeq_nx e1, sSeq_nx (tw_2 E), sSeq_nx (tw_3 B), sSeq_nx (tw_4 B), sSeq_nx tw_5]
  by_cases h0 : lowV px py tx ty qx qy ux uy l = 0
  · rw [h0, sSeq_rt (tw_6z B h0)]
  · rw [sSeq_nx (tw_6 h0), sSeq_nx (tw_7 B h0), sSeq_nx (tw_8 B h0), sSeq_nx (tw_9 B (B.mu h0)), sSeq_nx (tw_10 (B.two h0) B.one hl (B.mu h0)), sSeq_nx (tw_11 E hl h0)]
    by_cases hw : l + muV px py tx ty qx qy ux uy l = 0
    · rw [hw, sSeq_rt (tw_12z B h0 hw)]
    · rw [sSeq_nx (tw_12 hw), sSeq_nx (tw_13 B.one (B.there h0) hl (B.whole h0) hw)]
      have es1 : px + l * tx + l / (l + muV px py tx ty qx qy ux uy l) * (qx + -muV px py tx ty qx qy ux uy l * ux - (px + l * tx)) = spX px py tx ty qx qy ux uy l := rfl
      have es2 : py + l * ty + l / (l + muV px py tx ty qx qy ux uy l) * (qy + -muV px py tx ty qx qy ux uy l * uy - (py + l * ty)) = spY px py tx ty qx qy ux uy l := rfl
      rw [es1, es2, sSeq_nx (tw_14 B h0 hw)]
      by_cases hf : spX px py tx ty qx qy ux uy l = px ∧ spY px py tx ty qx qy ux uy l = py
      · rw [sSeq_rt (tw_15f E hl h0 hw hf)]
      · by_cases hq : spX px py tx ty qx qy ux uy l = qx ∧ spY px py tx ty qx qy ux uy l = qy
        · rw [sSeq_rt (tw_15q E hl h0 hw hf hq)]
        · rw [sSeq_nx (tw_15 hf hq), sSeq_nx (tw_16 E hl h0 hw hf), sSeq_nx (tw_17 (B.there h0) (B.whole h0) hw)]
          have en1 : (qx + -muV px py tx ty qx qy ux uy l * ux - (px + l * tx)) / (l + muV px py tx ty qx qy ux uy l) = nX px py tx ty qx qy ux uy l := rfl
          have en2 : (qy + -muV px py tx ty qx qy ux uy l * uy - (py + l * ty)) / (l + muV px py tx ty qx qy ux uy l) = nY px py tx ty qx qy ux uy l := rfl
          rw [en1, en2, sSeq_nx (tw_18 E hl h0 hw hf hq)]
          exact tw_19 E ⟨l, hl, by unfold jV; rw [if_neg h0, if_neg hw]⟩
end
end L2.Mir.W

set_option Elab.async false
set_option linter.all false
set_option maxRecDepth 100000
set_option maxHeartbeats 1000000
namespace L2.Mir.W
open PySem PySem.Spec PyProof.Rows
section
variable {h px py tx ty qx qy : Rat} {s : DS}
variable {x5 x6 x7 x8 x9 x10 : Sl}
def EP1 (h px py tx ty qx qy : Rat) (x5 x6 x7 x8 x9 x10 : Sl) : SE := [.val .st, .val (qD h), .val (ptD tx ty), .val (ptD px py), .val (ptD qx qy), x5, x6, x7, x8, x9, x10]
/-- a drawn way's half -/
structure Half (h : Rat) : Prop where
  n : h.num.natAbs ≤ 3
  d : h.den ≤ 3
theorem Half.z {h : Rat} (H : Half h) : szQ 2 h := sz_frac (m := 3) H.n H.d (by decide) (by decide)
theorem Half.of {h : Rat} (z : szQ 2 h) : Half h := ⟨by have := z.1; omega, by have := z.2; omega⟩
theorem ps_1 (H : Half h) : q__law_pairs_1 (EP1 h px py tx ty qx qy x5 x6 x7 x8 x9 x10) s = .ok (.nx (EP1 h px py tx ty qx qy (.val (qD (h * h))) x6 x7 x8 x9 x10)) s := by
  have t1 := f__law_mul_ok H.z H.z (by omega) s
  simp [q__law_pairs_1, EP1, t1]
theorem ps_2 (H : Half h) : q__law_pairs_2 (EP1 h px py tx ty qx qy (.val (qD (h * h))) x6 x7 x8 x9 x10) s = .ok (.nx (EP1 h px py tx ty qx qy (.val (qD (h * h))) (.val (qD (1 + h * h))) x7 x8 x9 x10)) s := by
  have t2 := f__law_add_ok sz_1 (H.z.mul H.z) (by omega) s
  simp [q__law_pairs_2, EP1, qD_1, t2]
theorem ps_3 (H : Half h) : q__law_pairs_3 (EP1 h px py tx ty qx qy (.val (qD (h * h))) (.val (qD (1 + h * h))) x7 x8 x9 x10) s = .ok (.nx (EP1 h px py tx ty qx qy (.val (qD (h * h))) (.val (qD (1 + h * h))) (.val (ptD ((1 - h * h) / (1 + h * h)) (2 * h / (1 + h * h)))) x8 x9 x10)) s := by
  have hz := H.z
  have l0 := low_ne h
  have n1 := f__law_neg_ok (h * h) s
  have t3 := f__law_add_ok sz_1 (hz.mul hz).neg (by omega) s
  have t4 := f__law_over_ok (sz_1.add (hz.mul hz).neg) (sz_1.add (hz.mul hz)) (by omega) l0 s
  have t5 := f__law_mul_ok sz_2 hz (by omega) s
  have t6 := f__law_over_ok (sz_2.mul hz) (sz_1.add (hz.mul hz)) (by omega) l0 s
  have ee : 1 + -(h * h) = 1 - h * h := by grind
  rw [ee] at t3 t4
  simp [q__law_pairs_3, EP1, qD_1, qD_2, n1, t3, t4, t5, t6, pt_of]
theorem ps_4 (hs : StateOk s) : ∃ f s', q__law_pairs_4 (EP1 h px py tx ty qx qy x5 x6 x7 x8 x9 x10) s = .ok (.nx (EP1 h px py tx ty qx qy x5 x6 x7 (.val (qD f)) x9 x10)) s' ∧ StateOk s' ∧ szQ 2 f := by
  obtain ⟨f, s1, e1, h1, p1, p2⟩ := f__law_fraction_ok hs (m := 3) (by omega) (by omega)
  exact ⟨f, s1, by simp [q__law_pairs_4, EP1, e1], h1, sz_frac p1 p2 (by decide) (by decide)⟩
theorem ps_5 (H : Half h) (hp : pz 3 px py) (ht : pz 5 tx ty) (tu : tx * tx + ty * ty = 1) : q__law_pairs_5 (EP1 h px py tx ty qx qy x5 x6 (.val (ptD ((1 - h * h) / (1 + h * h)) (2 * h / (1 + h * h)))) x8 x9 x10) s = .ok (.nx (EP1 h px py tx ty qx qy x5 x6 (.val (ptD ((1 - h * h) / (1 + h * h)) (2 * h / (1 + h * h)))) x8 x9 x10)) s := by
  have w1 := f_way_of_ok H.z (by decide) (low_ne h) s
  obtain ⟨z1, z2⟩ := way_sz H.n H.d
  have w2 := isWay_p z1 z2 (by decide) s
  rw [way_unit h, decide_eq_true rfl] at w2
  have w3 := isWay_p ht.1 ht.2 (by decide) s
  rw [tu, decide_eq_true rfl] at w3
  have w4 := isSpot_p px py s
  have w5 := isWay_p hp.1 hp.2 (by decide) s
  have w6 := f__law_dot_ok hp.1 hp.2 hp.1 hp.2 (by decide) s
  generalize (1 - h * h) / (1 + h * h) = x at *
  generalize 2 * h / (1 + h * h) = y at *
  generalize px * px + py * py = d at *
  simp [q__law_pairs_5, EP1, w1, w2, w3, w4, w5, w6, qD_1]
theorem ps_6 (hp : pz 3 px py) (hq : pz 3 qx qy) : q__law_pairs_6 (EP1 h px py tx ty qx qy x5 x6 x7 x8 x9 x10) s = .ok (.nx (EP1 h px py tx ty qx qy x5 x6 x7 x8 x9 x10)) s := by
  have a1 := f_dot_ok hp.1 hp.2 hq.1 hq.2 (by decide) s
  have a2 := f__law_dot_ok hp.1 hp.2 hq.1 hq.2 (by decide) s
  have a3 := f_crossed_ok hp.1 hp.2 hq.1 hq.2 (by decide) s
  have a4 := f__law_cross_ok hp.1 hp.2 hq.1 hq.2 (by decide) s
  have a5 := f_less_ok hp.1 hp.2 hq.1 hq.2 (by decide) s
  have a6 := f__law_minus_ok hp.1 hp.2 hq.1 hq.2 (by decide) s
  simp [q__law_pairs_6, EP1, a1, a2, a3, a4, a5, a6]
theorem ps_7 (hp : pz 3 px py) (hq : pz 3 qx qy) {f : Rat} (hf : szQ 2 f) : q__law_pairs_7 (EP1 h px py tx ty qx qy x5 x6 x7 (.val (qD f)) x9 x10) s = .ok (.nx (EP1 h px py tx ty qx qy x5 x6 x7 (.val (qD f)) x9 x10)) s := by
  have a1 := f_put_ok hp.1 hp.2 hq.1 hq.2 hf (by decide) s
  have a2 := f__law_put_ok hp.1 hp.2 hq.1 hq.2 hf (by decide) s
  simp [q__law_pairs_7, EP1, a1, a2]
theorem ps_8 : q__law_pairs_8 (EP1 h px py tx ty qx qy x5 x6 x7 x8 x9 x10) s = .ok (.nx (EP1 h px py tx ty qx qy x5 x6 x7 x8 (.val (ptD (-py) px)) x10)) s := by
  have a1 := f__law_neg_ok py s
  simp [q__law_pairs_8, EP1, ix_p0, ix_p1, -opIx, a1, pt_of]
theorem ps_9 (hp : pz 3 px py) (ht : pz 5 tx ty) : q__law_pairs_9 (EP1 h px py tx ty qx qy x5 x6 x7 x8 x9 x10) s = .ok (.nx (EP1 h px py tx ty qx qy x5 x6 x7 x8 x9 (.val (ptD (tx * px - ty * py) (ty * px + tx * py))))) s := by
  have a1 := f__law_mul_ok ht.1 hp.1 (by decide) s
  have a2 := f__law_mul_ok ht.2 hp.2 (by decide) s
  have a3 := f__law_neg_ok (ty * py) s
  have a4 := f__law_add_ok (ht.1.mul hp.1) (ht.2.mul hp.2).neg (by decide) s
  rw [← Rat.sub_eq_add_neg] at a4
  have a5 := f__law_mul_ok ht.2 hp.1 (by decide) s
  have a6 := f__law_mul_ok ht.1 hp.2 (by decide) s
  have a7 := f__law_add_ok (ht.2.mul hp.1) (ht.1.mul hp.2) (by decide) s
  simp [q__law_pairs_9, EP1, ix_p0, ix_p1, -opIx, a1, a2, a3, a4, a5, a6, a7, pt_of]
theorem ps_10 (hp : pz 3 px py) (ht : pz 5 tx ty) : q__law_pairs_10 (EP1 h px py tx ty qx qy x5 x6 x7 x8 (.val (ptD (-py) px)) (.val (ptD (tx * px - ty * py) (ty * px + tx * py)))) s = .ok (.rt (.bl true)) s := by
  have a1 := f_turned_ok hp.1 hp.2 (by decide) s
  have a2 := f_rotated_ok hp.1 hp.2 ht.1 ht.2 (by decide) s
  simp [q__law_pairs_10, EP1, a1, a2]
theorem law_pairs_ok (hs : StateOk s) (H : Half h) (hp : pz 3 px py) (hq : pz 3 qx qy) (ht : pz 5 tx ty) (tu : tx * tx + ty * ty = 1) : ∃ s', f__law_pairs [.st, qD h, ptD tx ty, ptD px py, ptD qx qy] s = .ok (.bl true) s' ∧ StateOk s' := by
  obtain ⟨f, s', e4, h4, hf⟩ := ps_4 (h := h) (px := px) (py := py) (tx := tx) (ty := ty) (qx := qx) (qy := qy) (x5 := .val (qD (h * h))) (x6 := .val (qD (1 + h * h))) (x7 := .val (ptD ((1 - h * h) / (1 + h * h)) (2 * h / (1 + h * h)))) (x8 := .no) (x9 := .no) (x10 := .no) hs
  refine ⟨s', runDef_rt ?_, h4⟩
  have e0 : startE 11 [.st, qD h, ptD tx ty, ptD px py, ptD qx qy] = EP1 h px py tx ty qx qy .no .no .no .no .no .no := rfl
  rw [e0]
  unfold m__law_pairs
  rw [sSeq_nx (ps_1 H), sSeq_nx (ps_2 H), sSeq_nx (ps_3 H), sSeq_nx e4, sSeq_nx (ps_5 H hp ht tu), sSeq_nx (ps_6 hp hq), sSeq_nx (ps_7 hp hq hf), sSeq_nx ps_8, sSeq_nx (ps_9 hp ht), ps_10 hp ht]
end
end L2.Mir.W

set_option Elab.async false
set_option linter.all false
set_option maxRecDepth 100000
set_option maxHeartbeats 1000000
namespace L2.Mir.W
open PySem PySem.Spec PyProof.Rows
section
variable {px py tx ty qx qy cx cy sx sy : Rat} {i j k n : Nat} {s : DS}
def arcD (px py tx ty qx qy : Rat) : D := .tup [ptD px py, ptD tx ty, ptD qx qy]
theorem ix_a0 (s : DS) : opIx (arcD px py tx ty qx qy) (.int 0) s = .ok (ptD px py) s := by simp [arcD]
theorem ix_a1 (s : DS) : opIx (arcD px py tx ty qx qy) (.int 1) s = .ok (ptD tx ty) s := by simp [arcD]
theorem ix_a2 (s : DS) : opIx (arcD px py tx ty qx qy) (.int 2) s = .ok (ptD qx qy) s := by simp [arcD]
def DV (px py qx qy : Rat) : Rat := (qx - px) * (qx - px) + (qy - py) * (qy - py)
def XV (px py tx ty qx qy : Rat) : Rat := tx * (qy - py) - ty * (qx - px)
def aX (px py tx ty qx qy : Rat) : Rat := 2 * (tx * (qx - px) + ty * (qy - py)) / DV px py qx qy * (qx - px) - tx
def aY (px py tx ty qx qy : Rat) : Rat := 2 * (tx * (qx - px) + ty * (qy - py)) / DV px py qx qy * (qy - py) - ty
def cX (px py tx ty qx qy : Rat) : Rat := px + DV px py qx qy / (2 * XV px py tx ty qx qy) * (-ty)
def cY (px py tx ty qx qy : Rat) : Rat := py + DV px py qx qy / (2 * XV px py tx ty qx qy) * tx
theorem low_X : 2 * ((qx - px) * (-ty) + (qy - py) * tx) = 2 * XV px py tx ty qx qy := by unfold XV; grind
theorem at_ok (hp : pz i px py) (ht : pz j tx ty) (hq : pz k qx qy) (h : 8 * (i + k + 1) + 4 * j + 20 ≤ 8999) (h0 : DV px py qx qy ≠ 0) (s : DS) : f_way_at [ptD px py, ptD tx ty, ptD qx qy] s = .ok (ptD (aX px py tx ty qx qy) (aY px py tx ty qx qy)) s := f_way_at_ok hp ht hq h h0 s
theorem bend_ok (hp : pz i px py) (ht : pz j tx ty) (hq : pz k qx qy) (h : 6 * (i + k + 1) + 2 * j + 10 ≤ 8999) (h0 : DV px py qx qy ≠ 0) (s : DS) : f_bend [ptD px py, ptD tx ty, ptD qx qy] s = .ok (qD (2 * XV px py tx ty qx qy / DV px py qx qy)) s := f_bend_ok hp ht hq h h0 s
theorem middle_ok (hp : pz i px py) (ht : pz j tx ty) (hq : pz k qx qy) (h : 8 * (i + k + 1) + 8 * j + 20 ≤ 8999) (h0 : XV px py tx ty qx qy ≠ 0) (s : DS) : f_middle [ptD px py, ptD tx ty, ptD qx qy] s = .ok (ptD (cX px py tx ty qx qy) (cY px py tx ty qx qy)) s := by
  have k := f_middle_ok hp ht hq h (by rw [low_X]; grind) s
  rw [low_X] at k
  exact k
theorem middle_non (hp : pz i px py) (ht : pz j tx ty) (hq : pz k qx qy) (h : 8 * (i + k + 1) + 8 * j + 20 ≤ 8999) (h0 : XV px py tx ty qx qy = 0) (s : DS) : f_middle [ptD px py, ptD tx ty, ptD qx qy] s = .ok .non s :=
  f_middle_non hp ht hq h (by rw [low_X, h0]; grind) s
theorem is_on_ok (hp : pz i px py) (ht : pz j tx ty) (hq : pz k qx qy) (hs : pz n sx sy) (h : 8 * (i + k + 1) + 8 * j + 20 ≤ 8999) (h0 : XV px py tx ty qx qy ≠ 0) (hc : pz 65 (cX px py tx ty qx qy) (cY px py tx ty qx qy)) (hi : i ≤ 300) (hn : n ≤ 300) (s : DS) :
    f_is_on [arcD px py tx ty qx qy, ptD sx sy] s = .ok (.bl (decide ((px - cX px py tx ty qx qy) * (px - cX px py tx ty qx qy) + (py - cY px py tx ty qx qy) * (py - cY px py tx ty qx qy) = (sx - cX px py tx ty qx qy) * (sx - cX px py tx ty qx qy) + (sy - cY px py tx ty qx qy) * (sy - cY px py tx ty qx qy)))) s := by
  have e1 := middle_ok hp ht hq h h0 s
  have e2 := f_less_ok hp.1 hp.2 hc.1 hc.2 (by omega) s
  have e3 := f_less_ok hs.1 hs.2 hc.1 hc.2 (by omega) s
  have z2 := hp.sub hc
  have z3 := hs.sub hc
  have e4 := f_dot_ok z2.1 z2.2 z2.1 z2.2 (by omega) s
  have e5 := f_dot_ok z3.1 z3.2 z3.1 z3.2 (by omega) s
  have nn : isNonD (ptD (cX px py tx ty qx qy) (cY px py tx ty qx qy)) = some false := rfl
  simp [f_is_on, m_is_on, ix_a0, ix_a1, ix_a2, -opIx, e1, e2, e3, e4, e5, nn]
theorem is_on_non (hp : pz i px py) (ht : pz j tx ty) (hq : pz k qx qy) (hs : pz n sx sy) (h : 8 * (i + k + 1) + 8 * j + 20 ≤ 8999) (h0 : XV px py tx ty qx qy = 0) (hi : i + k + n ≤ 900) (s : DS) :
    f_is_on [arcD px py tx ty qx qy, ptD sx sy] s = .ok (.bl (decide ((qx - px) * (sy - py) - (qy - py) * (sx - px) = 0))) s := by
  have e1 := middle_non hp ht hq h h0 s
  have e2 := f_less_ok hq.1 hq.2 hp.1 hp.2 (by omega) s
  have e3 := f_less_ok hs.1 hs.2 hp.1 hp.2 (by omega) s
  have z2 := (hq.sub hp).mono (by omega : k + i + 1 ≤ k + i + n + 1)
  have z3 := (hs.sub hp).mono (by omega : n + i + 1 ≤ k + i + n + 1)
  have e4 := f_crossed_ok z2.1 z2.2 z3.1 z3.2 (by omega) s
  simp [f_is_on, m_is_on, ix_a0, ix_a1, ix_a2, ix_q0, -opIx, e1, e2, e3, e4]
theorem turned_back_ok (hp : pz i px py) (ht : pz j tx ty) (hq : pz k qx qy) (h : 8 * (i + k + 1) + 4 * j + 20 ≤ 8999) (h0 : DV px py qx qy ≠ 0) {n : Nat} (ha : pz n (aX px py tx ty qx qy) (aY px py tx ty qx qy)) (hn : n ≤ 900) (s : DS) :
    f_turned_back [arcD px py tx ty qx qy] s = .ok (arcD qx qy (-aX px py tx ty qx qy) (-aY px py tx ty qx qy) px py) s := by
  have e1 := at_ok hp ht hq h h0 s
  have e2 := f_times_ok sz_m1 ha.1 (by omega) s
  have e3 := f_times_ok sz_m1 ha.2 (by omega) s
  have r1 : -1 * aX px py tx ty qx qy = -aX px py tx ty qx qy := by grind
  have r2 : -1 * aY px py tx ty qx qy = -aY px py tx ty qx qy := by grind
  rw [r1] at e2
  rw [r2] at e3
  simp [f_turned_back, m_turned_back, ix_a0, ix_a1, ix_a2, ix_p0, ix_p1, -opIx, e1, qD_m1, e2, e3, pt_of]
  rfl
/-- told back: the way at the end, turned -/
theorem a_unit (tu : tx * tx + ty * ty = 1) (h0 : DV px py qx qy ≠ 0) : aX px py tx ty qx qy * aX px py tx ty qx qy + aY px py tx ty qx qy * aY px py tx ty qx qy = 1 := by
  unfold aX aY DV at *
  generalize qx - px = gx at *
  generalize qy - py = gy at *
  have hD : gx * gx + gy * gy = gx * gx + gy * gy := rfl
  generalize hd : gx * gx + gy * gy = d at *
  have : 2 * (tx * gx + ty * gy) / d * d = 2 * (tx * gx + ty * gy) := by grind
  generalize 2 * (tx * gx + ty * gy) / d = m at *
  grind
theorem a_dot (h0 : DV px py qx qy ≠ 0) : aX px py tx ty qx qy * (qx - px) + aY px py tx ty qx qy * (qy - py) = tx * (qx - px) + ty * (qy - py) := by
  unfold aX aY DV at *
  generalize qx - px = gx at *
  generalize qy - py = gy at *
  grind
theorem a_cross (h0 : DV px py qx qy ≠ 0) : (qx - px) * aY px py tx ty qx qy - (qy - py) * aX px py tx ty qx qy = XV px py tx ty qx qy := by
  unfold aX aY XV DV at *
  generalize qx - px = gx at *
  generalize qy - py = gy at *
  grind
theorem D_back : DV qx qy px py = DV px py qx qy := by unfold DV; grind
theorem back_x (h0 : DV px py qx qy ≠ 0) : aX qx qy (-aX px py tx ty qx qy) (-aY px py tx ty qx qy) px py = -tx := by
  have h := a_dot (tx := tx) (ty := ty) h0
  show 2 * (-aX px py tx ty qx qy * (px - qx) + -aY px py tx ty qx qy * (py - qy)) / DV qx qy px py * (px - qx) - -aX px py tx ty qx qy = -tx
  rw [D_back (px := px) (py := py) (qx := qx) (qy := qy)]
  have e1 : -aX px py tx ty qx qy * (px - qx) + -aY px py tx ty qx qy * (py - qy) = tx * (qx - px) + ty * (qy - py) := by grind
  rw [e1]
  have e2 : aX px py tx ty qx qy = 2 * (tx * (qx - px) + ty * (qy - py)) / DV px py qx qy * (qx - px) - tx := rfl
  rw [e2]
  generalize 2 * (tx * (qx - px) + ty * (qy - py)) / DV px py qx qy = m
  grind
theorem back_y (h0 : DV px py qx qy ≠ 0) : aY qx qy (-aX px py tx ty qx qy) (-aY px py tx ty qx qy) px py = -ty := by
  have h := a_dot (tx := tx) (ty := ty) h0
  show 2 * (-aX px py tx ty qx qy * (px - qx) + -aY px py tx ty qx qy * (py - qy)) / DV qx qy px py * (py - qy) - -aY px py tx ty qx qy = -ty
  rw [D_back (px := px) (py := py) (qx := qx) (qy := qy)]
  have e1 : -aX px py tx ty qx qy * (px - qx) + -aY px py tx ty qx qy * (py - qy) = tx * (qx - px) + ty * (qy - py) := by grind
  rw [e1]
  have e2 : aY px py tx ty qx qy = 2 * (tx * (qx - px) + ty * (qy - py)) / DV px py qx qy * (qy - py) - ty := rfl
  rw [e2]
  generalize 2 * (tx * (qx - px) + ty * (qy - py)) / DV px py qx qy = m
  grind
theorem back_X (h0 : DV px py qx qy ≠ 0) : XV qx qy (-aX px py tx ty qx qy) (-aY px py tx ty qx qy) px py = -XV px py tx ty qx qy := by
  have := a_cross (tx := tx) (ty := ty) h0
  rw [← this]
  unfold XV
  grind
end
end L2.Mir.W

set_option Elab.async false
set_option linter.all false
set_option maxRecDepth 100000
set_option maxHeartbeats 1000000
namespace L2.Mir.W
open PySem PySem.Spec PyProof.Rows
section
variable {px py tx ty qx qy cx cy sx sy : Rat} {i j k n : Nat} {s : DS}
def RV (px py tx ty qx qy : Rat) : Rat := (px - cX px py tx ty qx qy) * (px - cX px py tx ty qx qy) + (py - cY px py tx ty qx qy) * (py - cY px py tx ty qx qy)
theorem c_other (hX : XV px py tx ty qx qy ≠ 0) : (qx - cX px py tx ty qx qy) * (qx - cX px py tx ty qx qy) + (qy - cY px py tx ty qx qy) * (qy - cY px py tx ty qx qy) = RV px py tx ty qx qy := by
  unfold RV cX cY DV
  have hx : XV px py tx ty qx qy = tx * (qy - py) - ty * (qx - px) := rfl
  generalize XV px py tx ty qx qy = X at *
  have hd : ((qx - px) * (qx - px) + (qy - py) * (qy - py)) / (2 * X) * (2 * X) = (qx - px) * (qx - px) + (qy - py) * (qy - py) := by grind
  generalize ((qx - px) * (qx - px) + (qy - py) * (qy - py)) / (2 * X) = m at *
  grind
theorem c_orth1 : (px - cX px py tx ty qx qy) * tx + (py - cY px py tx ty qx qy) * ty = 0 := by
  unfold cX cY
  generalize DV px py qx qy / (2 * XV px py tx ty qx qy) = m at *
  grind
theorem c_orth2 (hX : XV px py tx ty qx qy ≠ 0) (h0 : DV px py qx qy ≠ 0) : (qx - cX px py tx ty qx qy) * aX px py tx ty qx qy + (qy - cY px py tx ty qx qy) * aY px py tx ty qx qy = 0 := by
  unfold cX cY aX aY
  have hx : XV px py tx ty qx qy = tx * (qy - py) - ty * (qx - px) := rfl
  have hdd : DV px py qx qy = (qx - px) * (qx - px) + (qy - py) * (qy - py) := rfl
  generalize XV px py tx ty qx qy = X at *
  generalize DV px py qx qy = d at *
  have hd : d / (2 * X) * (2 * X) = d := by grind
  have hm : 2 * (tx * (qx - px) + ty * (qy - py)) / d * d = 2 * (tx * (qx - px) + ty * (qy - py)) := by grind
  generalize d / (2 * X) = m at *
  generalize 2 * (tx * (qx - px) + ty * (qy - py)) / d = r at *
  generalize hgx : qx - px = gx at *
  generalize hgy : qy - py = gy at *
  have e1 : qx = px + gx := by grind
  have e2 : qy = py + gy := by grind
  subst e1 e2
  grind
theorem c_bend (tu : tx * tx + ty * ty = 1) (hX : XV px py tx ty qx qy ≠ 0) (h0 : DV px py qx qy ≠ 0) : 2 * XV px py tx ty qx qy / DV px py qx qy * (2 * XV px py tx ty qx qy / DV px py qx qy) * RV px py tx ty qx qy = 1 := by
  have e : RV px py tx ty qx qy = DV px py qx qy / (2 * XV px py tx ty qx qy) * (DV px py qx qy / (2 * XV px py tx ty qx qy)) := by
    unfold RV cX cY
    generalize DV px py qx qy / (2 * XV px py tx ty qx qy) = m at *
    grind
  rw [e]
  generalize XV px py tx ty qx qy = X at *
  generalize DV px py qx qy = d at *
  grind
theorem X_zero (tu : tx * tx + ty * ty = 1) (hX : XV px py tx ty qx qy = 0) (h0 : DV px py qx qy ≠ 0) : aX px py tx ty qx qy = tx ∧ aY px py tx ty qx qy = ty := by
  unfold aX aY
  have hx : tx * (qy - py) - ty * (qx - px) = 0 := hX
  have hdd : DV px py qx qy = (qx - px) * (qx - px) + (qy - py) * (qy - py) := rfl
  generalize DV px py qx qy = d at *
  generalize qx - px = gx at *
  generalize qy - py = gy at *
  have e1 : gx = (tx * gx + ty * gy) * tx := by grind
  have e2 : gy = (tx * gx + ty * gy) * ty := by grind
  generalize tx * gx + ty * gy = m at *
  have e3 : d = m * m := by grind
  have m0 : m ≠ 0 := fun z => h0 (by rw [e3, z]; grind)
  constructor
  · rw [e3, e1]; grind
  · rw [e3, e2]; grind
theorem D_sz (hp : pz 3 px py) (hq : pz 3 qx qy) : szQ 29 (DV px py qx qy) := ((hq.sub hp).dot (hq.sub hp)).mono (by decide)
theorem X_sz (hp : pz 3 px py) (ht : pz 5 tx ty) (hq : pz 3 qx qy) : szQ 25 (XV px py tx ty qx qy) := (ht.cross (hq.sub hp)).mono (by decide)
theorem a_sz (hp : pz 3 px py) (ht : pz 5 tx ty) (hq : pz 3 qx qy) (h0 : DV px py qx qy ≠ 0) : pz 69 (aX px py tx ty qx qy) (aY px py tx ty qx qy) := by
  have g := hq.sub hp
  have z := szDiv (sz_2.mul (ht.dot g)) (D_sz hp hq) h0
  exact ⟨((z.mul g.1).sub ht.1).mono (by decide), ((z.mul g.2).sub ht.2).mono (by decide)⟩
theorem c_sz (hp : pz 3 px py) (ht : pz 5 tx ty) (hq : pz 3 qx qy) (hX : XV px py tx ty qx qy ≠ 0) : pz 65 (cX px py tx ty qx qy) (cY px py tx ty qx qy) := by
  have z := szDiv (D_sz hp hq) (sz_2.mul (X_sz hp ht hq)) (by grind)
  exact ⟨(hp.1.add (z.mul ht.2.neg)).mono (by decide), (hp.2.add (z.mul ht.1)).mono (by decide)⟩
theorem r_sz (hp : pz 3 px py) (hc : pz 65 (cX px py tx ty qx qy) (cY px py tx ty qx qy)) : szQ 277 (RV px py tx ty qx qy) := ((hp.sub hc).dot (hp.sub hc)).mono (by decide)
/-! moved by a turn and a shift -/
theorem moved_ok (hp : pz 3 px py) (ht : pz 5 tx ty) (hq : pz 3 qx qy) {wx wy : Rat} (hw : pz 5 wx wy) (wu : wx * wx + wy * wy = 1) (hs : pz 3 sx sy) (s : DS) :
    f_moved [arcD px py tx ty qx qy, ptD wx wy, ptD sx sy] s = .ok (arcD (wx * px - wy * py + 1 * sx) (wy * px + wx * py + 1 * sy) (wx * tx - wy * ty) (wy * tx + wx * ty) (wx * qx - wy * qy + 1 * sx) (wy * qx + wx * qy + 1 * sy)) s := by
  have e0 := isWay_p hw.1 hw.2 (by decide) s
  rw [wu, decide_eq_true rfl] at e0
  have e1 := f_rotated_ok hp.1 hp.2 hw.1 hw.2 (by decide) s
  have e2 := f_rotated_ok ht.1 ht.2 hw.1 hw.2 (by decide) s
  have e3 := f_rotated_ok hq.1 hq.2 hw.1 hw.2 (by decide) s
  have z1 : pz 17 (wx * px - wy * py) (wy * px + wx * py) := ⟨((hw.1.mul hp.1).sub (hw.2.mul hp.2)).mono (by decide), ((hw.2.mul hp.1).add (hw.1.mul hp.2)).mono (by decide)⟩
  have z3 : pz 17 (wx * qx - wy * qy) (wy * qx + wx * qy) := ⟨((hw.1.mul hq.1).sub (hw.2.mul hq.2)).mono (by decide), ((hw.2.mul hq.1).add (hw.1.mul hq.2)).mono (by decide)⟩
  have e4 := f_put_ok z1.1 z1.2 hs.1 hs.2 sz_1 (by decide) s
  have e5 := f_put_ok z3.1 z3.2 hs.1 hs.2 sz_1 (by decide) s
  simp [f_moved, m_moved, ix_a0, ix_a1, ix_a2, -opIx, e0, e1, e2, e3, ix_l0, ix_l1, ix_l2, qD_1, e4, e5]
  rfl
theorem moved_turn (hs : pz 3 sx sy) (s : DS) : f_moved [arcD px py tx ty qx qy, ptD 1 1, ptD sx sy] s = .exc (mis "turn") s := by
  have e0 := isWay_p sz_1 sz_1 (by decide) s
  have : ¬ ((1 : Rat) * 1 + 1 * 1 = 1) := by decide +kernel
  rw [decide_eq_false this] at e0
  simp [f_moved, m_moved, e0, mis]
theorem mv_D {wx wy : Rat} (wu : wx * wx + wy * wy = 1) : DV (wx * px - wy * py + 1 * sx) (wy * px + wx * py + 1 * sy) (wx * qx - wy * qy + 1 * sx) (wy * qx + wx * qy + 1 * sy) = DV px py qx qy := by unfold DV; grind
theorem mv_X {wx wy : Rat} (wu : wx * wx + wy * wy = 1) : XV (wx * px - wy * py + 1 * sx) (wy * px + wx * py + 1 * sy) (wx * tx - wy * ty) (wy * tx + wx * ty) (wx * qx - wy * qy + 1 * sx) (wy * qx + wx * qy + 1 * sy) = XV px py tx ty qx qy := by unfold XV; grind
theorem mv_cx {wx wy : Rat} (wu : wx * wx + wy * wy = 1) : cX (wx * px - wy * py + 1 * sx) (wy * px + wx * py + 1 * sy) (wx * tx - wy * ty) (wy * tx + wx * ty) (wx * qx - wy * qy + 1 * sx) (wy * qx + wx * qy + 1 * sy) = wx * cX px py tx ty qx qy - wy * cY px py tx ty qx qy + 1 * sx := by
  unfold cX cY
  rw [mv_D wu, mv_X wu]
  generalize DV px py qx qy / (2 * XV px py tx ty qx qy) = m
  grind
theorem mv_cy {wx wy : Rat} (wu : wx * wx + wy * wy = 1) : cY (wx * px - wy * py + 1 * sx) (wy * px + wx * py + 1 * sy) (wx * tx - wy * ty) (wy * tx + wx * ty) (wx * qx - wy * qy + 1 * sx) (wy * qx + wx * qy + 1 * sy) = wy * cX px py tx ty qx qy + wx * cY px py tx ty qx qy + 1 * sy := by
  unfold cX cY
  rw [mv_D wu, mv_X wu]
  generalize DV px py qx qy / (2 * XV px py tx ty qx qy) = m
  grind
end
end L2.Mir.W

set_option Elab.async false
set_option linter.all false
set_option maxRecDepth 100000
set_option maxHeartbeats 1000000
namespace L2.Mir.W
open PySem PySem.Spec PyProof.Rows
section
variable {px py tx ty qx qy cx cy : Rat} {s : DS}
variable {x4 x5 x6 x7 x8 x9 x10 x11 x12 x13 x14 x15 x16 x17 x18 x19 x20 : Sl}
def ES1 (px py tx ty qx qy : Rat) (x4 x5 x6 x7 x8 x9 x10 x11 x12 x13 x14 x15 x16 x17 x18 x19 x20 : Sl) : SE := [.val .st, .val (ptD tx ty), .val (ptD px py), .val (ptD qx qy), x4, x5, x6, x7, x8, x9, x10, x11, x12, x13, x14, x15, x16, x17, x18, x19, x20]
theorem sg_1 (hp : pz 3 px py) (hq : pz 3 qx qy) : q__law_single_1 (ES1 px py tx ty qx qy x4 x5 x6 x7 x8 x9 x10 x11 x12 x13 x14 x15 x16 x17 x18 x19 x20) s = .ok (.nx (ES1 px py tx ty qx qy (.val (ptD (qx - px) (qy - py))) x5 x6 x7 x8 x9 x10 x11 x12 x13 x14 x15 x16 x17 x18 x19 x20)) s := by
  have m1 := f__law_minus_ok hq.1 hq.2 hp.1 hp.2 (by decide) s
  simp [q__law_single_1, ES1, m1]
theorem sg_2 (h : ¬ (qx - px = 0 ∧ qy - py = 0)) : q__law_single_2 (ES1 px py tx ty qx qy (.val (ptD (qx - px) (qy - py))) x5 x6 x7 x8 x9 x10 x11 x12 x13 x14 x15 x16 x17 x18 x19 x20) s = .ok (.nx (ES1 px py tx ty qx qy (.val (ptD (qx - px) (qy - py))) x5 x6 x7 x8 x9 x10 x11 x12 x13 x14 x15 x16 x17 x18 x19 x20)) s := by
  have h1 : deq (ptD (qx - px) (qy - py)) (ptD 0 0) = false := by rw [deq_p]; simpa using fun x y => h ⟨x, y⟩
  simp [q__law_single_2, ES1, qD_0, pt_of, h1, -deq_p]
theorem sg_2z (hp : pz 3 px py) (ht : pz 5 tx ty) (hq : pz 3 qx qy) (h : qx - px = 0 ∧ qy - py = 0) : q__law_single_2 (ES1 px py tx ty qx qy (.val (ptD (qx - px) (qy - py))) x5 x6 x7 x8 x9 x10 x11 x12 x13 x14 x15 x16 x17 x18 x19 x20) s = .ok (.rt (.bl true)) s := by
  have hd : (qx - px) * (qx - px) + (qy - py) * (qy - py) = 0 := by rw [h.1, h.2]; grind
  have w1 := word3 (x := "bend") tab_bend (f_bend_exc hp ht hq (by decide) hd s)
  have w2 := word3 (x := "way_at") tab_way_at (f_way_at_exc hp ht hq (by decide) hd s)
  have h1 : deq (ptD (qx - px) (qy - py)) (ptD 0 0) = true := by rw [deq_p]; simpa using h
  simp [q__law_single_2, ES1, qD_0, pt_of, h1, -deq_p, w1, w2, so_points]
theorem sg_3 (hp : pz 3 px py) (ht : pz 5 tx ty) (hq : pz 3 qx qy) : q__law_single_3 (ES1 px py tx ty qx qy (.val (ptD (qx - px) (qy - py))) x5 x6 x7 x8 x9 x10 x11 x12 x13 x14 x15 x16 x17 x18 x19 x20) s = .ok (.nx (ES1 px py tx ty qx qy (.val (ptD (qx - px) (qy - py))) (.val (qD (DV px py qx qy))) (.val (qD (XV px py tx ty qx qy))) x7 x8 x9 x10 x11 x12 x13 x14 x15 x16 x17 x18 x19 x20)) s := by
  have g := hq.sub hp
  have a1 := f__law_dot_ok g.1 g.2 g.1 g.2 (by decide) s
  have a2 := f__law_cross_ok ht.1 ht.2 g.1 g.2 (by decide) s
  simp [q__law_single_3, ES1, a1, a2]
  exact ⟨rfl, rfl⟩
def optC (px py tx ty qx qy : Rat) : D := if XV px py tx ty qx qy = 0 then .non else ptD (cX px py tx ty qx qy) (cY px py tx ty qx qy)
theorem sg_4 (hp : pz 3 px py) (ht : pz 5 tx ty) (hq : pz 3 qx qy) (h0 : DV px py qx qy ≠ 0) : q__law_single_4 (ES1 px py tx ty qx qy x4 x5 x6 x7 x8 x9 x10 x11 x12 x13 x14 x15 x16 x17 x18 x19 x20) s = .ok (.nx (ES1 px py tx ty qx qy x4 x5 x6 (.val (ptD (aX px py tx ty qx qy) (aY px py tx ty qx qy))) (.val (optC px py tx ty qx qy)) x9 x10 x11 x12 x13 x14 x15 x16 x17 x18 x19 x20)) s := by
  have a1 := at_ok hp ht hq (by decide) h0 s
  unfold optC
  by_cases hX : XV px py tx ty qx qy = 0
  · have a2 := middle_non hp ht hq (by decide) hX s
    simp [q__law_single_4, ES1, a1, a2, hX]
  · have a2 := middle_ok hp ht hq (by decide) hX s
    simp [q__law_single_4, ES1, a1, a2, hX]
theorem sg_5 (hp : pz 3 px py) (ht : pz 5 tx ty) (hq : pz 3 qx qy) (tu : tx * tx + ty * ty = 1) (h0 : DV px py qx qy ≠ 0) : q__law_single_5 (ES1 px py tx ty qx qy x4 (.val (qD (DV px py qx qy))) (.val (qD (XV px py tx ty qx qy))) (.val (ptD (aX px py tx ty qx qy) (aY px py tx ty qx qy))) x8 x9 x10 x11 x12 x13 x14 x15 x16 x17 x18 x19 x20) s = .ok (.nx (ES1 px py tx ty qx qy x4 (.val (qD (DV px py qx qy))) (.val (qD (XV px py tx ty qx qy))) (.val (ptD (aX px py tx ty qx qy) (aY px py tx ty qx qy))) x8 x9 x10 x11 x12 x13 x14 x15 x16 x17 x18 x19 x20)) s := by
  have a1 := bend_ok hp ht hq (by decide) h0 s
  have a2 := f__law_mul_ok sz_2 (X_sz hp ht hq) (by decide) s
  have a3 := f__law_over_ok (sz_2.mul (X_sz hp ht hq)) (D_sz hp hq) (by decide) h0 s
  have za := a_sz hp ht hq h0
  have a4 := isWay_p za.1 za.2 (by decide) s
  rw [a_unit tu h0, decide_eq_true rfl] at a4
  simp [q__law_single_5, ES1, a1, qD_2, a2, a3, a4]
theorem sg_6 (hp : pz 3 px py) (ht : pz 5 tx ty) (hq : pz 3 qx qy) (h0 : DV px py qx qy ≠ 0) : q__law_single_6 (ES1 px py tx ty qx qy (.val (ptD (qx - px) (qy - py))) x5 (.val (qD (XV px py tx ty qx qy))) (.val (ptD (aX px py tx ty qx qy) (aY px py tx ty qx qy))) x8 x9 x10 x11 x12 x13 x14 x15 x16 x17 x18 x19 x20) s = .ok (.nx (ES1 px py tx ty qx qy (.val (ptD (qx - px) (qy - py))) x5 (.val (qD (XV px py tx ty qx qy))) (.val (ptD (aX px py tx ty qx qy) (aY px py tx ty qx qy))) x8 x9 x10 x11 x12 x13 x14 x15 x16 x17 x18 x19 x20)) s := by
  have g := hq.sub hp
  have za := a_sz hp ht hq h0
  have a1 := f__law_dot_ok za.1 za.2 g.1 g.2 (by decide) s
  rw [a_dot h0] at a1
  have a2 := f__law_dot_ok ht.1 ht.2 g.1 g.2 (by decide) s
  have a3 := f__law_cross_ok g.1 g.2 za.1 za.2 (by decide) s
  rw [a_cross h0] at a3
  simp [q__law_single_6, ES1, a1, a2, a3]
theorem qD_3 : D.tup [.int 3, .int 1] = qD 3 := rfl
theorem sz_3 : szQ 2 3 := ⟨by decide, by decide⟩
theorem sg_7 (hX : XV px py tx ty qx qy ≠ 0) : q__law_single_7 (ES1 px py tx ty qx qy x4 x5 (.val (qD (XV px py tx ty qx qy))) x7 x8 x9 x10 x11 x12 x13 x14 x15 x16 x17 x18 x19 x20) s = .ok (.nx (ES1 px py tx ty qx qy x4 x5 (.val (qD (XV px py tx ty qx qy))) x7 x8 x9 x10 x11 x12 x13 x14 x15 x16 x17 x18 x19 x20)) s := by
  simp [q__law_single_7, ES1, qD_0, hX]
theorem sg_7z (hp : pz 3 px py) (ht : pz 5 tx ty) (hq : pz 3 qx qy) (tu : tx * tx + ty * ty = 1) (h0 : DV px py qx qy ≠ 0) (hX : XV px py tx ty qx qy = 0) : q__law_single_7 (ES1 px py tx ty qx qy (.val (ptD (qx - px) (qy - py))) x5 (.val (qD (XV px py tx ty qx qy))) (.val (ptD (aX px py tx ty qx qy) (aY px py tx ty qx qy))) (.val (optC px py tx ty qx qy)) x9 x10 x11 x12 x13 x14 x15 x16 x17 x18 x19 x20) s = .ok (.rt (.bl true)) s := by
  have g := hq.sub hp
  have a1 := f__law_put_ok hp.1 hp.2 g.1 g.2 sz_3 (by decide) s
  have zp := (hp.put g sz_3)
  have a2 := is_on_non hp ht hq zp (by decide) hX (by decide) s
  have e : (qx - px) * (py + 3 * (qy - py) - py) - (qy - py) * (px + 3 * (qx - px) - px) = 0 := by grind
  rw [e, decide_eq_true rfl] at a2
  unfold arcD at a2
  obtain ⟨b1, b2⟩ := X_zero tu hX h0
  unfold optC
  rw [if_pos hX, b1, b2, hX]
  simp [q__law_single_7, ES1, qD_0, qD_3, a1, a2]
theorem sg_8 (hp : pz 3 px py) (hq : pz 3 qx qy) (hc : pz 65 cx cy) : q__law_single_8 (ES1 px py tx ty qx qy x4 x5 x6 x7 (.val (ptD cx cy)) x9 x10 x11 x12 x13 x14 x15 x16 x17 x18 x19 x20) s = .ok (.nx (ES1 px py tx ty qx qy x4 x5 x6 x7 (.val (ptD cx cy)) (.val (ptD (px - cx) (py - cy))) (.val (ptD (qx - cx) (qy - cy))) x11 x12 x13 x14 x15 x16 x17 x18 x19 x20)) s := by
  have a1 := f__law_minus_ok hp.1 hp.2 hc.1 hc.2 (by decide) s
  have a2 := f__law_minus_ok hq.1 hq.2 hc.1 hc.2 (by decide) s
  simp [q__law_single_8, ES1, a1, a2]
theorem sg_9 (hp : pz 3 px py) (hc : pz 65 cx cy) : q__law_single_9 (ES1 px py tx ty qx qy x4 x5 x6 x7 x8 (.val (ptD (px - cx) (py - cy))) x10 x11 x12 x13 x14 x15 x16 x17 x18 x19 x20) s = .ok (.nx (ES1 px py tx ty qx qy x4 x5 x6 x7 x8 (.val (ptD (px - cx) (py - cy))) x10 (.val (qD ((px - cx) * (px - cx) + (py - cy) * (py - cy)))) x12 x13 x14 x15 x16 x17 x18 x19 x20)) s := by
  have z := hp.sub hc
  have a1 := f__law_dot_ok z.1 z.2 z.1 z.2 (by decide) s
  simp [q__law_single_9, ES1, a1]
end
end L2.Mir.W

set_option Elab.async false
set_option linter.all false
set_option maxRecDepth 100000
set_option maxHeartbeats 1000000
namespace L2.Mir.W
open PySem PySem.Spec PyProof.Rows
theorem ok_arc (px py tx ty qx qy : Rat) : okD 60 (arcD px py tx ty qx qy) = true := by simp [arcD]
section
variable {px py tx ty qx qy cx cy : Rat} {s : DS}
variable {x4 x5 x6 x7 x8 x9 x10 x11 x12 x13 x14 x15 x16 x17 x18 x19 x20 : Sl}

theorem sg_10 (hp : pz 3 px py) (ht : pz 5 tx ty) (hq : pz 3 qx qy) (tu : tx * tx + ty * ty = 1) (h0 : (DV px py qx qy) ≠ 0) (hX : (XV px py tx ty qx qy) ≠ 0) : q__law_single_10 (ES1 px py tx ty qx qy x4 x5 x6 (.val (ptD (aX px py tx ty qx qy) (aY px py tx ty qx qy))) x8 (.val (ptD (px - (cX px py tx ty qx qy)) (py - (cY px py tx ty qx qy)))) (.val (ptD (qx - (cX px py tx ty qx qy)) (qy - (cY px py tx ty qx qy)))) (.val (qD (RV px py tx ty qx qy))) x12 x13 x14 x15 x16 x17 x18 x19 x20) s = .ok (.nx (ES1 px py tx ty qx qy x4 x5 x6 (.val (ptD (aX px py tx ty qx qy) (aY px py tx ty qx qy))) x8 (.val (ptD (px - (cX px py tx ty qx qy)) (py - (cY px py tx ty qx qy)))) (.val (ptD (qx - (cX px py tx ty qx qy)) (qy - (cY px py tx ty qx qy)))) (.val (qD (RV px py tx ty qx qy))) x12 x13 x14 x15 x16 x17 x18 x19 x20)) s := by
  have hc := c_sz hp ht hq hX
  have za := a_sz hp ht hq h0
  have z1 := hp.sub hc
  have z2 := hq.sub hc
  have a1 := f__law_dot_ok z2.1 z2.2 z2.1 z2.2 (by decide) s
  rw [c_other hX] at a1
  have a2 := f__law_dot_ok z1.1 z1.2 ht.1 ht.2 (by decide) s
  rw [c_orth1] at a2
  have a3 := f__law_dot_ok z2.1 z2.2 za.1 za.2 (by decide) s
  rw [c_orth2 hX h0] at a3
  simp [q__law_single_10, ES1, qD_0, a1, a2, a3]

theorem sg_11 (hp : pz 3 px py) (ht : pz 5 tx ty) (hq : pz 3 qx qy) (tu : tx * tx + ty * ty = 1) (h0 : (DV px py qx qy) ≠ 0) (hX : (XV px py tx ty qx qy) ≠ 0) : q__law_single_11 (ES1 px py tx ty qx qy x4 x5 x6 x7 x8 x9 x10 (.val (qD (RV px py tx ty qx qy))) x12 x13 x14 x15 x16 x17 x18 x19 x20) s = .ok (.nx (ES1 px py tx ty qx qy x4 x5 x6 x7 x8 x9 x10 (.val (qD (RV px py tx ty qx qy))) x12 x13 x14 x15 x16 x17 x18 x19 x20)) s := by
  have a1 := bend_ok hp ht hq (by decide) h0 s
  have zb := szDiv (sz_2.mul (X_sz hp ht hq)) (D_sz hp hq) h0
  have a2 := f__law_mul_ok zb zb (by decide) s
  have a3 := f__law_mul_ok (zb.mul zb) (r_sz hp (c_sz hp ht hq hX)) (by decide) s
  rw [c_bend tu hX h0] at a3
  simp [q__law_single_11, ES1, a1, a2, a3, qD_1]

theorem sg_12 (hp : pz 3 px py) (ht : pz 5 tx ty) (hq : pz 3 qx qy) (tu : tx * tx + ty * ty = 1) (h0 : (DV px py qx qy) ≠ 0) (hX : (XV px py tx ty qx qy) ≠ 0) : q__law_single_12 (ES1 px py tx ty qx qy x4 x5 x6 x7 (.val (ptD (cX px py tx ty qx qy) (cY px py tx ty qx qy))) x9 x10 x11 x12 x13 x14 x15 x16 x17 x18 x19 x20) s = .ok (.nx (ES1 px py tx ty qx qy x4 x5 x6 x7 (.val (ptD (cX px py tx ty qx qy) (cY px py tx ty qx qy))) x9 x10 x11 (.val (ptD ((cX px py tx ty qx qy) + 1 * ((cX px py tx ty qx qy) - px)) ((cY px py tx ty qx qy) + 1 * ((cY px py tx ty qx qy) - py)))) x13 x14 x15 x16 x17 x18 x19 x20)) s := by
  have hc := c_sz hp ht hq hX
  have z := hc.sub hp
  have a1 := f__law_minus_ok hc.1 hc.2 hp.1 hp.2 (by decide) s
  have a2 := f__law_put_ok hc.1 hc.2 z.1 z.2 sz_1 (by decide) s
  generalize cX px py tx ty qx qy = mx at *
  generalize cY px py tx ty qx qy = my at *
  generalize mx + 1 * (mx - px) = ax at *
  generalize my + 1 * (my - py) = ay at *
  simp [q__law_single_12, ES1, a1, a2, qD_1]

theorem sg_13 (hp : pz 3 px py) (ht : pz 5 tx ty) (hq : pz 3 qx qy) (tu : tx * tx + ty * ty = 1) (h0 : (DV px py qx qy) ≠ 0) (hX : (XV px py tx ty qx qy) ≠ 0) : q__law_single_13 (ES1 px py tx ty qx qy x4 x5 x6 x7 (.val (ptD (cX px py tx ty qx qy) (cY px py tx ty qx qy))) x9 x10 (.val (qD (RV px py tx ty qx qy))) (.val (ptD ((cX px py tx ty qx qy) + 1 * ((cX px py tx ty qx qy) - px)) ((cY px py tx ty qx qy) + 1 * ((cY px py tx ty qx qy) - py)))) x13 x14 x15 x16 x17 x18 x19 x20) s = .ok (.nx (ES1 px py tx ty qx qy x4 x5 x6 x7 (.val (ptD (cX px py tx ty qx qy) (cY px py tx ty qx qy))) x9 x10 (.val (qD (RV px py tx ty qx qy))) (.val (ptD ((cX px py tx ty qx qy) + 1 * ((cX px py tx ty qx qy) - px)) ((cY px py tx ty qx qy) + 1 * ((cY px py tx ty qx qy) - py)))) x13 x14 x15 x16 x17 x18 x19 x20)) s := by
  have hc := c_sz hp ht hq hX
  have za := (hc.put (hc.sub hp) sz_1)
  have hR : (RV px py tx ty qx qy) = 0 → False := fun z => by
    have := c_bend tu hX h0
    rw [z] at this
    grind
  have hRe : (px - (cX px py tx ty qx qy)) * (px - (cX px py tx ty qx qy)) + (py - (cY px py tx ty qx qy)) * (py - (cY px py tx ty qx qy)) = (RV px py tx ty qx qy) := rfl
  have hO := c_other (px := px) (py := py) (tx := tx) (ty := ty) (qx := qx) (qy := qy) hX
  have hpq : ¬ (px = qx ∧ py = qy) := fun z => h0 (by unfold DV; rw [z.1, z.2]; grind)
  generalize (cX px py tx ty qx qy) = mx at *
  generalize (cY px py tx ty qx qy) = my at *
  generalize (RV px py tx ty qx qy) = r at *
  have c1 : (mx + 1 * (mx - px) - mx) * (mx + 1 * (mx - px) - mx) + (my + 1 * (my - py) - my) * (my + 1 * (my - py) - my) = r := by rw [← hRe]; grind
  have c2 : ¬ (px = mx + 1 * (mx - px) ∧ py = my + 1 * (my - py)) := by
    rintro ⟨z1, z2⟩
    have e1 : px - mx = 0 := by grind
    have e2 : py - my = 0 := by grind
    exact hR (by rw [← hRe, e1, e2]; grind)
  generalize mx + 1 * (mx - px) = ax at *
  generalize my + 1 * (my - py) = ay at *
  by_cases h : ax = qx ∧ ay = qy
  · have a1 := f_circle_non (hp.mono (by decide : 3 ≤ 140)) (hq.mono (by decide : 3 ≤ 140)) (za.mono (by decide : _ ≤ 140)) (by decide) (by rw [h.1, h.2]; grind) s
    have e : deq (ptD ax ay) (ptD qx qy) = true := by rw [deq_p]; simpa using h
    simp [q__law_single_13, ES1, a1, e, -deq_p]
  · have e : deq (ptD ax ay) (ptD qx qy) = false := by rw [deq_p]; simpa using fun x y => h ⟨x, y⟩
    obtain ⟨k0, k1, k2⟩ := circ3 (ax := px) (ay := py) (bx := qx) (by' := qy) (cx := ax) (cy := ay) (mx := mx) (my := my) (r := r) hpq c2 (fun z => h ⟨z.1.symm, z.2.symm⟩) hRe hO c1
    have a1 := f_circle_ok (hp.mono (by decide : 3 ≤ 140)) (hq.mono (by decide : 3 ≤ 140)) (za.mono (by decide : _ ≤ 140)) (by decide) k0 k1 k2 (hc.sub hp) (by decide) s
    have e1 : px + (mx - px) = mx := by grind
    have e2 : py + (my - py) = my := by grind
    have e3 : (mx - px) * (mx - px) + (my - py) * (my - py) = r := by rw [← hRe]; grind
    rw [e1, e2, e3] at a1
    have e8 : deq (ptD mx my) (ptD mx my) = true := by simp
    simp [q__law_single_13, ES1, a1, e, e8, -deq_p]

variable {sx sy wx wy wh : Rat} {s' : DS}

theorem sg_14 (hd : f__law_spot [.st] s = .ok (ptD sx sy) s') : q__law_single_14 (ES1 px py tx ty qx qy x4 x5 x6 x7 x8 x9 x10 x11 x12 x13 x14 x15 x16 x17 x18 x19 x20) s = .ok (.nx (ES1 px py tx ty qx qy x4 x5 x6 x7 x8 x9 x10 x11 x12 (.val (arcD px py tx ty qx qy)) (.val (ptD sx sy)) x15 x16 x17 x18 x19 x20)) s' := by
  simp [q__law_single_14, ES1, hd]
  rfl

theorem sg_15 (hp : pz 3 px py) (ht : pz 5 tx ty) (hq : pz 3 qx qy) (tu : tx * tx + ty * ty = 1) (h0 : (DV px py qx qy) ≠ 0) (hX : (XV px py tx ty qx qy) ≠ 0) (hs : pz 3 sx sy) : q__law_single_15 (ES1 px py tx ty qx qy x4 x5 x6 x7 (.val (ptD (cX px py tx ty qx qy) (cY px py tx ty qx qy))) x9 x10 x11 x12 x13 (.val (ptD sx sy)) x15 x16 x17 x18 x19 x20) s = .ok (.nx (ES1 px py tx ty qx qy x4 x5 x6 x7 (.val (ptD (cX px py tx ty qx qy) (cY px py tx ty qx qy))) x9 x10 x11 x12 x13 (.val (ptD sx sy)) (.val (ptD (sx - (cX px py tx ty qx qy)) (sy - (cY px py tx ty qx qy)))) x16 x17 x18 x19 x20)) s := by
  have hc := c_sz hp ht hq hX
  have a1 := f__law_minus_ok hs.1 hs.2 hc.1 hc.2 (by decide) s
  simp [q__law_single_15, ES1, a1]

theorem sg_16 (hp : pz 3 px py) (ht : pz 5 tx ty) (hq : pz 3 qx qy) (tu : tx * tx + ty * ty = 1) (h0 : (DV px py qx qy) ≠ 0) (hX : (XV px py tx ty qx qy) ≠ 0) (hs : pz 3 sx sy) : q__law_single_16 (ES1 px py tx ty qx qy x4 x5 x6 x7 x8 x9 x10 (.val (qD (RV px py tx ty qx qy))) x12 (.val (arcD px py tx ty qx qy)) (.val (ptD sx sy)) (.val (ptD (sx - (cX px py tx ty qx qy)) (sy - (cY px py tx ty qx qy)))) x16 x17 x18 x19 x20) s = .ok (.nx (ES1 px py tx ty qx qy x4 x5 x6 x7 x8 x9 x10 (.val (qD (RV px py tx ty qx qy))) x12 (.val (arcD px py tx ty qx qy)) (.val (ptD sx sy)) (.val (ptD (sx - (cX px py tx ty qx qy)) (sy - (cY px py tx ty qx qy)))) x16 x17 x18 x19 x20)) s := by
  have hc := c_sz hp ht hq hX
  have z := hs.sub hc
  have a1 := f__law_dot_ok z.1 z.2 z.1 z.2 (by decide) s
  have b0 := is_on_ok hp ht hq hs (by decide) hX hc (by decide) (by decide) s
  have b1 := is_on_ok hp ht hq hp (by decide) hX hc (by decide) (by decide) s
  have b2 := is_on_ok hp ht hq hq (by decide) hX hc (by decide) (by decide) s
  rw [c_other hX] at b2
  have hRe : (px - (cX px py tx ty qx qy)) * (px - (cX px py tx ty qx qy)) + (py - (cY px py tx ty qx qy)) * (py - (cY px py tx ty qx qy)) = (RV px py tx ty qx qy) := rfl
  rw [hRe] at b0 b1 b2
  rw [decide_eq_true rfl] at b1 b2
  have e : decide ((RV px py tx ty qx qy) = (sx - (cX px py tx ty qx qy)) * (sx - (cX px py tx ty qx qy)) + (sy - (cY px py tx ty qx qy)) * (sy - (cY px py tx ty qx qy))) = decide ((sx - (cX px py tx ty qx qy)) * (sx - (cX px py tx ty qx qy)) + (sy - (cY px py tx ty qx qy)) * (sy - (cY px py tx ty qx qy)) = (RV px py tx ty qx qy)) := decide_eq_decide.mpr eq_comm
  rw [e] at b0
  simp [q__law_single_16, ES1, a1, b0, b1, b2]

theorem sg_17 (hp : pz 3 px py) (ht : pz 5 tx ty) (hq : pz 3 qx qy) (tu : tx * tx + ty * ty = 1) (h0 : (DV px py qx qy) ≠ 0) (hX : (XV px py tx ty qx qy) ≠ 0) : q__law_single_17 (ES1 px py tx ty qx qy x4 x5 x6 x7 x8 x9 x10 x11 x12 (.val (arcD px py tx ty qx qy)) x14 x15 x16 x17 x18 x19 x20) s = .ok (.nx (ES1 px py tx ty qx qy x4 x5 x6 x7 x8 x9 x10 x11 x12 (.val (arcD px py tx ty qx qy)) x14 x15 (.val (arcD qx qy (-(aX px py tx ty qx qy)) (-(aY px py tx ty qx qy)) px py)) x17 x18 x19 x20)) s := by
  have a1 := turned_back_ok hp ht hq (by decide) h0 (a_sz hp ht hq h0) (by decide) s
  simp [q__law_single_17, ES1, a1]

theorem sg_18 (hp : pz 3 px py) (ht : pz 5 tx ty) (hq : pz 3 qx qy) (tu : tx * tx + ty * ty = 1) (h0 : (DV px py qx qy) ≠ 0) (hX : (XV px py tx ty qx qy) ≠ 0) : q__law_single_18 (ES1 px py tx ty qx qy x4 x5 x6 (.val (ptD (aX px py tx ty qx qy) (aY px py tx ty qx qy))) x8 x9 x10 x11 x12 (.val (arcD px py tx ty qx qy)) x14 x15 (.val (arcD qx qy (-(aX px py tx ty qx qy)) (-(aY px py tx ty qx qy)) px py)) x17 x18 x19 x20) s = .ok (.nx (ES1 px py tx ty qx qy x4 x5 x6 (.val (ptD (aX px py tx ty qx qy) (aY px py tx ty qx qy))) x8 x9 x10 x11 x12 (.val (arcD px py tx ty qx qy)) x14 x15 (.val (arcD qx qy (-(aX px py tx ty qx qy)) (-(aY px py tx ty qx qy)) px py)) x17 x18 x19 x20)) s := by
  have za := a_sz hp ht hq h0
  have zn : pz 69 (-(aX px py tx ty qx qy)) (-(aY px py tx ty qx qy)) := ⟨za.1.neg, za.2.neg⟩
  have h0' : DV qx qy px py ≠ 0 := by rw [D_back (px := px) (py := py) (qx := qx) (qy := qy)]; exact h0
  have zt : pz 5 (-tx) (-ty) := ⟨ht.1.neg, ht.2.neg⟩
  have a1 := turned_back_ok hq zn hp (by decide) h0' (n := 5) (by rw [back_x h0, back_y h0]; exact zt) (by decide) s
  rw [back_x h0, back_y h0, Rat.neg_neg, Rat.neg_neg] at a1
  have a2 := bend_ok hq zn hp (by decide) h0' s
  rw [back_X h0, D_back (px := px) (py := py) (qx := qx) (qy := qy)] at a2
  have e : 2 * -(XV px py tx ty qx qy) / (DV px py qx qy) = -(2 * (XV px py tx ty qx qy) / (DV px py qx qy)) := by grind
  rw [e] at a2
  have a3 := bend_ok hp ht hq (by decide) h0 s
  have a4 := f__law_neg_ok (2 * (XV px py tx ty qx qy) / (DV px py qx qy)) s
  have a5 := f__law_neg_ok (aX px py tx ty qx qy) s
  have a6 := f__law_neg_ok (aY px py tx ty qx qy) s
  have a7 : deq (arcD qx qy (-(aX px py tx ty qx qy)) (-(aY px py tx ty qx qy)) px py) (.tup [ptD qx qy, ptD (-(aX px py tx ty qx qy)) (-(aY px py tx ty qx qy)), ptD px py]) = true := by simp [arcD]
  have a8 : deq (arcD px py tx ty qx qy) (arcD px py tx ty qx qy) = true := by simp [arcD]
  simp [q__law_single_18, ES1, a1, a2, a3, a4, a5, a6, a7, a8, ok_arc, ix_a0, ix_a1, ix_a2, ix_p0, ix_p1, pt_of, -opIx]

end
end L2.Mir.W

set_option Elab.async false
set_option linter.all false
set_option maxRecDepth 100000
set_option maxHeartbeats 1000000
namespace L2.Mir.W
open PySem PySem.Spec PyProof.Rows
section
variable {px py tx ty qx qy cx cy : Rat} {s : DS}
variable {x4 x5 x6 x7 x8 x9 x10 x11 x12 x13 x14 x15 x16 x17 x18 x19 x20 : Sl}

variable {ux uy wx wy wh : Rat} {s' : DS}

theorem sg_19 (hd : f__law_way [.st] s = .ok (.tup [qD wh, ptD wx wy]) s') : q__law_single_19 (ES1 px py tx ty qx qy x4 x5 x6 x7 x8 x9 x10 x11 x12 x13 x14 x15 x16 x17 x18 x19 x20) s = .ok (.nx (ES1 px py tx ty qx qy x4 x5 x6 x7 x8 x9 x10 x11 x12 x13 x14 x15 x16 (.val (qD wh)) (.val (ptD wx wy)) x19 x20)) s' := by
  simp [q__law_single_19, ES1, hd, run_tt, -Pat.run, -Pat.runs]

theorem sg_20 (hd : f__law_spot [.st] s = .ok (ptD ux uy) s') : q__law_single_20 (ES1 px py tx ty qx qy x4 x5 x6 x7 x8 x9 x10 x11 x12 x13 x14 x15 x16 x17 x18 x19 x20) s = .ok (.nx (ES1 px py tx ty qx qy x4 x5 x6 x7 x8 x9 x10 x11 x12 x13 x14 x15 x16 x17 x18 (.val (ptD ux uy)) x20)) s' := by
  simp [q__law_single_20, ES1, hd]

theorem sg_21 (hp : pz 3 px py) (ht : pz 5 tx ty) (hq : pz 3 qx qy) (tu : tx * tx + ty * ty = 1) (h0 : (DV px py qx qy) ≠ 0) (hX : (XV px py tx ty qx qy) ≠ 0) (hw : pz 5 wx wy) (wu : wx * wx + wy * wy = 1) (hs : pz 3 ux uy) : q__law_single_21 (ES1 px py tx ty qx qy x4 x5 x6 x7 x8 x9 x10 x11 x12 (.val (arcD px py tx ty qx qy)) x14 x15 x16 x17 (.val (ptD wx wy)) (.val (ptD ux uy)) x20) s = .ok (.nx (ES1 px py tx ty qx qy x4 x5 x6 x7 x8 x9 x10 x11 x12 (.val (arcD px py tx ty qx qy)) x14 x15 x16 x17 (.val (ptD wx wy)) (.val (ptD ux uy)) (.val (arcD (wx * px - wy * py + 1 * ux) (wy * px + wx * py + 1 * uy) (wx * tx - wy * ty) (wy * tx + wx * ty) (wx * qx - wy * qy + 1 * ux) (wy * qx + wx * qy + 1 * uy))))) s := by
  have a1 := moved_ok hp ht hq hw wu hs s
  simp only [q__law_single_21, ES1]
  simp [a1, -Rat.one_mul]

theorem sg_22 (hp : pz 3 px py) (ht : pz 5 tx ty) (hq : pz 3 qx qy) (tu : tx * tx + ty * ty = 1) (h0 : (DV px py qx qy) ≠ 0) (hX : (XV px py tx ty qx qy) ≠ 0) (hw : pz 5 wx wy) (wu : wx * wx + wy * wy = 1) (hs : pz 3 ux uy) : q__law_single_22 (ES1 px py tx ty qx qy x4 x5 x6 x7 x8 x9 x10 x11 x12 x13 x14 x15 x16 x17 (.val (ptD wx wy)) (.val (ptD ux uy)) (.val (arcD (wx * px - wy * py + 1 * ux) (wy * px + wx * py + 1 * uy) (wx * tx - wy * ty) (wy * tx + wx * ty) (wx * qx - wy * qy + 1 * ux) (wy * qx + wx * qy + 1 * uy)))) s = .ok (.nx (ES1 px py tx ty qx qy x4 x5 x6 x7 x8 x9 x10 x11 x12 x13 x14 x15 x16 x17 (.val (ptD wx wy)) (.val (ptD ux uy)) (.val (arcD (wx * px - wy * py + 1 * ux) (wy * px + wx * py + 1 * uy) (wx * tx - wy * ty) (wy * tx + wx * ty) (wx * qx - wy * qy + 1 * ux) (wy * qx + wx * qy + 1 * uy))))) s := by
  have e1 := f_rotated_ok hp.1 hp.2 hw.1 hw.2 (by decide) s
  have e2 := f_rotated_ok ht.1 ht.2 hw.1 hw.2 (by decide) s
  have e3 := f_rotated_ok hq.1 hq.2 hw.1 hw.2 (by decide) s
  have z1 : pz 17 (wx * px - wy * py) (wy * px + wx * py) := ⟨((hw.1.mul hp.1).sub (hw.2.mul hp.2)).mono (by decide), ((hw.2.mul hp.1).add (hw.1.mul hp.2)).mono (by decide)⟩
  have z3 : pz 17 (wx * qx - wy * qy) (wy * qx + wx * qy) := ⟨((hw.1.mul hq.1).sub (hw.2.mul hq.2)).mono (by decide), ((hw.2.mul hq.1).add (hw.1.mul hq.2)).mono (by decide)⟩
  have e4 := f__law_put_ok z1.1 z1.2 hs.1 hs.2 sz_1 (by decide) s
  have e5 := f__law_put_ok z3.1 z3.2 hs.1 hs.2 sz_1 (by decide) s
  generalize wx * px - wy * py + 1 * ux = f1 at *
  generalize wy * px + wx * py + 1 * uy = f2 at *
  generalize wx * qx - wy * qy + 1 * ux = f3 at *
  generalize wy * qx + wx * qy + 1 * uy = f4 at *
  generalize wx * tx - wy * ty = f5 at *
  generalize wy * tx + wx * ty = f6 at *
  have k1 := ok_arc f1 f2 f5 f6 f3 f4
  have k2 : deq (arcD f1 f2 f5 f6 f3 f4) (.tup [ptD f1 f2, ptD f5 f6, ptD f3 f4]) = true := by simp [arcD]
  simp [q__law_single_22, ES1, e1, e2, e3, e4, e5, qD_1, k1, k2]

theorem sg_23 (hp : pz 3 px py) (ht : pz 5 tx ty) (hq : pz 3 qx qy) (tu : tx * tx + ty * ty = 1) (h0 : (DV px py qx qy) ≠ 0) (hX : (XV px py tx ty qx qy) ≠ 0) (hw : pz 5 wx wy) (wu : wx * wx + wy * wy = 1) (hs : pz 3 ux uy) : q__law_single_23 (ES1 px py tx ty qx qy x4 x5 x6 x7 x8 x9 x10 x11 x12 (.val (arcD px py tx ty qx qy)) x14 x15 x16 x17 (.val (ptD wx wy)) (.val (ptD ux uy)) (.val (arcD (wx * px - wy * py + 1 * ux) (wy * px + wx * py + 1 * uy) (wx * tx - wy * ty) (wy * tx + wx * ty) (wx * qx - wy * qy + 1 * ux) (wy * qx + wx * qy + 1 * uy)))) s = .ok (.nx (ES1 px py tx ty qx qy x4 x5 x6 x7 x8 x9 x10 x11 x12 (.val (arcD px py tx ty qx qy)) x14 x15 x16 x17 (.val (ptD wx wy)) (.val (ptD ux uy)) (.val (arcD (wx * px - wy * py + 1 * ux) (wy * px + wx * py + 1 * uy) (wx * tx - wy * ty) (wy * tx + wx * ty) (wx * qx - wy * qy + 1 * ux) (wy * qx + wx * qy + 1 * uy))))) s := by
  have d1 := mv_D (px := px) (py := py) (qx := qx) (qy := qy) (sx := ux) (sy := uy) wu
  have d2 := mv_X (px := px) (py := py) (tx := tx) (ty := ty) (qx := qx) (qy := qy) (sx := ux) (sy := uy) wu
  have zf1 : pz 25 (wx * px - wy * py + 1 * ux) (wy * px + wx * py + 1 * uy) := (pz.put ⟨(hw.1.mul hp.1).sub (hw.2.mul hp.2), ((hw.2.mul hp.1).add (hw.1.mul hp.2))⟩ hs sz_1).mono (by decide)
  have zf2 : pz 25 (wx * tx - wy * ty) (wy * tx + wx * ty) := ⟨((hw.1.mul ht.1).sub (hw.2.mul ht.2)).mono (by decide), ((hw.2.mul ht.1).add (hw.1.mul ht.2)).mono (by decide)⟩
  have zf3 : pz 25 (wx * qx - wy * qy + 1 * ux) (wy * qx + wx * qy + 1 * uy) := (pz.put ⟨(hw.1.mul hq.1).sub (hw.2.mul hq.2), ((hw.2.mul hq.1).add (hw.1.mul hq.2))⟩ hs sz_1).mono (by decide)
  have w1 := word3 (x := "moved") tab_moved (moved_turn (px := px) (py := py) (tx := tx) (ty := ty) (qx := qx) (qy := qy) hs s)
  have b1 := bend_ok hp ht hq (by decide) h0 s
  generalize wx * px - wy * py + 1 * ux = f1 at *
  generalize wy * px + wx * py + 1 * uy = f2 at *
  generalize wx * qx - wy * qy + 1 * ux = f3 at *
  generalize wy * qx + wx * qy + 1 * uy = f4 at *
  generalize wx * tx - wy * ty = f5 at *
  generalize wy * tx + wx * ty = f6 at *
  have b2 := bend_ok zf1 zf2 zf3 (by decide) (by rw [d1]; exact h0) s
  rw [d1, d2] at b2
  simp [q__law_single_23, ES1, w1, b1, b2, ix_a0, ix_a1, ix_a2, -opIx, qD_1, pt_of, so_turn]

theorem sg_24 (hp : pz 3 px py) (ht : pz 5 tx ty) (hq : pz 3 qx qy) (tu : tx * tx + ty * ty = 1) (h0 : (DV px py qx qy) ≠ 0) (hX : (XV px py tx ty qx qy) ≠ 0) (hw : pz 5 wx wy) (wu : wx * wx + wy * wy = 1) (hs : pz 3 ux uy) : q__law_single_24 (ES1 px py tx ty qx qy x4 x5 x6 x7 (.val (ptD (cX px py tx ty qx qy) (cY px py tx ty qx qy))) x9 x10 x11 x12 x13 x14 x15 x16 x17 (.val (ptD wx wy)) (.val (ptD ux uy)) (.val (arcD (wx * px - wy * py + 1 * ux) (wy * px + wx * py + 1 * uy) (wx * tx - wy * ty) (wy * tx + wx * ty) (wx * qx - wy * qy + 1 * ux) (wy * qx + wx * qy + 1 * uy)))) s = .ok (.rt (.bl true)) s := by
  have d1 := mv_D (px := px) (py := py) (qx := qx) (qy := qy) (sx := ux) (sy := uy) wu
  have d2 := mv_X (px := px) (py := py) (tx := tx) (ty := ty) (qx := qx) (qy := qy) (sx := ux) (sy := uy) wu
  have zf1 : pz 25 (wx * px - wy * py + 1 * ux) (wy * px + wx * py + 1 * uy) := (pz.put ⟨(hw.1.mul hp.1).sub (hw.2.mul hp.2), ((hw.2.mul hp.1).add (hw.1.mul hp.2))⟩ hs sz_1).mono (by decide)
  have zf2 : pz 25 (wx * tx - wy * ty) (wy * tx + wx * ty) := ⟨((hw.1.mul ht.1).sub (hw.2.mul ht.2)).mono (by decide), ((hw.2.mul ht.1).add (hw.1.mul ht.2)).mono (by decide)⟩
  have zf3 : pz 25 (wx * qx - wy * qy + 1 * ux) (wy * qx + wx * qy + 1 * uy) := (pz.put ⟨(hw.1.mul hq.1).sub (hw.2.mul hq.2), ((hw.2.mul hq.1).add (hw.1.mul hq.2))⟩ hs sz_1).mono (by decide)
  have m1 := mv_cx (px := px) (py := py) (tx := tx) (ty := ty) (qx := qx) (qy := qy) (sx := ux) (sy := uy) wu
  have m2 := mv_cy (px := px) (py := py) (tx := tx) (ty := ty) (qx := qx) (qy := qy) (sx := ux) (sy := uy) wu
  have hc := c_sz hp ht hq hX
  have e1 := f_rotated_ok hc.1 hc.2 hw.1 hw.2 (by decide) s
  have z1 : pz 150 (wx * (cX px py tx ty qx qy) - wy * (cY px py tx ty qx qy)) (wy * (cX px py tx ty qx qy) + wx * (cY px py tx ty qx qy)) := ⟨((hw.1.mul hc.1).sub (hw.2.mul hc.2)).mono (by decide), ((hw.2.mul hc.1).add (hw.1.mul hc.2)).mono (by decide)⟩
  have e4 := f__law_put_ok z1.1 z1.2 hs.1 hs.2 sz_1 (by decide) s
  generalize wx * px - wy * py + 1 * ux = f1 at *
  generalize wy * px + wx * py + 1 * uy = f2 at *
  generalize wx * qx - wy * qy + 1 * ux = f3 at *
  generalize wy * qx + wx * qy + 1 * uy = f4 at *
  generalize wx * tx - wy * ty = f5 at *
  generalize wy * tx + wx * ty = f6 at *
  have b2 := middle_ok zf1 zf2 zf3 (by decide) (by rw [d2]; exact hX) s
  rw [m1, m2] at b2
  generalize wx * (cX px py tx ty qx qy) - wy * (cY px py tx ty qx qy) + 1 * ux = g1 at *
  generalize wy * (cX px py tx ty qx qy) + wx * (cY px py tx ty qx qy) + 1 * uy = g2 at *
  simp [q__law_single_24, ES1, e1, e4, b2, ix_a0, ix_a1, ix_a2, -opIx, qD_1]

end
end L2.Mir.W

set_option Elab.async false
set_option linter.all false
set_option maxRecDepth 100000
set_option maxHeartbeats 1000000
namespace L2.Mir.W
open PySem PySem.Spec PyProof.Rows
section
variable {px py tx ty qx qy : Rat} {s : DS}
theorem law_single_ok (h : StateOk s) (hp : pz 3 px py) (ht : pz 5 tx ty) (hq : pz 3 qx qy) (tu : tx * tx + ty * ty = 1) : ∃ s', f__law_single [.st, ptD tx ty, ptD px py, ptD qx qy] s = .ok (.bl true) s' ∧ StateOk s' := by
  have eS : startE 21 [.st, ptD tx ty, ptD px py, ptD qx qy] = ES1 px py tx ty qx qy .no .no .no .no .no .no .no .no .no .no .no .no .no .no .no .no .no := rfl
  by_cases hg : qx - px = 0 ∧ qy - py = 0
  · refine ⟨s, runDef_rt ?_, h⟩
    rw [eS]
    unfold m__law_single
    rw [sSeq_nx (sg_1 hp hq), sSeq_rt (sg_2z hp ht hq hg)]
  · have h0 : DV px py qx qy ≠ 0 := fun z => hg (sq2_zero z)
    by_cases hX : XV px py tx ty qx qy = 0
    · refine ⟨s, runDef_rt ?_, h⟩
      rw [eS]
      unfold m__law_single
      rw [sSeq_nx (sg_1 hp hq), sSeq_nx (sg_2 hg), sSeq_nx (sg_3 hp ht hq), sSeq_nx (sg_4 hp ht hq h0), sSeq_nx (sg_5 hp ht hq tu h0), sSeq_nx (sg_6 hp ht hq h0), sSeq_rt (sg_7z hp ht hq tu h0 hX)]
    · have eo : optC px py tx ty qx qy = ptD (cX px py tx ty qx qy) (cY px py tx ty qx qy) := if_neg hX
      have hc := c_sz hp ht hq hX
      obtain ⟨sx, sy, s1, d1, h1, hsx, hsy⟩ := f__law_spot_ok h
      obtain ⟨wh, wx, wy, s2, d2, h2, _, hwx, hwy, wu⟩ := f__law_way_ok h1
      obtain ⟨ux, uy, s3, d3, h3, hux, huy⟩ := f__law_spot_ok h2
      have g4 := sg_4 (x4 := .val (ptD (qx - px) (qy - py))) (x5 := .val (qD (DV px py qx qy))) (x6 := .val (qD (XV px py tx ty qx qy))) (x9 := .no) (x10 := .no) (x11 := .no) (x12 := .no) (x13 := .no) (x14 := .no) (x15 := .no) (x16 := .no) (x17 := .no) (x18 := .no) (x19 := .no) (x20 := .no) (s := s) (x7 := .no) (x8 := .no) hp ht hq h0
      rw [eo] at g4
      have hs : pz 3 sx sy := ⟨hsx, hsy⟩
      have hw : pz 5 wx wy := ⟨hwx, hwy⟩
      have hu : pz 3 ux uy := ⟨hux, huy⟩
      refine ⟨s3, runDef_rt ?_, h3⟩
      rw [eS]
      unfold m__law_single
      rw [sSeq_nx (sg_1 hp hq), sSeq_nx (sg_2 hg), sSeq_nx (sg_3 hp ht hq), sSeq_nx g4, sSeq_nx (sg_5 hp ht hq tu h0), sSeq_nx (sg_6 hp ht hq h0), sSeq_nx (sg_7 hX), sSeq_nx (sg_8 hp hq hc), sSeq_nx (sg_9 hp hc), show (px - cX px py tx ty qx qy) * (px - cX px py tx ty qx qy) + (py - cY px py tx ty qx qy) * (py - cY px py tx ty qx qy) = RV px py tx ty qx qy from rfl]
      rw [sSeq_nx (sg_10 hp ht hq tu h0 hX), sSeq_nx (sg_11 hp ht hq tu h0 hX), sSeq_nx (sg_12 hp ht hq tu h0 hX), sSeq_nx (sg_13 hp ht hq tu h0 hX), sSeq_nx (sg_14 d1), sSeq_nx (sg_15 hp ht hq tu h0 hX hs), sSeq_nx (sg_16 hp ht hq tu h0 hX hs), sSeq_nx (sg_17 hp ht hq tu h0 hX), sSeq_nx (sg_18 hp ht hq tu h0 hX)]
      rw [sSeq_nx (sg_19 d2), sSeq_nx (sg_20 d3), sSeq_nx (sg_21 hp ht hq tu h0 hX hw wu hu), sSeq_nx (sg_22 hp ht hq tu h0 hX hw wu hu), sSeq_nx (sg_23 hp ht hq tu h0 hX hw wu hu), sg_24 hp ht hq tu h0 hX hw wu hu]
end
end L2.Mir.W

set_option Elab.async false
set_option linter.all false
set_option maxRecDepth 100000
set_option maxHeartbeats 1000000
namespace L2.Mir.W
open PySem PySem.Spec PyProof.Rows
section
variable {s : DS}
def oneD : D := .tup [.int 1, .int 1]
theorem bp_1 : f_is_part [oneD] s = .ok (.bl true) s := isPart_q 1 s
theorem bp_2 : f_is_part [.int 1] s = .ok (.bl false) s := by simp [f_is_part, m_is_part]
theorem bp_3 : f_is_part [.tup [.int 2, .int 2]] s = .ok (.bl false) s := by rw [isPart_ii]; rfl
theorem bs_1 : f_is_spot [.non] s = .ok (.bl false) s := by simp [f_is_spot, m_is_spot]
theorem bs_2 : f_is_spot [.tup [oneD]] s = .ok (.bl false) s := by simp [f_is_spot, m_is_spot]
theorem bs_3 : f_is_spot [.lst [oneD, oneD]] s = .ok (.bl false) s := by simp [f_is_spot, m_is_spot]
theorem bs_4 : f_is_spot [.tup [oneD, .int 1]] s = .ok (.bl false) s := by simp [f_is_spot, m_is_spot, bp_1, bp_2, lcGo, lcF]
theorem bs_5 : f_is_spot [.tup [oneD, .tup [.int 2, .int 2]]] s = .ok (.bl false) s := by simp [f_is_spot, m_is_spot, bp_1, bp_3, lcGo, lcF]
theorem way_of_spot {d : D} (h : f_is_spot [d] s = .ok (.bl false) s) : f_is_way [d] s = .ok (.bl false) s := by simp [f_is_way, m_is_way, h]
theorem bw_6 : f_is_way [.tup [oneD, oneD]] s = .ok (.bl false) s := by
  have := isWay_p (x := 1) (y := 1) (i := 1) sz_1 sz_1 (by decide) s
  have e : ¬ ((1 : Rat) * 1 + 1 * 1 = 1) := by decide +kernel
  rw [decide_eq_false e] at this
  exact this
theorem bw_7 : f_is_way [.tup [.tup [.int 0, .int 1], .tup [.int 0, .int 1]]] s = .ok (.bl false) s := by
  have := isWay_p (x := 0) (y := 0) (i := 1) sz_0 sz_0 (by decide) s
  have e : ¬ ((0 : Rat) * 0 + 0 * 0 = 1) := by decide +kernel
  rw [decide_eq_false e] at this
  exact this
theorem oc_1 : f_circle [ptD 0 0, ptD 1 1, ptD 2 2] s = .ok .non s :=
  f_circle_non (i := 2) ⟨sz_0.mono (by decide), sz_0.mono (by decide)⟩ ⟨sz_1.mono (by decide), sz_1.mono (by decide)⟩ ⟨sz_2, sz_2⟩ (by decide) (by decide +kernel) s
theorem oc_2 : f_circle [ptD 1 0, ptD 0 1, ptD (-1) 0] s = .ok (.tup [ptD 0 0, .tup [.int 1, .int 1]]) s := by
  have := f_circle_ok (ax := 1) (ay := 0) (bx := 0) (by' := 1) (cx := -1) (cy := 0) (i := 2) (x := -1) (y := 0) (n := 1) ⟨sz_1.mono (by decide), sz_0.mono (by decide)⟩ ⟨sz_0.mono (by decide), sz_1.mono (by decide)⟩ ⟨sz_m1.mono (by decide), sz_0.mono (by decide)⟩ (by decide) (by decide +kernel) (by decide +kernel) (by decide +kernel) ⟨sz_m1, sz_0⟩ (by decide) s
  have e1 : (1 : Rat) + -1 = 0 := by decide +kernel
  have e2 : (0 : Rat) + 0 = 0 := by decide +kernel
  have e3 : (-1 : Rat) * -1 + 0 * 0 = 1 := by decide +kernel
  rw [e1, e2, e3] at this
  exact this
theorem pt_00 : D.tup [.tup [.int 0, .int 1], .tup [.int 0, .int 1]] = ptD 0 0 := rfl
theorem pt_11 : D.tup [.tup [.int 1, .int 1], .tup [.int 1, .int 1]] = ptD 1 1 := rfl
theorem pt_22 : D.tup [.tup [.int 2, .int 1], .tup [.int 2, .int 1]] = ptD 2 2 := rfl
theorem pt_10 : D.tup [.tup [.int 1, .int 1], .tup [.int 0, .int 1]] = ptD 1 0 := rfl
theorem pt_01 : D.tup [.tup [.int 0, .int 1], .tup [.int 1, .int 1]] = ptD 0 1 := rfl
theorem pt_m0 : D.tup [.tup [.int (-1), .int 1], .tup [.int 0, .int 1]] = ptD (-1) 0 := rfl
theorem law_odd_ok : f__law_odd [] s = .ok (.bl true) s := by
  apply runDef_rt
  unfold m__law_odd
  have e0 : startE 3 [] = [.no, .no, .no] := rfl
  rw [e0]
  refine (sSeq_nx (env' := [.val oneD, .no, .no]) (s' := s) (by simp [oneD])).trans ?_
  refine (sSeq_nx (env' := [.val oneD, .val (.lst [.non, .tup [oneD], .lst [oneD, oneD], .tup [oneD, .int 1], .tup [oneD, .tup [.int 2, .int 2]]]), .no]) (s' := s) (by simp)).trans ?_
  refine (sSeq_nx (env' := [.val oneD, .val (.lst [.non, .tup [oneD], .lst [oneD, oneD], .tup [oneD, .int 1], .tup [oneD, .tup [.int 2, .int 2]]]), .no]) (s' := s) ?_).trans ?_
  · simp [bs_1, bs_2, bs_3, bs_4, bs_5, way_of_spot bs_1, way_of_spot bs_2, way_of_spot bs_3, way_of_spot bs_4, way_of_spot bs_5, bw_6, bw_7, lcGo, lcF]
  · simp [pt_00, pt_11, pt_22, pt_10, pt_01, pt_m0, oc_1, oc_2]
abbrev EL (x0 x2 x3 x4 x5 x6 x7 x8 : Sl) : SE := [x0, .val .st, x2, x3, x4, x5, x6, x7, x8]
noncomputable def bd_l : MS := (sSeq (sAsg false (.t [(.n 3), (.n 4)]) (mCall f__law_way (mCons (mVar 1) mNil))) (sSeq (sAsg false (.t [(.n 5), (.n 6)]) (mCall f__law_way (mCons (mVar 1) mNil))) (sSeq (sPar false 7 8 (mCons (mCall f__law_spot (mCons (mVar 1) mNil)) (mCons (mCall f__law_spot (mCons (mVar 1) mNil)) mNil))) (sIf (mOrT (mNotT (mTru (mCall f__law_pairs (mCons (mVar 1) (mCons (mVar 3) (mCons (mVar 4) (mCons (mVar 7) (mCons (mVar 8) mNil)))))))) (mOrT (mNotT (mTru (mCall f__law_single (mCons (mVar 1) (mCons (mVar 4) (mCons (mVar 7) (mCons (mVar 8) mNil))))))) (mNotT (mTru (mCall f__law_two (mCons (mVar 1) (mCons (mVar 4) (mCons (mVar 6) (mCons (mVar 7) (mCons (mVar 8) mNil)))))))))) (sRet (mC (.bl false))) sNx))))
variable {x0 x2 x3 x4 x5 x6 x7 x8 : Sl}
theorem turn_ok (h : StateOk s) : ∃ y3 y4 y5 y6 y7 y8 s', bd_l (EL x0 x2 x3 x4 x5 x6 x7 x8) s = .ok (.nx (EL x0 x2 y3 y4 y5 y6 y7 y8)) s' ∧ StateOk s' := by
  obtain ⟨wh, tx, ty, s1, d1, h1, zh, ztx, zty, tu⟩ := f__law_way_ok h
  obtain ⟨vh, ux, uy, s2, d2, h2, _, zux, zuy, uu⟩ := f__law_way_ok h1
  obtain ⟨px, py, s3, d3, h3, zpx, zpy⟩ := f__law_spot_ok h2
  obtain ⟨qx, qy, s4, d4, h4, zqx, zqy⟩ := f__law_spot_ok h3
  obtain ⟨s5, d5, h5⟩ := law_pairs_ok (h := wh) (px := px) (py := py) (qx := qx) (qy := qy) (tx := tx) (ty := ty) h4 (Half.of zh) ⟨zpx, zpy⟩ ⟨zqx, zqy⟩ ⟨ztx, zty⟩ tu
  obtain ⟨s6, d6, h6⟩ := law_single_ok (px := px) (py := py) (qx := qx) (qy := qy) (tx := tx) (ty := ty) h5 ⟨zpx, zpy⟩ ⟨ztx, zty⟩ ⟨zqx, zqy⟩ tu
  obtain ⟨s7, d7, h7⟩ := law_two_ok (px := px) (py := py) (qx := qx) (qy := qy) (tx := tx) (ty := ty) (ux := ux) (uy := uy) h6 ⟨⟨zpx, zpy⟩, ⟨ztx, zty⟩, ⟨zqx, zqy⟩, ⟨zux, zuy⟩, tu, uu⟩
  refine ⟨.val (qD wh), .val (ptD tx ty), .val (qD vh), .val (ptD ux uy), .val (ptD px py), .val (ptD qx qy), s7, ?_, h7⟩
  unfold bd_l
  rw [sSeq_nx (env' := EL x0 x2 (.val (qD wh)) (.val (ptD tx ty)) x5 x6 x7 x8) (s' := s1) (by simp [d1, run_tt, -Pat.run, -Pat.runs])]
  rw [sSeq_nx (env' := EL x0 x2 (.val (qD wh)) (.val (ptD tx ty)) (.val (qD vh)) (.val (ptD ux uy)) x7 x8) (s' := s2) (by simp [d2, run_tt, -Pat.run, -Pat.runs])]
  rw [sSeq_nx (env' := EL x0 x2 (.val (qD wh)) (.val (ptD tx ty)) (.val (qD vh)) (.val (ptD ux uy)) (.val (ptD px py)) (.val (ptD qx qy))) (s' := s4) (by simp [d3, d4])]
  simp [d5, d6, d7]
end
theorem law_ok : lawOk 9 1 m_law := by
  intro ns _
  have hs := stateOk_st ns
  have e0 : (List.replicate 9 Sl.no).set 1 (.val .st) = EL .no .no .no .no .no .no .no .no := rfl
  rw [e0]
  generalize (some (0, stCells ns) : DS) = s at *
  obtain ⟨y3, y4, y5, y6, y7, y8, s1, e1, h1⟩ := turn_ok (x0 := .no) (x2 := .val (.int 0)) (x3 := .no) (x4 := .no) (x5 := .no) (x6 := .no) (x7 := .no) (x8 := .no) hs
  obtain ⟨z3, z4, z5, z6, z7, z8, s2, e2, h2⟩ := turn_ok (x0 := .no) (x2 := .val (.int 1)) (x3 := y3) (x4 := y4) (x5 := y5) (x6 := y6) (x7 := y7) (x8 := y8) h1
  obtain ⟨w3, w4, w5, w6, w7, w8, s3, e3, h3⟩ := turn_ok (x0 := .no) (x2 := .val (.int 2)) (x3 := z3) (x4 := z4) (x5 := z5) (x6 := z6) (x7 := z7) (x8 := z8) h2
  refine ⟨s3, ?_⟩
  have el : l_1 = sFor (.n 2) (mRng1 (mCons (mC (.int 3)) mNil)) bd_l := rfl
  have er : rngD 0 3 = [.int 0, .int 1, .int 2] := rfl
  have f1 : l_1 (EL .no .no .no .no .no .no .no .no) s = .ok (.nx (EL .no (.val (.int 2)) w3 w4 w5 w6 w7 w8)) s3 := by
    rw [el]
    simp [er, forGo, e1, e2, e3]
  unfold m_law
  rw [sSeq_nx f1]
  simp [l_2, law_odd_ok]
end L2.Mir.W

set_option Elab.async false
set_option linter.all false
set_option maxRecDepth 100000
set_option maxHeartbeats 4000000
open PySem PySem.W PyProof.Rows
set_option maxHeartbeats 0 in
theorem PySem.Challenge.cw_bendwright_k30_whole_two_round_arcs_holds : PySem.Challenge.rw_bendwright_k30_whole_two_round_arcs.Holds := by
  w_on; o_law; k_head; (case hw => w_witness2)
  k_fill
  refine L2.walk_of (l := PySem.Challenge.rw_bendwright_k30_whole_two_round_arcs) (n := 63) (k := 13) (x := "script") (CX := fun _ => L2.CX0) (sp := fun w => L2.Mir.spLaw _) rfl (by decide) rfl ⟨rfl, by decide, by decide⟩ (fun w h Y => PySem.W.kIn_of Y) ?F (fun _ _ a ns hl _ hS => ⟨a, ns, rfl, hS, hl, fun _ => rfl⟩) (fun _ _ _ _ _ h => h)
  case F =>
    intro w mg fa h KX G hmg
    refine' L2.Mir.W.all_mk KX G hmg ?a0 ?l0 ?c0 ?k0 ?a1 ?l1 ?c1 ?k1 ?a2 ?l2 ?c2 ?k2 ?a3 ?l3 ?c3 ?k3 ?a4 ?l4 ?c4 ?k4 ?a5 ?l5 ?c5 ?k5 ?a6 ?l6 ?c6 ?k6 ?a7 ?l7 ?c7 ?k7 ?a8 ?l8 ?c8 ?k8 ?a9 ?l9 ?c9 ?k9 ?a10 ?l10 ?c10 ?k10 ?a11 ?l11 ?c11 ?k11 ?a12 ?l12 ?c12 ?k12 ?a13 ?l13 ?c13 ?k13 ?a14 ?l14 ?c14 ?k14 ?a15 ?l15 ?c15 ?k15 ?a16 ?l16 ?c16 ?k16 ?a17 ?l17 ?c17 ?k17 ?a18 ?l18 ?c18 ?k18 ?a19 ?l19 ?c19 ?k19 ?a20 ?l20 ?c20 ?k20 ?a21 ?l21 ?c21 ?k21 ?a22 ?l22 ?c22 ?k22 ?a23 ?l23 ?c23 ?k23 ?a24 ?l24 ?c24 ?k24 ?a25 ?l25 ?c25 ?k25 ?a26 ?l26 ?c26 ?k26 ?a27 ?l27 ?c27 ?k27 ?a28 ?l28 ?c28 ?k28 ?a29 ?l29 ?c29 ?k29 ?a30 ?l30 ?c30 ?k30 ?a31 ?l31 ?c31 ?k31 ?a32 ?l32 ?c32 ?k32 ?a33 ?l33 ?c33 ?k33 ?a34 ?l34 ?c34 ?k34 ?a35 ?l35 ?c35 ?k35 ?a36 ?l36 ?c36 ?k36 ?a37 ?l37 ?c37 ?k37 ?a38 ?l38 ?c38 ?k38 ?a39 ?l39 ?c39 ?k39 ?a40 ?l40 ?c40 ?k40 ?a41 ?l41 ?c41 ?k41 ?a42 ?l42 ?c42 ?k42 ?a43 ?l43 ?c43 ?k43 ?a44 ?l44 ?c44 ?k44 ?a45 ?l45 ?c45 ?k45 ?a46 ?l46 ?c46 ?k46 ?a47 ?l47 ?c47 ?k47 ?a48 ?l48 ?c48 ?k48 ?a49 ?l49 ?c49 ?k49 ?a50 ?l50 ?c50 ?k50 ?a51 ?l51 ?c51 ?k51 ?z_abs ?z_all ?z_bool ?z_int ?z_isinstance ?z_len ?z_range ?z_tuple ?gC0 ?xLC0 ?hbC0 ?saC0 ?gaC0 ?ggC0 ?nbC0 ?a1C0 ?t1C0 ?l1C0 ?c1C0 ?lDC0 ?iFC0 ?iMC0 ?lXC0 ?spC0 ?veC0 ?meC0 ?tpC0 ?topC0 ?kCC0 ?eCC0 ?tCC0 ?hCC0 ?iCC0 ?sCC0 ?z_super L2.Mir.W.law_ok
    (case a0 => k_is); (case l0 => k_is); (case c0 => k_is); (case k0 => k_is); (case a1 => k_is); (case l1 => k_is); (case c1 => k_is); (case k1 => k_is); (case a2 => k_is); (case l2 => k_is); (case c2 => k_is); (case k2 => k_is); (case a3 => k_is); (case l3 => k_is); (case c3 => k_is); (case k3 => k_is); (case a4 => k_is); (case l4 => k_is); (case c4 => k_is); (case k4 => k_is); (case a5 => k_is); (case l5 => k_is); (case c5 => k_is); (case k5 => k_is); (case a6 => k_is); (case l6 => k_is); (case c6 => k_is); (case k6 => k_is); (case a7 => k_is); (case l7 => k_is); (case c7 => k_is); (case k7 => k_is); (case a8 => k_is); (case l8 => k_is); (case c8 => k_is); (case k8 => k_is); (case a9 => k_is); (case l9 => k_is); (case c9 => k_is); (case k9 => k_is); (case a10 => k_is); (case l10 => k_is); (case c10 => k_is); (case k10 => k_is); (case a11 => k_is); (case l11 => k_is); (case c11 => k_is); (case k11 => k_is); (case a12 => k_is); (case l12 => k_is); (case c12 => k_is); (case k12 => k_is); (case a13 => k_is); (case l13 => k_is); (case c13 => k_is); (case k13 => k_is); (case a14 => k_is); (case l14 => k_is); (case c14 => k_is); (case k14 => k_is); (case a15 => k_is); (case l15 => k_is); (case c15 => k_is); (case k15 => k_is); (case a16 => k_is); (case l16 => k_is); (case c16 => k_is); (case k16 => k_is); (case a17 => k_is); (case l17 => k_is); (case c17 => k_is); (case k17 => k_is); (case a18 => k_is); (case l18 => k_is); (case c18 => k_is); (case k18 => k_is); (case a19 => k_is); (case l19 => k_is); (case c19 => k_is); (case k19 => k_is); (case a20 => k_is); (case l20 => k_is); (case c20 => k_is); (case k20 => k_is); (case a21 => k_is); (case l21 => k_is); (case c21 => k_is); (case k21 => k_is); (case a22 => k_is); (case l22 => k_is); (case c22 => k_is); (case k22 => k_is); (case a23 => k_is); (case l23 => k_is); (case c23 => k_is); (case k23 => k_is); (case a24 => k_is); (case l24 => k_is); (case c24 => k_is); (case k24 => k_is); (case a25 => k_is); (case l25 => k_is); (case c25 => k_is); (case k25 => k_is); (case a26 => k_is); (case l26 => k_is); (case c26 => k_is); (case k26 => k_is); (case a27 => k_is); (case l27 => k_is); (case c27 => k_is); (case k27 => k_is); (case a28 => k_is); (case l28 => k_is); (case c28 => k_is); (case k28 => k_is); (case a29 => k_is); (case l29 => k_is); (case c29 => k_is); (case k29 => k_is); (case a30 => k_is); (case l30 => k_is); (case c30 => k_is); (case k30 => k_is); (case a31 => k_is); (case l31 => k_is); (case c31 => k_is); (case k31 => k_is); (case a32 => k_is); (case l32 => k_is); (case c32 => k_is); (case k32 => k_is); (case a33 => k_is); (case l33 => k_is); (case c33 => k_is); (case k33 => k_is); (case a34 => k_is); (case l34 => k_is); (case c34 => k_is); (case k34 => k_is); (case a35 => k_is); (case l35 => k_is); (case c35 => k_is); (case k35 => k_is); (case a36 => k_is); (case l36 => k_is); (case c36 => k_is); (case k36 => k_is); (case a37 => k_is); (case l37 => k_is); (case c37 => k_is); (case k37 => k_is); (case a38 => k_is); (case l38 => k_is); (case c38 => k_is); (case k38 => k_is); (case a39 => k_is); (case l39 => k_is); (case c39 => k_is); (case k39 => k_is); (case a40 => k_is); (case l40 => k_is); (case c40 => k_is); (case k40 => k_is); (case a41 => k_is); (case l41 => k_is); (case c41 => k_is); (case k41 => k_is); (case a42 => k_is); (case l42 => k_is); (case c42 => k_is); (case k42 => k_is); (case a43 => k_is); (case l43 => k_is); (case c43 => k_is); (case k43 => k_is); (case a44 => k_is); (case l44 => k_is); (case c44 => k_is); (case k44 => k_is); (case a45 => k_is); (case l45 => k_is); (case c45 => k_is); (case k45 => k_is); (case a46 => k_is); (case l46 => k_is); (case c46 => k_is); (case k46 => k_is); (case a47 => k_is); (case l47 => k_is); (case c47 => k_is); (case k47 => k_is); (case a48 => k_is); (case l48 => k_is); (case c48 => k_is); (case k48 => k_is); (case a49 => k_is); (case l49 => k_is); (case c49 => k_is); (case k49 => k_is); (case a50 => k_is); (case l50 => k_is); (case c50 => k_is); (case k50 => k_is); (case a51 => k_is); (case l51 => k_is); (case c51 => k_is); (case k51 => k_is); (case z_abs => k_is); (case z_all => k_is); (case z_bool => k_is); (case z_int => k_is); (case z_isinstance => k_is); (case z_len => k_is); (case z_range => k_is); (case z_tuple => k_is); (case gC0 => k_is); (case xLC0 => k_is); (case hbC0 => exact rfl); (case saC0 => k_is); (case gaC0 => k_is); (case ggC0 => k_is); (case nbC0 => k_is); (case a1C0 => k_is); (case t1C0 => k_is); (case l1C0 => k_is); (case c1C0 => k_is); (case lDC0 => k_is); (case iFC0 => exact rfl); (case iMC0 => first | exact rfl | decide +kernel); (case lXC0 => k_is); (case spC0 => ks_is); (case veC0 => k_is); (case meC0 => k_is); (case tpC0 => k_is); (case topC0 => first | exact rfl | decide +kernel); (case kCC0 => k_is); (case eCC0 => k_is); (case tCC0 => k_is); (case hCC0 => k_is); (case iCC0 => k_is); (case sCC0 => k_is); (case z_super => k_is)

