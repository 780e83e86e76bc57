import PyProof.Rows.All
import Wide.All
import OpenK.AllK
import Wide.FinOn
import HandS.ForMost
import HandS.ForExc
import HandS.IsInst
import HandS.Wide
import HandS.Style
import PySem.Challenge.RW_bendwright_k13_whole_parts_of_numbers
set_option Elab.async false
set_option linter.all false
set_option maxRecDepth 100000
namespace L2.Mir
open PySem PySem.Spec PyProof.Rows
noncomputable section

/-- data: what a Python value is, without addresses. `st` is the draws' state -/
inductive D where
  | non | bl (b : Bool) | int (i : Int) | str (x : Str) | tup (xs : List D) | lst (xs : List D) | st
  | dic (ks : List Key) (vs : List D) | dicT (ks : List (List Key)) (vs : List D)

/-- the draws' state: the place, the cells -/
abbrev DS := Option (Int × List Int)
/-- an exception: its kind (a number of one's own), its fields -/
structure Xc where
  kind : Nat
  args : List D
inductive Res (α : Type) where
  | ok (a : α) (s : DS) | exc (x : Xc) (s : DS) | no
abbrev M (α : Type) := DS → Res α
def Res.bind {α β : Type} (r : Res α) (f : α → DS → Res β) : Res β := match r with
  | .ok a s => f a s
  | .exc x s => .exc x s
  | .no => .no
@[simp] theorem bind_ok {α β : Type} (a : α) (s : DS) (f : α → DS → Res β) : (Res.ok a s).bind f = f a s := rfl
@[simp] theorem bind_exc {α β : Type} (x : Xc) (s : DS) (f : α → DS → Res β) : (Res.exc x s : Res α).bind f = .exc x s := rfl
@[simp] theorem bind_no {α β : Type} (f : α → DS → Res β) : (Res.no : Res α).bind f = .no := rfl

/-! ### bounds that a computation asks (kept shut: simp does not look in) -/
def LenOk (n : Nat) : Prop := n ≤ sizeLine
instance (n : Nat) : Decidable (LenOk n) := Classical.propDecidable _
@[simp] theorem LenOk.small {n : Nat} (h : n ≤ 16777216) : LenOk n := by unfold LenOk; rw [sizeLine_eq]; exact h
theorem LenOk.le {n : Nat} (h : LenOk n) : n ≤ sizeLine := h
def DivOk (j : Int) : Prop := 0 < j ∧ j.natAbs.log2 < 9000
instance (n : Int) : Decidable (DivOk n) := Classical.propDecidable _
theorem log2_lt_of_pow {n k : Nat} (h : n < 2 ^ k) (hk : 0 < k) : n.log2 < k := by
  by_cases e : n = 0
  · subst e; simpa using hk
  · exact (Nat.log2_lt e).mpr h
theorem DivOk.of {j : Int} {k : Nat} (h0 : 0 < j) (h : j.natAbs < 2 ^ k) (hk : k ≤ 9000) : DivOk j := by
  refine ⟨h0, ?_⟩
  have hk0 : 0 < k := by
    rcases Nat.eq_zero_or_pos k with e | e
    · subst e; simp at h; omega
    · exact e
  have := log2_lt_of_pow h hk0
  omega
@[simp] theorem DivOk.small {j : Int} (h0 : 0 < j) (h1 : j < 9223372036854775808) : DivOk j := DivOk.of (k := 63) h0 (by omega) (by decide)
def RngOk (j : Int) : Prop := -4611686018427387904 ≤ j ∧ j < 4611686018427387904
instance (n : Int) : Decidable (RngOk n) := Classical.propDecidable _
@[simp] theorem RngOk.small {j : Int} (h0 : -4611686018427387904 ≤ j) (h1 : j < 4611686018427387904) : RngOk j := ⟨by omega, by omega⟩
@[simp] theorem RngOk.len {n : Nat} (h : n ≤ 16777216) : RngOk (n : Int) := ⟨by omega, by omega⟩
def TakeOk (j : Int) : Prop := j < 2 ∨ j.natAbs.log2 < 9000
instance (n : Int) : Decidable (TakeOk n) := Classical.propDecidable _
theorem TakeOk.of {j : Int} {k : Nat} (h : j.natAbs < 2 ^ k) (hk : k ≤ 9000) : TakeOk j := by
  by_cases h0 : 0 < j
  · exact .inr (DivOk.of h0 h hk).2
  · exact .inl (by omega)
@[simp] theorem TakeOk.small {j : Int} (h1 : j < 9223372036854775808) : TakeOk j := by
  by_cases h0 : 0 < j
  · exact .inr (DivOk.small h0 h1).2
  · exact .inl (by omega)

/-- what is frozen, where the draws' state lies -/
structure Wd where
  F : Addr → Prop
  S : Option (Addr × Addr)
def Wd.isS (W : Wd) (a : Addr) : Prop := ∃ p, W.S = some p ∧ (a = p.1 ∨ a = p.2)

mutual
def Rep (K : PySem.W.Frag) (W : Wd) (H : Hp) : D → V → Prop
  | .non, v => v = .non
  | .bl b, v => v = .bl b
  | .int i, v => v = .int i
  | .str x, v => v = .str x
  | .tup ds, v => ∃ a vs, v = .ref a ∧ SqT K H a vs ∧ Reps K W H ds vs
  | .lst ds, v => ∃ a vs, v = .ref a ∧ H a = some (.lst vs) ∧ W.F a ∧ Reps K W H ds vs
  | .st, v => ∃ p, W.S = some p ∧ v = .ref p.1
  | .dic ks ds, v => ∃ a vs, v = .ref a ∧ H a = some (.dK (ks.zip vs)) ∧ W.F a ∧ ks.length = ds.length ∧ Reps K W H ds vs
  | .dicT ks ds, v => ∃ a vs, v = .ref a ∧ H a = some (.dT (ks.zip vs)) ∧ W.F a ∧ ks.length = ds.length ∧ Reps K W H ds vs
def Reps (K : PySem.W.Frag) (W : Wd) (H : Hp) : List D → List V → Prop
  | [], vs => vs = []
  | d :: ds, vs => ∃ v r, vs = v :: r ∧ Rep K W H d v ∧ Reps K W H ds r
end

structure Ext (W : Wd) (H : Hp) (W' : Wd) (H' : Hp) : Prop where
  keep : ∀ a o, H a = some o → ¬ W.isS a → H' a = some o
  tups : ∀ a xs, Rd H a (.tup xs) → Rd H' a (.tup xs)
  frs : ∀ a o, W.F a → H a = some o → H' a = some o
  dom : ∀ a, H' a = none → H a = none
  fsub : ∀ a, W.F a → W'.F a
  fnew : ∀ a, W'.F a → W.F a ∨ H a = none
  ssub : ∀ p, W.S = some p → W'.S = some p
  snew : ∀ p, W'.S = some p → W.S = some p ∨ (H p.1 = none ∧ H p.2 = none)

theorem Ext.refl (W : Wd) (H : Hp) : Ext W H W H :=
  ⟨fun _ _ h _ => h, fun _ _ h => h, fun _ _ _ h => h, fun _ h => h, fun _ h => h, fun _ h => .inl h, fun _ h => h, fun _ h => .inl h⟩
theorem none_of_dom {H H' : Hp} (d : ∀ a, H' a = none → H a = none) {a : Addr} {o : HO} (h : H a = some o) : ∃ u, H' a = some u := by
  cases q : H' a with
  | none => rw [d a q] at h; cases h
  | some u => exact ⟨u, rfl⟩
theorem Ext.isS {W W' : Wd} {H H' : Hp} (e : Ext W H W' H') {a : Addr} {o : HO} (h : H a = some o) (n : ¬ W.isS a) : ¬ W'.isS a := by
  rintro ⟨p, hp, ha⟩
  rcases e.snew p hp with q | ⟨q1, q2⟩
  · exact n ⟨p, q, ha⟩
  · rcases ha with rfl | rfl
    · rw [q1] at h; cases h
    · rw [q2] at h; cases h
theorem Ext.trans {W W1 W2 : Wd} {H H1 H2 : Hp} (a : Ext W H W1 H1) (b : Ext W1 H1 W2 H2) : Ext W H W2 H2 where
  keep := fun x o h n => b.keep x o (a.keep x o h n) (a.isS h n)
  tups := fun x xs h => b.tups x xs (a.tups x xs h)
  frs := fun x o f h => b.frs x o (a.fsub x f) (a.frs x o f h)
  dom := fun x h => a.dom x (b.dom x h)
  fsub := fun x h => b.fsub x (a.fsub x h)
  fnew := fun x h => by
    rcases b.fnew x h with q | q
    · exact a.fnew x q
    · exact .inr (a.dom x q)
  ssub := fun p h => b.ssub p (a.ssub p h)
  snew := fun p h => by
    rcases b.snew p h with q | ⟨q1, q2⟩
    · exact a.snew p q
    · exact .inr ⟨a.dom _ q1, a.dom _ q2⟩

theorem Ext.seqT {K : PySem.W.Frag} {W W' : Wd} {H H' : Hp} (e : Ext W H W' H') {a : Addr} {xs : List V} (h : SqT K H a xs) : SqT K H' a xs := by
  rcases h with h | h
  · exact .inl (e.tups _ _ h)
  · exact .inr h

/-- what a representation leans on -/
structure Mn (W : Wd) (H : Hp) (W' : Wd) (H' : Hp) : Prop where
  tups : ∀ a xs, Rd H a (.tup xs) → Rd H' a (.tup xs)
  frs : ∀ a o, W.F a → H a = some o → H' a = some o
  fsub : ∀ a, W.F a → W'.F a
  ssub : ∀ p, W.S = some p → W'.S = some p
theorem Ext.mn {W W' : Wd} {H H' : Hp} (e : Ext W H W' H') : Mn W H W' H' := ⟨e.tups, e.frs, e.fsub, e.ssub⟩
theorem Mn.seqT {K : PySem.W.Frag} {W W' : Wd} {H H' : Hp} (e : Mn W H W' H') {a : Addr} {xs : List V} (h : SqT K H a xs) : SqT K H' a xs := by
  rcases h with h | h
  · exact .inl (e.tups _ _ h)
  · exact .inr h
mutual
theorem Rep.mn {K : PySem.W.Frag} {W W' : Wd} {H H' : Hp} (e : Mn W H W' H') : ∀ (d : D) (v : V), Rep K W H d v → Rep K W' H' d v
  | .non, _, h => by simpa [Rep] using h
  | .bl _, _, h => by simpa [Rep] using h
  | .int _, _, h => by simpa [Rep] using h
  | .str _, _, h => by simpa [Rep] using h
  | .tup ds, _, h => by
    simp only [Rep] at h ⊢
    obtain ⟨a, vs, rfl, hs, hr⟩ := h
    exact ⟨a, vs, rfl, e.seqT hs, Reps.mn e ds vs hr⟩
  | .lst ds, _, h => by
    simp only [Rep] at h ⊢
    obtain ⟨a, vs, rfl, hs, f, hr⟩ := h
    exact ⟨a, vs, rfl, e.frs _ _ f hs, e.fsub _ f, Reps.mn e ds vs hr⟩
  | .st, _, h => by
    simp only [Rep] at h ⊢
    obtain ⟨p, hp, rfl⟩ := h
    exact ⟨p, e.ssub _ hp, rfl⟩
  | .dic ks ds, _, h => by
    simp only [Rep] at h ⊢
    obtain ⟨a, vs, rfl, hs, f, hl, hr⟩ := h
    exact ⟨a, vs, rfl, e.frs _ _ f hs, e.fsub _ f, hl, Reps.mn e ds vs hr⟩
  | .dicT ks ds, _, h => by
    simp only [Rep] at h ⊢
    obtain ⟨a, vs, rfl, hs, f, hl, hr⟩ := h
    exact ⟨a, vs, rfl, e.frs _ _ f hs, e.fsub _ f, hl, Reps.mn e ds vs hr⟩
theorem Reps.mn {K : PySem.W.Frag} {W W' : Wd} {H H' : Hp} (e : Mn W H W' H') : ∀ (ds : List D) (vs : List V), Reps K W H ds vs → Reps K W' H' ds vs
  | [], _, h => by simpa [Reps] using h
  | d :: ds, _, h => by
    simp only [Reps] at h ⊢
    obtain ⟨v, r, rfl, h1, h2⟩ := h
    exact ⟨v, r, rfl, Rep.mn e d v h1, Reps.mn e ds r h2⟩
end
theorem Rep.ext {K : PySem.W.Frag} {W W' : Wd} {H H' : Hp} (e : Ext W H W' H') (d : D) (v : V) (h : Rep K W H d v) : Rep K W' H' d v := Rep.mn e.mn d v h
theorem Reps.ext {K : PySem.W.Frag} {W W' : Wd} {H H' : Hp} (e : Ext W H W' H') (ds : List D) (vs : List V) (h : Reps K W H ds vs) : Reps K W' H' ds vs := Reps.mn e.mn ds vs h

/-- the draws' state is held -/
def WS (W : Wd) (s : DS) (H : Hp) : Prop := (∀ a, W.F a → ∃ o, H a = some o) ∧ ((W.S = none ∧ s = none) ∨ ∃ (sa ca : Addr) (i : Int) (cells : List Int), W.S = some (sa, ca) ∧ s = some (i, cells) ∧
  H sa = some (.lst [.int i, .ref ca]) ∧ H ca = some (.lst (cells.map V.int)) ∧ sa ≠ ca ∧ ¬ W.F sa ∧ ¬ W.F ca)

abbrev VE := List (Option D)
def EnvR (K : PySem.W.Frag) (W : Wd) (H : Hp) (σ : St) (env : VE) : Prop :=
  σ.length = env.length ∧ ∀ (i : Nat) (d : D), env[i]? = some (some d) → ∃ v, σ[i]? = some (some v) ∧ Rep K W H d v
theorem EnvR.ext {K : PySem.W.Frag} {W W' : Wd} {H H' : Hp} {σ : St} {env : VE} (h : EnvR K W H σ env) (e : Ext W H W' H') : EnvR K W' H' σ env :=
  ⟨h.1, fun i d q => let ⟨v, h1, h2⟩ := h.2 i d q; ⟨v, h1, h2.ext e d v⟩⟩

/-- what an exception is, by value: kind, fields (filled in where a text raises) -/
abbrev XR := PySem.W.Frag → Xc → Value → Option Addr → Hp → Prop
/-- the context's own: what stands written, the exceptions' form, the wish -/
structure Gx where
  K : PySem.W.Frag
  xr : XR
  E : XK
def Aft (G : Gx) (W : Wd) (H : Hp) (r : Res D) (Q : VK) : Prop := match r with
  | .ok d s' => ∀ W' H' v, Ext W H W' H' → WS W' s' H' → Rep G.K W' H' d v → Q v H'
  | .exc x s' => ∀ W' H' c dd, Ext W H W' H' → WS W' s' H' → G.xr G.K x c dd H' → G.E c dd H'
  | .no => False
theorem Aft.ext {G : Gx} {W W' : Wd} {H H' : Hp} {r : Res D} {Q : VK} (e : Ext W H W' H') (h : Aft G W H r Q) : Aft G W' H' r Q := by
  cases r with
  | ok d s => exact fun W2 H2 v e2 ws rp => h W2 H2 v (e.trans e2) ws rp
  | exc x s => exact fun W2 H2 c dd e2 ws rp => h W2 H2 c dd (e.trans e2) ws rp
  | no => exact h
/-- the reading by a mirror -/
def tM (G : Gx) (m : VE → M D) : TE := fun σ H Q => ∃ W env s, EnvR G.K W H σ env ∧ WS W s H ∧ Aft G W H (m env s) Q
/-- an expression and its mirror -/
abbrev EE (X : Cx) (G : Gx) (e : Expr) (m : VE → M D) : Prop := PE X e (tM G m)
theorem pe_imp {X : Cx} {e : Expr} {t t' : TE} (h : PE X e t) (i : ∀ σ H Q, t' σ H Q → t σ H Q) : PE X e t' := ⟨fun pins s σ H Q I q => h.run pins s σ H Q I (i σ H Q q)⟩
theorem pt_imp {X : Cx} {e : Expr} {t t' : TT} (h : PT X e t) (i : ∀ σ H Q, t' σ H Q → t σ H Q) : PT X e t' := ⟨fun pins s σ H Q I q => h.run pins s σ H Q I (i σ H Q q)⟩
theorem pa_imp {X : Cx} {e : List Expr} {t t' : TA} (h : PA X e t) (i : ∀ σ H Q, t' σ H Q → t σ H Q) : PA X e t' := ⟨fun pos pins s σ H Q I q => h.run pos pins s σ H Q I (i σ H Q q)⟩

/-- lists of values -/
def AftL (G : Gx) (W : Wd) (H : Hp) (r : Res (List D)) (Q : List V → Hp → Prop) : Prop := match r with
  | .ok ds s' => ∀ W' H' vs, Ext W H W' H' → WS W' s' H' → Reps G.K W' H' ds vs → Q vs H'
  | .exc x s' => ∀ W' H' c dd, Ext W H W' H' → WS W' s' H' → G.xr G.K x c dd H' → G.E c dd H'
  | .no => False
theorem AftL.ext {G : Gx} {W W' : Wd} {H H' : Hp} {r : Res (List D)} {Q : List V → Hp → Prop} (e : Ext W H W' H') (h : AftL G W H r Q) : AftL G W' H' r Q := by
  cases r with
  | ok d s => exact fun W2 H2 v e2 ws rp => h W2 H2 v (e.trans e2) ws rp
  | exc x s => exact fun W2 H2 c dd e2 ws rp => h W2 H2 c dd (e.trans e2) ws rp
  | no => exact h
def tML (G : Gx) (m : VE → M (List D)) : TA := fun σ H Q => ∃ W env s, EnvR G.K W H σ env ∧ WS W s H ∧ AftL G W H (m env s) Q
abbrev EA (X : Cx) (G : Gx) (es : List Expr) (m : VE → M (List D)) : Prop := PA X es (tML G m)
/-- tests -/
def AftT (G : Gx) (W : Wd) (H : Hp) (r : Res Bool) (Q : Bool → Hp → Prop) : Prop := match r with
  | .ok b s' => ∀ W' H', Ext W H W' H' → WS W' s' H' → Q b H'
  | .exc x s' => ∀ W' H' c dd, Ext W H W' H' → WS W' s' H' → G.xr G.K x c dd H' → G.E c dd H'
  | .no => False
theorem AftT.ext {G : Gx} {W W' : Wd} {H H' : Hp} {r : Res Bool} {Q : Bool → Hp → Prop} (e : Ext W H W' H') (h : AftT G W H r Q) : AftT G W' H' r Q := by
  cases r with
  | ok d s => exact fun W2 H2 e2 ws => h W2 H2 (e.trans e2) ws
  | exc x s => exact fun W2 H2 c dd e2 ws rp => h W2 H2 c dd (e.trans e2) ws rp
  | no => exact h
def tMT (G : Gx) (m : VE → M Bool) : TT := fun σ H Q => ∃ W env s, EnvR G.K W H σ env ∧ WS W s H ∧ AftT G W H (m env s) Q
abbrev ET (X : Cx) (G : Gx) (e : Expr) (m : VE → M Bool) : Prop := PT X e (tMT G m)

section
variable {G : Gx} {W : Wd} {H : Hp} {σ : St} {env : VE} {s : DS}
/-- the reading of a first part, and then -/
theorem tM_bind {m : VE → M D} {f : D → DS → Res D} {Q : VK} {R : VK} (he : EnvR G.K W H σ env) (hs : WS W s H) (h : Aft G W H ((m env s).bind f) Q)
    (k : ∀ W' H' v d s', Ext W H W' H' → EnvR G.K W' H' σ env → WS W' s' H' → Rep G.K W' H' d v → m env s = .ok d s' → Aft G W' H' (f d s') Q → R v H') : tM G m σ H R := by
  refine ⟨W, env, s, he, hs, ?_⟩
  cases q : m env s with
  | ok d s' =>
    rw [q] at h
    exact fun W' H' v e ws rp => k W' H' v d s' e (he.ext e) ws rp q (Aft.ext e h)
  | exc x s' => rw [q] at h; exact h
  | no => rw [q] at h; exact h
theorem tM_bindL {m : VE → M D} {f : D → DS → Res (List D)} {Q : List V → Hp → Prop} {R : VK} (he : EnvR G.K W H σ env) (hs : WS W s H) (h : AftL G W H ((m env s).bind f) Q)
    (k : ∀ W' H' v d s', Ext W H W' H' → EnvR G.K W' H' σ env → WS W' s' H' → Rep G.K W' H' d v → m env s = .ok d s' → AftL G W' H' (f d s') Q → R v H') : tM G m σ H R := by
  refine ⟨W, env, s, he, hs, ?_⟩
  cases q : m env s with
  | ok d s' =>
    rw [q] at h
    exact fun W' H' v e ws rp => k W' H' v d s' e (he.ext e) ws rp q (AftL.ext e h)
  | exc x s' => rw [q] at h; exact h
  | no => rw [q] at h; exact h
theorem tM_bindT {m : VE → M D} {f : D → DS → Res Bool} {Q : Bool → Hp → Prop} {R : VK} (he : EnvR G.K W H σ env) (hs : WS W s H) (h : AftT G W H ((m env s).bind f) Q)
    (k : ∀ W' H' v d s', Ext W H W' H' → EnvR G.K W' H' σ env → WS W' s' H' → Rep G.K W' H' d v → m env s = .ok d s' → AftT G W' H' (f d s') Q → R v H') : tM G m σ H R := by
  refine ⟨W, env, s, he, hs, ?_⟩
  cases q : m env s with
  | ok d s' =>
    rw [q] at h
    exact fun W' H' v e ws rp => k W' H' v d s' e (he.ext e) ws rp q (AftT.ext e h)
  | exc x s' => rw [q] at h; exact h
  | no => rw [q] at h; exact h
theorem tML_bind {m : VE → M (List D)} {f : List D → DS → Res D} {Q : VK} {R : List V → Hp → Prop} (he : EnvR G.K W H σ env) (hs : WS W s H) (h : Aft G W H ((m env s).bind f) Q)
    (k : ∀ W' H' vs ds s', Ext W H W' H' → EnvR G.K W' H' σ env → WS W' s' H' → Reps G.K W' H' ds vs → m env s = .ok ds s' → Aft G W' H' (f ds s') Q → R vs H') : tML G m σ H R := by
  refine ⟨W, env, s, he, hs, ?_⟩
  cases q : m env s with
  | ok d s' =>
    rw [q] at h
    exact fun W' H' v e ws rp => k W' H' v d s' e (he.ext e) ws rp q (Aft.ext e h)
  | exc x s' => rw [q] at h; exact h
  | no => rw [q] at h; exact h
theorem tML_bindL {m : VE → M (List D)} {f : List D → DS → Res (List D)} {Q : List V → Hp → Prop} {R : List V → Hp → Prop} (he : EnvR G.K W H σ env) (hs : WS W s H) (h : AftL G W H ((m env s).bind f) Q)
    (k : ∀ W' H' vs ds s', Ext W H W' H' → EnvR G.K W' H' σ env → WS W' s' H' → Reps G.K W' H' ds vs → m env s = .ok ds s' → AftL G W' H' (f ds s') Q → R vs H') : tML G m σ H R := by
  refine ⟨W, env, s, he, hs, ?_⟩
  cases q : m env s with
  | ok d s' =>
    rw [q] at h
    exact fun W' H' v e ws rp => k W' H' v d s' e (he.ext e) ws rp q (AftL.ext e h)
  | exc x s' => rw [q] at h; exact h
  | no => rw [q] at h; exact h
theorem tMT_bind {m : VE → M Bool} {f : Bool → DS → Res D} {Q : VK} {R : Bool → Hp → Prop} (he : EnvR G.K W H σ env) (hs : WS W s H) (h : Aft G W H ((m env s).bind f) Q)
    (k : ∀ W' H' b s', Ext W H W' H' → EnvR G.K W' H' σ env → WS W' s' H' → m env s = .ok b s' → Aft G W' H' (f b s') Q → R b H') : tMT G m σ H R := by
  refine ⟨W, env, s, he, hs, ?_⟩
  cases q : m env s with
  | ok d s' =>
    rw [q] at h
    exact fun W' H' e ws => k W' H' d s' e (he.ext e) ws q (Aft.ext e h)
  | exc x s' => rw [q] at h; exact h
  | no => rw [q] at h; exact h
theorem tMT_bindT {m : VE → M Bool} {f : Bool → DS → Res Bool} {Q : Bool → Hp → Prop} {R : Bool → Hp → Prop} (he : EnvR G.K W H σ env) (hs : WS W s H) (h : AftT G W H ((m env s).bind f) Q)
    (k : ∀ W' H' b s', Ext W H W' H' → EnvR G.K W' H' σ env → WS W' s' H' → m env s = .ok b s' → AftT G W' H' (f b s') Q → R b H') : tMT G m σ H R := by
  refine ⟨W, env, s, he, hs, ?_⟩
  cases q : m env s with
  | ok d s' =>
    rw [q] at h
    exact fun W' H' e ws => k W' H' d s' e (he.ext e) ws q (AftT.ext e h)
  | exc x s' => rw [q] at h; exact h
  | no => rw [q] at h; exact h
/-- a value handed on as it is -/
theorem Aft.now {d : D} {v : V} {Q : VK} (h : Aft G W H (.ok d s) Q) (hs : WS W s H) (r : Rep G.K W H d v) : Q v H := h W H v (Ext.refl W H) hs r
end
end
end L2.Mir

set_option Elab.async false
set_option linter.all false
set_option maxRecDepth 100000
namespace L2.Mir
open PySem PySem.Spec PyProof.Rows
noncomputable section

section
variable {K : PySem.W.Frag} {W : Wd} {H : Hp} {s : DS}
theorem Reps.length : ∀ {ds : List D} {vs : List V}, Reps K W H ds vs → vs.length = ds.length
  | [], _, h => by simp only [Reps] at h; subst h; rfl
  | d :: ds, _, h => by
    simp only [Reps] at h
    obtain ⟨v, r, rfl, _, h2⟩ := h
    simp [Reps.length h2]
theorem Reps.get : ∀ {ds : List D} {vs : List V} {i : Nat} {d : D}, Reps K W H ds vs → ds[i]? = some d → ∃ v, vs[i]? = some v ∧ Rep K W H d v
  | [], _, _, _, _, e => by simp at e
  | d :: ds, _, 0, x, h, e => by
    simp only [Reps] at h
    obtain ⟨v, r, rfl, h1, _⟩ := h
    simp at e
    subst e
    exact ⟨v, rfl, h1⟩
  | d :: ds, _, i + 1, x, h, e => by
    simp only [Reps] at h
    obtain ⟨v, r, rfl, _, h2⟩ := h
    simp at e
    obtain ⟨w, e1, e2⟩ := Reps.get h2 e
    exact ⟨w, by simpa using e1, e2⟩
theorem Reps.append : ∀ {ds es : List D} {vs ws : List V}, Reps K W H ds vs → Reps K W H es ws → Reps K W H (ds ++ es) (vs ++ ws)
  | [], _, _, _, h, h2 => by simp only [Reps] at h; subst h; simpa using h2
  | d :: ds, es, _, ws, h, h2 => by
    simp only [Reps] at h
    obtain ⟨v, r, rfl, h1, h3⟩ := h
    simp only [List.cons_append, Reps]
    exact ⟨v, r ++ ws, rfl, h1, Reps.append h3 h2⟩
theorem Reps.set {x : D} {v : V} (hx : Rep K W H x v) : ∀ {ds : List D} {vs : List V} (i : Nat), Reps K W H ds vs → Reps K W H (ds.set i x) (vs.set i v)
  | [], _, _, h => by simp only [Reps] at h; subst h; simp [Reps]
  | d :: ds, _, 0, h => by
    simp only [Reps] at h
    obtain ⟨w, r, rfl, h1, h3⟩ := h
    simp only [List.set_cons_zero, Reps]
    exact ⟨v, r, rfl, hx, h3⟩
  | d :: ds, _, i + 1, h => by
    simp only [Reps] at h
    obtain ⟨w, r, rfl, h1, h3⟩ := h
    simp only [List.set_cons_succ, Reps]
    exact ⟨w, r.set i v, rfl, h1, Reps.set hx i h3⟩
theorem Reps.take : ∀ {ds : List D} {vs : List V} (n : Nat), Reps K W H ds vs → Reps K W H (ds.take n) (vs.take n)
  | _, _, 0, _ => by simp [Reps]
  | [], _, n + 1, h => by simp only [Reps] at h; subst h; simp [Reps]
  | d :: ds, _, n + 1, h => by
    simp only [Reps] at h
    obtain ⟨w, r, rfl, h1, h3⟩ := h
    simp only [List.take_succ_cons, Reps]
    exact ⟨w, _, rfl, h1, Reps.take n h3⟩
theorem Reps.drop : ∀ {ds : List D} {vs : List V} (n : Nat), Reps K W H ds vs → Reps K W H (ds.drop n) (vs.drop n)
  | _, _, 0, h => by simpa using h
  | [], _, n + 1, h => by simp only [Reps] at h; subst h; simp [Reps]
  | d :: ds, _, n + 1, h => by
    simp only [Reps] at h
    obtain ⟨w, r, rfl, h1, h3⟩ := h
    simpa using Reps.drop n h3
theorem Reps.reverse : ∀ {ds : List D} {vs : List V}, Reps K W H ds vs → Reps K W H ds.reverse vs.reverse
  | [], _, h => by simp only [Reps] at h; subst h; simp [Reps]
  | d :: ds, _, h => by
    simp only [Reps] at h
    obtain ⟨w, r, rfl, h1, h3⟩ := h
    simp only [List.reverse_cons]
    exact Reps.append (Reps.reverse h3) (by simp only [Reps]; exact ⟨w, [], rfl, h1, rfl⟩)

/-- a new object at a free place -/
def Wd.add (W : Wd) (p : Addr) : Wd := ⟨fun a => W.F a ∨ a = p, W.S⟩
theorem rd_upd {p a : Addr} {o u : HO} (n : H p = none) (h : Rd H a u) : Rd (upd H p o) a u := by
  rcases h with h | ⟨b, h⟩
  · exact .inl (by rw [upd_ne (ne_of_none h n)]; exact h)
  · exact .inr ⟨b, by rw [upd_ne (ne_of_none h n)]; exact h⟩
theorem Ext.new {p : Addr} {o : HO} (n : H p = none) : Ext W H W (upd H p o) where
  keep := fun a u h _ => by rw [upd_ne (ne_of_none h n)]; exact h
  tups := fun a xs h => rd_upd n h
  frs := fun a u _ h => by rw [upd_ne (ne_of_none h n)]; exact h
  dom := fun a h => by
    by_cases e : a = p
    · subst e; exact n
    · rwa [upd_ne e] at h
  fsub := fun _ h => h
  fnew := fun _ h => .inl h
  ssub := fun _ h => h
  snew := fun _ h => .inl h
theorem Ext.newF {p : Addr} {o : HO} (n : H p = none) : Ext W H (W.add p) (upd H p o) where
  keep := fun a u h _ => by rw [upd_ne (ne_of_none h n)]; exact h
  tups := fun a xs h => rd_upd n h
  frs := fun a u _ h => by rw [upd_ne (ne_of_none h n)]; exact h
  dom := fun a h => by
    by_cases e : a = p
    · subst e; exact n
    · rwa [upd_ne e] at h
  fsub := fun _ h => .inl h
  fnew := fun a h => by
    rcases h with h | rfl
    · exact .inl h
    · exact .inr n
  ssub := fun _ h => h
  snew := fun _ h => .inl h
theorem dom_upd {p a : Addr} {o : HO} (h : ∃ u, H a = some u) : ∃ u, upd H p o a = some u := by
  by_cases e : a = p
  · subst e; exact ⟨o, upd_same⟩
  · rw [upd_ne e]; exact h
theorem WS.new {p : Addr} {o : HO} (n : H p = none) (h : WS W s H) : WS W s (upd H p o) := by
  refine ⟨fun a f => dom_upd (h.1 a f), ?_⟩
  rcases h.2 with h | ⟨sa, ca, i, cells, h0, h00, h1, h2, h3, h4, h5⟩
  · exact .inl h
  · exact .inr ⟨sa, ca, i, cells, h0, h00, by rw [upd_ne (ne_of_none h1 n)]; exact h1, by rw [upd_ne (ne_of_none h2 n)]; exact h2, h3, h4, h5⟩
theorem WS.newF {p : Addr} {o : HO} (n : H p = none) (h : WS W s H) : WS (W.add p) s (upd H p o) := by
  refine ⟨fun a f => f.elim (fun f => dom_upd (h.1 a f)) fun e => ⟨o, by rw [e]; exact upd_same⟩, ?_⟩
  rcases h.2 with h | ⟨sa, ca, i, cells, h0, h00, h1, h2, h3, h4, h5⟩
  · exact .inl h
  · exact .inr ⟨sa, ca, i, cells, h0, h00, by rw [upd_ne (ne_of_none h1 n)]; exact h1, by rw [upd_ne (ne_of_none h2 n)]; exact h2, h3,
      fun z => z.elim h4 fun e => ne_of_none h1 n e, fun z => z.elim h5 fun e => ne_of_none h2 n e⟩
variable {G : Gx}
theorem Aft.tup {ds : List D} {vs : List V} {Q : VK} {p : Addr} (h : Aft G W H (.ok (.tup ds) s) Q) (hs : WS W s H) (r : Reps G.K W H ds vs) (n : H p = none) : Q (.ref p) (upd H p (.tup vs)) := by
  refine h W _ _ (Ext.new n) (WS.new n hs) ?_
  simp only [Rep]
  exact ⟨p, vs, rfl, .inl (.inl upd_same), Reps.ext (Ext.new n) ds vs r⟩
theorem Aft.lst {ds : List D} {vs : List V} {Q : VK} {p : Addr} (h : Aft G W H (.ok (.lst ds) s) Q) (hs : WS W s H) (r : Reps G.K W H ds vs) (n : H p = none) : Q (.ref p) (upd H p (.lst vs)) := by
  refine h (W.add p) _ _ (Ext.newF n) (WS.newF n hs) ?_
  simp only [Rep]
  exact ⟨p, vs, rfl, upd_same, .inr rfl, Reps.ext (Ext.newF n) ds vs r⟩
end

/-! ### names and constants -/
section
variable {X : Cx} {G : Gx}
@[simp] def mVar (i : Nat) : VE → M D := fun env s => match env[i]? with
  | some (some d) => .ok d s
  | _ => .no
theorem ee_var (i : Nat) {x : Str} {pos : Pos} (hN : X.N[i]? = some x := by rfl) (hv : Vis X.env.scope x := by first | exact Or.inl rfl | exact Or.inr (Or.inl rfl) | exact Or.inr (Or.inr rfl)) (hd : (x == ("__debug__" : Str)) = false := by decide)
    (hcd : (x == ("__classdict__" : Str)) = false := by decide) : EE X G (.Name x pos) (mVar i) := by
  refine pe_imp (pe_var hN hv hd hcd) fun σ H Q h => ?_
  obtain ⟨W, env, s, he, hs, h⟩ := h
  unfold mVar at h
  split at h
  · rename_i d q
    obtain ⟨v, h1, h2⟩ := he.2 i d q
    exact ⟨v, h1, h.now hs h2⟩
  · exact h.elim
@[simp] def mC (d : D) : VE → M D := fun _ s => .ok d s
theorem ee_int {i : Int} {j pos} : EE X G (.Constant (.int i) j pos) (mC (.int i)) := pe_imp pe_int fun σ H Q ⟨W, env, s, he, hs, h⟩ => h.now hs (by simp [Rep])
theorem ee_bl {b : Bool} {j pos} : EE X G (.Constant (.bool b) j pos) (mC (.bl b)) := pe_imp pe_bl fun σ H Q ⟨W, env, s, he, hs, h⟩ => h.now hs (by simp [Rep])
theorem ee_non {j pos} : EE X G (.Constant .none j pos) (mC .non) := pe_imp pe_non fun σ H Q ⟨W, env, s, he, hs, h⟩ => h.now hs (by simp [Rep])
theorem ee_str {x : Str} {j pos} : EE X G (.Constant (.str x) j pos) (mC (.str x)) := pe_imp pe_str fun σ H Q ⟨W, env, s, he, hs, h⟩ => h.now hs (by simp [Rep])
/-- a module's constant int -/
theorem ee_gint {x : Str} {i : Int} {t : Tok} {pos : Pos} (hg : Gl X x) (hm : X.mg x = some (.int i t)) (hd : (x == ("__debug__" : Str)) = false := by decide) : EE X G (.Name x pos) (mC (.int i)) :=
  pe_imp (pe_glob (v := .int i) hg hm ⟨t, rfl⟩ hd) fun σ H Q ⟨W, env, s, he, hs, h⟩ => h.now hs (by simp [Rep])

/-! ### two parts by an operator -/
/-- a rule by values is met by a mirror -/
def RB (G : Gx) (r : R2) (g : D → D → M D) : Prop := ∀ (W : Wd) (H : Hp) (s : DS) (x y : D) (v u : V) (Q : VK), WS W s H → Rep G.K W H x v → Rep G.K W H y u → Aft G W H (g x y s) Q → r v u H Q
@[simp] def mBin (g : D → D → M D) (a b : VE → M D) : VE → M D := fun env s => (a env s).bind fun x s => (b env s).bind (g x)
variable {a b c : Expr} {ma mb mc : VE → M D} {pos : Pos}
theorem tOp_of {r : R2} {g : D → D → M D} (hb : RB G r g) {σ : St} {H : Hp} {Q : VK} (h : tM G (mBin g ma mb) σ H Q) : tOp r (tM G ma) (tM G mb) σ H Q := by
  obtain ⟨W, env, s, he, hs, h⟩ := h
  refine tM_bind he hs h fun W1 H1 v x s1 e1 he1 hs1 rx _ h1 => ?_
  refine tM_bind he1 hs1 h1 fun W2 H2 u y s2 e2 he2 hs2 ry _ h2 => ?_
  exact hb W2 H2 s2 x y v u Q hs2 (Rep.ext e2 _ _ rx) ry h2
theorem ee_bin {op : Operator} {r : R2} {g : D → D → M D} (ho : OpR X (binaryOp op) r) (hr : RB G r g) (ha : EE X G a ma) (hb : EE X G b mb) : EE X G (.BinOp a op b pos) (mBin g ma mb) :=
  pe_imp (pe_op ho ha hb) fun _ _ _ h => tOp_of hr h
theorem ee_cmp {op : CmpOp} {r : R2} {g : D → D → M D} (ho : OpR X (compareOp op) r) (hr : RB G r g) (ha : EE X G a ma) (hb : EE X G b mb) (hm : behindInMarks op b = false := by first | exact nomark _ | rfl) : EE X G (.Compare a [op] [b] pos) (mBin g ma mb) :=
  pe_imp (pe_cmpR ho ha hb hm) fun _ _ _ h => tOp_of hr h
/-- a bool as a test -/
@[simp] def asB (r : Res D) : Res Bool := r.bind fun d s => match d with
  | .bl b => .ok b s
  | _ => .no
theorem Rep.bl_of {K : PySem.W.Frag} {W : Wd} {H : Hp} {b : Bool} {v : V} (h : Rep K W H (.bl b) v) : v = .bl b := by simpa [Rep] using h
theorem tTest_of {m : VE → M D} {t : TE} (i : ∀ σ H Q, tM G m σ H Q → t σ H Q) {σ : St} {H : Hp} {Q : Bool → Hp → Prop} (h : tMT G (fun env s => asB (m env s)) σ H Q) : tTest t σ H Q := by
  obtain ⟨W, env, s, he, hs, h⟩ := h
  refine i _ _ _ ?_
  refine tM_bindT he hs h fun W1 H1 v x s1 e1 he1 hs1 rx _ h1 => ?_
  cases x with
  | bl b => exact ⟨b, rx.bl_of, h1 W1 H1 (Ext.refl _ _) hs1⟩
  | _ => exact h1.elim
@[simp] def mCmpT (g : D → D → M D) (a b : VE → M D) : VE → M Bool := fun env s => asB (mBin g a b env s)
theorem et_cmp {op : CmpOp} {r : R2} {g : D → D → M D} (ho : OpR X (compareOp op) r) (hr : RB G r g) (ha : EE X G a ma) (hb : EE X G b mb) (hm : behindInMarks op b = false := by first | exact nomark _ | rfl) :
    ET X G (.Compare a [op] [b] pos) (mCmpT g ma mb) :=
  pt_imp (pt_cmpR ho ha hb hm) fun _ _ _ h => tTest_of (fun _ _ _ h => tOp_of hr h) h

/-! ### the operators -/
theorem rep_int {K : PySem.W.Frag} {W : Wd} {H : Hp} {i : Int} {v : V} (h : Rep K W H (.int i) v) : v = .int i := by simpa [Rep] using h
theorem rep_str {K : PySem.W.Frag} {W : Wd} {H : Hp} {i : Str} {v : V} (h : Rep K W H (.str i) v) : v = .str i := by simpa [Rep] using h
theorem rep_tup {K : PySem.W.Frag} {W : Wd} {H : Hp} {ds : List D} {v : V} (h : Rep K W H (.tup ds) v) : ∃ a vs, v = .ref a ∧ SqT K H a vs ∧ Reps K W H ds vs := by simpa only [Rep] using h
theorem rep_lst {K : PySem.W.Frag} {W : Wd} {H : Hp} {ds : List D} {v : V} (h : Rep K W H (.lst ds) v) : ∃ a vs, v = .ref a ∧ H a = some (.lst vs) ∧ W.F a ∧ Reps K W H ds vs := by simpa only [Rep] using h
@[simp] theorem rep_int_iff {K : PySem.W.Frag} {W : Wd} {H : Hp} {i : Int} {v : V} : Rep K W H (.int i) v ↔ v = .int i := by simp [Rep]
@[simp] theorem rep_bl_iff {K : PySem.W.Frag} {W : Wd} {H : Hp} {i : Bool} {v : V} : Rep K W H (.bl i) v ↔ v = .bl i := by simp [Rep]
@[simp] theorem rep_str_iff {K : PySem.W.Frag} {W : Wd} {H : Hp} {i : Str} {v : V} : Rep K W H (.str i) v ↔ v = .str i := by simp [Rep]
@[simp] theorem rep_non_iff {K : PySem.W.Frag} {W : Wd} {H : Hp} {v : V} : Rep K W H .non v ↔ v = .non := by simp [Rep]

@[simp] def opAdd (x y : D) : M D := fun s => match x, y with
  | .int i, .int j => .ok (.int (i + j)) s
  | .str i, .str j => if LenOk (i.length + j.length) then .ok (.str (i ++ j)) s else .no
  | .tup a, .tup b => if LenOk (a.length + b.length) then .ok (.tup (a ++ b)) s else .no
  | .lst a, .lst b => if LenOk (a.length + b.length) then .ok (.lst (a ++ b)) s else .no
  | _, _ => .no
/-- () + t is t -/
def rCatT0 (K : PySem.W.Frag) : R2 := fun x y H Q => ∃ a b ys, x = .ref a ∧ y = .ref b ∧ SqT K H a [] ∧ SqT K H b ys ∧ Q (.ref b) H
theorem op_catT0 : OpR X (binaryOp .Add) (rCatT0 X.K) := by
  intro pins s σ H x y v u Q I rx ry h
  obtain ⟨a, b, ys, rfl, rfl, ha, hb, q⟩ := h
  cases rx
  cases ry
  obtain ⟨its, r1, p1, _⟩ := I.tuple ha
  obtain ⟨its2, r2, p2, _⟩ := I.tuple hb
  cases r1
  obtain ⟨⟨cls, dd, data, sl⟩, ho, hc, n, hd⟩ := id p1
  obtain ⟨⟨cls2, dd2, data2, sl2⟩, ho2, hc2, n2, hd2⟩ := id p2
  simp only at hc hd hc2 hd2
  subst hc hd hc2 hd2
  exact concat_meets ⟨_, ho, rfl⟩ ⟨_, ho2, rfl⟩ noFill_tuple_add seq_tuple_add PySem.F.slot_tuple_add PySem.F.entry_tuple_add (PySem.F.args_tuple_add_2 _ _)
    (tuple_addW0 a b _ its2.toArray n n2 dd dd2 sl sl2 (by simp)) ⟨ho, ho2, ⟨.ref b, H, I, rfl, q⟩⟩
abbrev rAddAll (K : PySem.W.Frag) : R2 := fun x y H Q => (rI0 fun i j => V.int (i + j)) x y H Q ∨ (fun x y H Q => (fun x y H Q => ∃ i j, x = .str i ∧ y = .str j ∧ i.length + j.length ≤ sizeLine ∧ Q (.str (i ++ j)) H) x y H Q ∨ (fun x y H Q => rCatT K x y H Q ∨ (fun x y H Q => rCatT0 K x y H Q ∨ rCat x y H Q) x y H Q) x y H Q) x y H Q
theorem or_add : OpR X (binaryOp .Add) (rAddAll X.K) := op_add.or (op_add_str.or (op_catT.or (op_catT0.or op_cat)))
theorem rb_add : RB G (rAddAll G.K) opAdd := by
  intro W H s x y v u Q hs rx ry h
  unfold opAdd at h
  split at h
  · exact .inl ⟨_, _, rep_int rx, rep_int ry, h.now hs (by simp)⟩
  · split at h
    · rename_i hz; exact .inr (.inl ⟨_, _, rep_str rx, rep_str ry, hz, h.now hs (by simp)⟩)
    · exact h.elim
  · split at h
    · rename_i as bs hz
      have hz := hz.le
      obtain ⟨a, vs, rfl, h1, r1⟩ := rep_tup rx
      obtain ⟨b, us, rfl, h2, r2⟩ := rep_tup ry
      have l1 := r1.length
      have l2 := r2.length
      cases as with
      | nil =>
        have e : vs = [] := List.eq_nil_of_length_eq_zero (by rw [l1]; rfl)
        subst e
        exact .inr (.inr (.inr (.inl ⟨a, b, us, rfl, rfl, h1, h2, h.now hs ry⟩)))
      | cons d0 dr =>
        refine .inr (.inr (.inl ⟨a, b, vs, us, rfl, rfl, h1, h2, fun e => by rw [e] at l1; simp at l1, by omega, fun e => ?_, fun ne p hp => ?_⟩))
        · have e2 : bs = [] := List.eq_nil_of_length_eq_zero (by rw [← l2, e]; rfl)
          subst e2
          rw [List.append_nil] at h
          exact h.now hs rx
        · exact h.tup hs (r1.append r2) hp
    · exact h.elim
  · split at h
    · rename_i hz
      have hz := hz.le
      obtain ⟨a, vs, rfl, h1, f1, r1⟩ := rep_lst rx
      obtain ⟨b, us, rfl, h2, f2, r2⟩ := rep_lst ry
      have l1 := r1.length
      have l2 := r2.length
      exact .inr (.inr (.inr (.inr ⟨a, b, vs, us, rfl, rfl, h1, h2, by omega, fun p hp => h.lst hs (r1.append r2) hp⟩)))
    · exact h.elim
  · exact h.elim
@[simp] def opSub (x y : D) : M D := fun s => match x, y with
  | .int i, .int j => .ok (.int (i - j)) s
  | _, _ => .no
theorem rb_sub : RB G (rI0 fun i j => V.int (i - j)) opSub := by
  intro W H s x y v u Q hs rx ry h
  unfold opSub at h
  split at h
  · exact ⟨_, _, rep_int rx, rep_int ry, h.now hs (by simp)⟩
  · exact h.elim
/-- two factors of which one is small, or both together not too great -/
def mulOk (i j : Int) : Bool := @decide (i.natAbs < 2 ^ 64 ∨ j.natAbs < 2 ^ 64 ∨ i.natAbs.log2 + j.natAbs.log2 < 1000000) (Classical.propDecidable _)
def CMulM (i j : Int) : Prop := mulOk i j = true
theorem op_mulM {X : Cx} : OpR X (binaryOp .Mult) (rI CMulM fun i j => V.int (i * j)) := opI fun i j _ _ _ _ _ hc q => by
  unfold CMulM mulOk at hc
  have hc := @of_decide_eq_true _ (Classical.propDecidable _) hc
  refine mul_int q ?_
  rcases hc with h | h | h
  · exact CMul.ok (.inl ⟨by omega, by omega⟩)
  · exact CMul.ok (.inr ⟨by omega, by omega⟩)
  · exact CMulW.ok h
/-- list times int -/
@[simp] def opMul (x y : D) : M D := fun s => match x, y with
  | .int i, .int j => if mulOk i j = true then .ok (.int (i * j)) s else .no
  | .lst a, .int k => if RngOk k ∧ LenOk (a.length * k.toNat) then .ok (.lst (List.replicate k.toNat a).flatten) s else .no
  | _, _ => .no
theorem or_mul : OpR X (binaryOp .Mult) (fun x y H Q => (rI CMulM fun i j => V.int (i * j)) x y H Q ∨ rRep x y H Q) := op_mulM.or op_rep
theorem Reps.rep {K : PySem.W.Frag} {W : Wd} {H : Hp} {ds : List D} {vs : List V} (h : Reps K W H ds vs) : ∀ k : Nat, Reps K W H (List.replicate k ds).flatten (List.replicate k vs).flatten
  | 0 => by simp [Reps]
  | k + 1 => by
    rw [List.replicate_succ, List.replicate_succ, List.flatten_cons, List.flatten_cons]
    exact h.append (Reps.rep h k)
theorem rb_mul : RB G (fun x y H Q => (rI CMulM fun i j => V.int (i * j)) x y H Q ∨ rRep x y H Q) opMul := by
  intro W H s x y v u Q hs rx ry h
  unfold opMul at h
  split at h
  · split at h
    · rename_i hz; exact .inl ⟨_, _, rep_int rx, rep_int ry, hz, h.now hs (by simp)⟩
    · exact h.elim
  · split at h
    · rename_i hz
      obtain ⟨a, vs, rfl, h1, f1, r1⟩ := rep_lst rx
      have l1 := r1.length
      exact .inr ⟨a, _, vs, rfl, rep_int ry, h1, by have := hz.1.1; omega, by have := hz.1.2; omega, by rw [l1]; exact hz.2, fun p hp => h.lst hs (r1.rep _) hp⟩
    · exact h.elim
  · exact h.elim
@[simp] def opDiv (x y : D) : M D := fun s => match x, y with
  | .int i, .int j => if DivOk j then .ok (.int (i / j)) s else .no
  | _, _ => .no
theorem rb_div : RB G (rI CDivW fun i j => V.int (i / j)) opDiv := by
  intro W H s x y v u Q hs rx ry h
  unfold opDiv at h
  split at h
  · split at h
    · rename_i hz; exact ⟨_, _, rep_int rx, rep_int ry, hz, h.now hs (by simp)⟩
    · exact h.elim
  · exact h.elim
@[simp] def opMod (x y : D) : M D := fun s => match x, y with
  | .int i, .int j => if 0 < j then .ok (.int (i % j)) s else .no
  | _, _ => .no
theorem rb_mod : RB G (rI (fun _ j => 0 < j) fun i j => V.int (i % j)) opMod := by
  intro W H s x y v u Q hs rx ry h
  unfold opMod at h
  split at h
  · split at h
    · rename_i hz; exact ⟨_, _, rep_int rx, rep_int ry, hz, h.now hs (by simp)⟩
    · exact h.elim
  · exact h.elim
@[simp] def opPow (x y : D) : M D := fun s => match x, y with
  | .int i, .int j => if 0 ≤ j ∧ j ≤ 1000000 ∧ i.natAbs < 2 ^ 64 then .ok (.int (i ^ j.toNat)) s else .no
  | _, _ => .no
theorem rb_pow : RB G (rI CPow fun i j => V.int (i ^ j.toNat)) opPow := by
  intro W H s x y v u Q hs rx ry h
  unfold opPow at h
  split at h
  · split at h
    · rename_i hz; exact ⟨_, _, rep_int rx, rep_int ry, hz, h.now hs (by simp)⟩
    · exact h.elim
  · exact h.elim
/-- order of ints (and texts, for <) -/
@[simp] def opCmp (p : Int → Int → Bool) (x y : D) : M D := fun s => match x, y with
  | .int i, .int j => .ok (.bl (p i j)) s
  | _, _ => .no
theorem rb_cmp {p : Int → Int → Bool} : RB G (rI0 fun i j => V.bl (p i j)) (opCmp p) := by
  intro W H s x y v u Q hs rx ry h
  unfold opCmp at h
  split at h
  · exact ⟨_, _, rep_int rx, rep_int ry, h.now hs (by simp)⟩
  · exact h.elim
@[simp] abbrev pLt (i j : Int) : Bool := decide (i < j)
@[simp] abbrev pLe (i j : Int) : Bool := decide (i ≤ j)
@[simp] abbrev pGt (i j : Int) : Bool := decide (j < i)
@[simp] abbrev pGe (i j : Int) : Bool := decide (j ≤ i)
/-- is None -/
def opIsN (x y : D) : M D := fun s => match y, x with
  | .non, .non => .ok (.bl true) s
  | .non, .bl _ => .ok (.bl false) s
  | .non, .int _ => .ok (.bl false) s
  | .non, .str _ => .ok (.bl false) s
  | .non, .tup _ => .ok (.bl false) s
  | .non, .lst _ => .ok (.bl false) s
  | .non, .dic _ _ => .ok (.bl false) s
  | .non, .dicT _ _ => .ok (.bl false) s
  | _, _ => .no
def isNonD : D → Option Bool
  | .non => some true
  | .st => none
  | _ => some false
@[simp] theorem isNonD_1 : isNonD .non = some true := rfl
@[simp] theorem isNonD_2 (b : Bool) : isNonD (.bl b) = some false := rfl
@[simp] theorem isNonD_3 (b : Int) : isNonD (.int b) = some false := rfl
@[simp] theorem isNonD_4 (b : Str) : isNonD (.str b) = some false := rfl
@[simp] theorem isNonD_5 (b : List D) : isNonD (.tup b) = some false := rfl
@[simp] theorem isNonD_6 (b : List D) : isNonD (.lst b) = some false := rfl
@[simp] theorem isNonD_7 (k : List Key) (b : List D) : isNonD (.dic k b) = some false := rfl
@[simp] theorem isNonD_8 (k : List (List Key)) (b : List D) : isNonD (.dicT k b) = some false := rfl
theorem isNonD_rep {K : PySem.W.Frag} {W : Wd} {H : Hp} {d : D} {v : V} {b : Bool} (h : isNonD d = some b) (r : Rep K W H d v) : decide (v = .non) = b := by
  cases d <;> simp only [isNonD, Option.some.injEq, reduceCtorEq] at h <;> subst h <;> simp only [Rep] at r
  · subst r; rfl
  · subst r; simp
  · subst r; simp
  · subst r; simp
  · obtain ⟨a, vs, rfl, _⟩ := r; simp
  · obtain ⟨a, vs, rfl, _⟩ := r; simp
  · obtain ⟨a, vs, rfl, _⟩ := r; simp
  · obtain ⟨a, vs, rfl, _⟩ := r; simp
@[simp] def opIs (neg : Bool) (x y : D) : M D := fun s => match y with
  | .non => (match isNonD x with
    | some b => .ok (.bl (if neg then !b else b)) s
    | none => .no)
  | .bl c => (match x with
    | .bl b => .ok (.bl (if neg then !decide (b = c) else decide (b = c))) s
    | _ => .no)
  | _ => .no
theorem or_is : OpR X (compareOp .Is) (fun x y H Q => (y = .non ∧ Q (.bl (decide (x = .non))) H) ∨ rIsB x y H Q) := op_isN.or op_isBl
theorem or_isnot : OpR X (compareOp .IsNot) (fun x y H Q => (y = .non ∧ Q (.bl (!decide (x = .non))) H) ∨ rNotB x y H Q) := op_notN.or op_notBl
theorem rb_is : RB G (fun x y H Q => (y = .non ∧ Q (.bl (decide (x = .non))) H) ∨ rIsB x y H Q) (opIs false) := by
  intro W H s x y v u Q hs rx ry h
  unfold opIs at h
  split at h
  · split at h
    · rename_i b hb
      refine .inl ⟨by simpa using ry, ?_⟩
      rw [isNonD_rep hb rx]
      exact h.now hs (by simp)
    · exact h.elim
  · split at h
    · exact .inr ⟨_, _, by simpa using rx, by simpa using ry, h.now hs (by simp)⟩
    · exact h.elim
  · exact h.elim
theorem rb_isnot : RB G (fun x y H Q => (y = .non ∧ Q (.bl (!decide (x = .non))) H) ∨ rNotB x y H Q) (opIs true) := by
  intro W H s x y v u Q hs rx ry h
  unfold opIs at h
  split at h
  · split at h
    · rename_i b hb
      refine .inl ⟨by simpa using ry, ?_⟩
      rw [isNonD_rep hb rx]
      exact h.now hs (by simp)
    · exact h.elim
  · split at h
    · exact .inr ⟨_, _, by simpa using rx, by simpa using ry, h.now hs (by simp)⟩
    · exact h.elim
  · exact h.elim

/-! ### == of data -/
mutual
def toPy : D → PyData
  | .non => .none
  | .bl b => .bool b
  | .int i => .int i
  | .str x => .str x
  | .tup ds => .tuple (toPys ds)
  | .lst ds => .list (toPys ds)
  | .st => .none
  | .dic _ _ => .none
  | .dicT _ _ => .none
def toPys : List D → List PyData
  | [] => []
  | d :: ds => toPy d :: toPys ds
end
mutual
/-- data that may be compared: no state, no dict; texts of signs; at most so deep -/
@[simp] def okD : Nat → D → Bool
  | _, .non => true
  | _, .bl _ => true
  | _, .int _ => true
  | _, .str x => PyData.strOk x
  | 0, .tup _ => false
  | 0, .lst _ => false
  | n + 1, .tup ds => okDs n ds
  | n + 1, .lst ds => okDs n ds
  | _, .st => false
  | _, .dic _ _ => false
  | _, .dicT _ _ => false
@[simp] def okDs : Nat → List D → Bool
  | _, [] => true
  | n, d :: ds => okD n d && okDs n ds
end
end
end
end L2.Mir

set_option Elab.async false
set_option linter.all false
set_option maxRecDepth 100000
namespace L2.Mir
open PySem PySem.Spec PyProof.Rows
noncomputable section

/-! ### == -/
mutual
theorem Rep.dp {K : PySem.W.Frag} {W : Wd} {H : Hp} : ∀ (n : Nat) (d : D) (v : V), okD n d = true → Rep K W H d v → Dp K H v (toPy d) ∧ (toPy d).canLay0 = true ∧ (toPy d).depth ≤ n
  | n, .non, v, _, r => by simp only [rep_non_iff] at r; subst r; exact ⟨.non, by simp [toPy, PyData.canLay0], by simp [toPy, PyData.depth]⟩
  | n, .bl b, v, _, r => by simp only [rep_bl_iff] at r; subst r; exact ⟨.bl b, by simp [toPy, PyData.canLay0], by simp [toPy, PyData.depth]⟩
  | n, .int b, v, _, r => by simp only [rep_int_iff] at r; subst r; exact ⟨.int b, by simp [toPy, PyData.canLay0], by simp [toPy, PyData.depth]⟩
  | n, .str x, v, h, r => by
    simp only [rep_str_iff] at r; subst r
    exact ⟨.str x, by simpa [toPy, PyData.canLay0, okD] using h, by simp [toPy, PyData.depth]⟩
  | n + 1, .tup ds, v, h, r => by
    obtain ⟨a, vs, rfl, hs, hr⟩ := rep_tup r
    obtain ⟨h1, h2, h3⟩ := Reps.dp n ds vs (by simpa [okD] using h) hr
    exact ⟨.tup hs h1, by simpa [toPy, PyData.canLay0] using h2, by simpa [toPy, PyData.depth] using h3⟩
  | n + 1, .lst ds, v, h, r => by
    obtain ⟨a, vs, rfl, hs, _, hr⟩ := rep_lst r
    obtain ⟨h1, h2, h3⟩ := Reps.dp n ds vs (by simpa [okD] using h) hr
    exact ⟨.lst (.inl (.inl hs)) h1, by simpa [toPy, PyData.canLay0] using h2, by simpa [toPy, PyData.depth] using h3⟩
  | 0, .tup _, _, h, _ => by simp [okD] at h
  | 0, .lst _, _, h, _ => by simp [okD] at h
  | _, .st, _, h, _ => by simp [okD] at h
  | _, .dic _ _, _, h, _ => by simp [okD] at h
  | _, .dicT _ _, _, h, _ => by simp [okD] at h
theorem Reps.dp {K : PySem.W.Frag} {W : Wd} {H : Hp} : ∀ (n : Nat) (ds : List D) (vs : List V), okDs n ds = true → Reps K W H ds vs → DpAll K H vs (toPys ds) ∧ PyData.canLayAll0 (toPys ds) = true ∧ PyData.depthAll (toPys ds) ≤ n
  | n, [], vs, _, r => by simp only [Reps] at r; subst r; exact ⟨.nil, by simp [toPys, PyData.canLayAll0], by simp [toPys, PyData.depthAll]⟩
  | n, d :: ds, vs, h, r => by
    simp only [Reps] at r
    obtain ⟨v, w, rfl, h1, h2⟩ := r
    simp only [okDs, Bool.and_eq_true] at h
    obtain ⟨a1, a2, a3⟩ := Rep.dp n d v h.1 h1
    obtain ⟨b1, b2, b3⟩ := Reps.dp n ds w h.2 h2
    exact ⟨.cons a1 b1, by simp [toPys, PyData.canLayAll0, a2, b2], by simp only [toPys, PyData.depthAll]; omega⟩
end
theorem shaped_of {d : D} (h : (toPy d).canLay0 = true) (h2 : (toPy d).depth ≤ 60) : SeqAt.shaped (toPy d) = true := by
  unfold SeqAt.shaped
  rw [h, Bool.true_and]
  exact decide_eq_true (by omega)
/-- == of data, as Python has it -/
def deq (x y : D) : Bool := PyData.eqv (toPy x) (toPy y)
@[simp] def opEq (x y : D) : M D := fun s => if okD 60 x && okD 60 y then .ok (.bl (deq x y)) s else .no
@[simp] def opNe (x y : D) : M D := fun s => if okD 60 x && okD 60 y then .ok (.bl (!deq x y)) s else .no
section
variable {X : Cx} {G : Gx}
theorem rb_eq : RB G (rEqD G.K) opEq := by
  intro W H s x y v u Q hs rx ry h
  unfold opEq at h
  split at h
  · rename_i hz
    rw [Bool.and_eq_true] at hz
    obtain ⟨a1, a2, a3⟩ := Rep.dp 60 x v hz.1 rx
    obtain ⟨b1, b2, b3⟩ := Rep.dp 60 y u hz.2 ry
    exact ⟨_, _, a1, b1, shaped_of a2 a3, shaped_of b2 b3, h.now hs (by simp [deq])⟩
  · exact h.elim
theorem rb_ne : RB G (rNeD G.K) opNe := by
  intro W H s x y v u Q hs rx ry h
  unfold opNe at h
  split at h
  · rename_i hz
    rw [Bool.and_eq_true] at hz
    obtain ⟨a1, a2, a3⟩ := Rep.dp 60 x v hz.1 rx
    obtain ⟨b1, b2, b3⟩ := Rep.dp 60 y u hz.2 ry
    exact ⟨_, _, a1, b1, shaped_of a2 a3, shaped_of b2 b3, h.now hs (by simp [deq])⟩
  · exact h.elim

/-! ### tests -/
variable {a b c e : Expr} {ma mb mc : VE → M D} {ta tb : VE → M Bool} {pos : Pos} {rest : List Expr}
def truD (d : D) : M Bool := fun s => match d with
  | .non => .ok false s
  | .bl b => .ok b s
  | .int i => .ok (i != 0) s
  | .str x => if LenOk x.length then .ok ((x.length : Int) != 0) s else .no
  | .tup ds => .ok (!ds.isEmpty) s
  | .lst ds => .ok (!ds.isEmpty) s
  | _ => .no
@[simp] theorem truD_1 (s : DS) : truD .non s = .ok false s := rfl
@[simp] theorem truD_2 (b : Bool) (s : DS) : truD (.bl b) s = .ok b s := rfl
@[simp] theorem truD_3 (b : Int) (s : DS) : truD (.int b) s = .ok (b != 0) s := rfl
@[simp] theorem truD_4 (x : Str) (s : DS) : truD (.str x) s = if LenOk x.length then .ok ((x.length : Int) != 0) s else .no := rfl
@[simp] theorem truD_5 (ds : List D) (s : DS) : truD (.tup ds) s = .ok (!ds.isEmpty) s := rfl
@[simp] theorem truD_6 (ds : List D) (s : DS) : truD (.lst ds) s = .ok (!ds.isEmpty) s := rfl
theorem empty_len {α β : Type} {xs : List α} {ys : List β} (h : xs.length = ys.length) : xs.isEmpty = ys.isEmpty := by
  cases xs <;> cases ys <;> simp at h ⊢
theorem truD_ok {W : Wd} {H : Hp} {s s' : DS} {d : D} {v : V} {k : Bool} (r : Rep G.K W H d v) (h : truD d s = .ok k s') : TruV G.K v H k ∧ s' = s := by
  unfold truD at h
  split at h
  · simp only [Res.ok.injEq] at h; obtain ⟨rfl, rfl⟩ := h; simp only [rep_non_iff] at r; subst r; exact ⟨rfl, rfl⟩
  · simp only [Res.ok.injEq] at h; obtain ⟨rfl, rfl⟩ := h; simp only [rep_bl_iff] at r; subst r; exact ⟨rfl, rfl⟩
  · simp only [Res.ok.injEq] at h; obtain ⟨rfl, rfl⟩ := h; simp only [rep_int_iff] at r; subst r; exact ⟨rfl, rfl⟩
  · split at h
    · rename_i hz
      simp only [Res.ok.injEq] at h; obtain ⟨rfl, rfl⟩ := h; simp only [rep_str_iff] at r; subst r; exact ⟨⟨hz, rfl⟩, rfl⟩
    · cases h
  · simp only [Res.ok.injEq] at h; obtain ⟨rfl, rfl⟩ := h
    obtain ⟨a, vs, rfl, h1, r1⟩ := rep_tup r
    have l := r1.length
    exact ⟨.inr (.inl ⟨vs, h1, by rw [empty_len l]⟩), rfl⟩
  · simp only [Res.ok.injEq] at h; obtain ⟨rfl, rfl⟩ := h
    obtain ⟨a, vs, rfl, h1, _, r1⟩ := rep_lst r
    have l := r1.length
    exact ⟨.inl ⟨vs, .inl (.inl h1), by rw [empty_len l]⟩, rfl⟩
  · cases h
@[simp] def mTru (m : VE → M D) : VE → M Bool := fun env s => (m env s).bind truD
theorem et_val (ha : EE X G a ma) (hK : X.K = G.K) (he : ∀ whole, isTrue a X.env whole = (do let v ← whole; standAt a.pos; holding [v] (truthy v)) := by intro _; rfl) : ET X G a (mTru ma) :=
  pt_imp (pt_truth ha he) fun σ H Q h => by
    obtain ⟨W, env, s, hen, hs, h⟩ := h
    refine tM_bindT hen hs h fun W1 H1 v x s1 e1 he1 hs1 rx _ h1 => ?_
    cases q : truD x s1 with
    | ok k s2 =>
      rw [q] at h1
      obtain ⟨t, rfl⟩ := truD_ok rx q
      exact ⟨k, hK ▸ t, h1 W1 H1 (Ext.refl _ _) hs1⟩
    | exc x' s2 =>
      exfalso
      unfold truD at q
      split at q <;> first | cases q | (split at q <;> cases q)
    | no => rw [q] at h1; exact h1.elim
/-- and, or, not -/
@[simp] def mAndT (a b : VE → M Bool) : VE → M Bool := fun env s => (a env s).bind fun c s => if c = true then b env s else .ok false s
@[simp] def mOrT (a b : VE → M Bool) : VE → M Bool := fun env s => (a env s).bind fun c s => if c = true then .ok true s else b env s
@[simp] def mNotT (a : VE → M Bool) : VE → M Bool := fun env s => (a env s).bind fun c s => .ok (!c) s
abbrev EW (X : Cx) (G : Gx) (e : Expr) (m : VE → M Bool) : Prop := PW X e (tMT G m)
theorem pw_imp {t t' : TT} (h : PW X e t) (i : ∀ σ H Q, t' σ H Q → t σ H Q) : PW X e t' := ⟨fun wh pins s σ H Q I q => h.run wh pins s σ H Q I (i σ H Q q)⟩
theorem ew_and1 (ha : ET X G a ta) : EW X G (.BoolOp .And [a] pos) ta := pw_and1 ha
theorem ew_or1 (ha : ET X G a ta) : EW X G (.BoolOp .Or [a] pos) ta := pw_or1 ha
theorem AftT.now {W : Wd} {H : Hp} {s : DS} {b : Bool} {Q : Bool → Hp → Prop} (h : AftT G W H (.ok b s) Q) (hs : WS W s H) : Q b H := h W H (Ext.refl W H) hs
theorem ew_and (ha : ET X G a ta) (hb : EW X G (.BoolOp .And (b :: rest) pos) tb) : EW X G (.BoolOp .And (a :: b :: rest) pos) (mAndT ta tb) :=
  pw_imp (pw_and ha hb) fun σ H Q h => by
    obtain ⟨W, env, s, hen, hs, h⟩ := h
    refine tMT_bindT hen hs h fun W1 H1 k s1 e1 he1 hs1 _ h1 => ?_
    cases k with
    | true => exact ⟨W1, env, s1, he1, hs1, h1⟩
    | false => exact h1.now hs1
theorem ew_or (ha : ET X G a ta) (hb : EW X G (.BoolOp .Or (b :: rest) pos) tb) : EW X G (.BoolOp .Or (a :: b :: rest) pos) (mOrT ta tb) :=
  pw_imp (pw_or ha hb) fun σ H Q h => by
    obtain ⟨W, env, s, hen, hs, h⟩ := h
    refine tMT_bindT hen hs h fun W1 H1 k s1 e1 he1 hs1 _ h1 => ?_
    cases k with
    | false => exact ⟨W1, env, s1, he1, hs1, h1⟩
    | true => exact h1.now hs1
theorem et_w (h : EW X G e ta) : ET X G e ta := h.pt
theorem et_not (ha : ET X G a ta) : ET X G (.UnaryOp .Not a pos) (mNotT ta) :=
  pt_imp (pt_not ha) fun σ H Q h => by
    obtain ⟨W, env, s, hen, hs, h⟩ := h
    refine tMT_bindT hen hs h fun W1 H1 k s1 e1 he1 hs1 _ h1 => ?_
    exact h1.now hs1
/-- .. as values -/
@[simp] def mAnd (a b : VE → M D) : VE → M D := fun env s => (a env s).bind fun d s => match d with
  | .bl true => b env s
  | .bl false => .ok (.bl false) s
  | _ => .no
@[simp] def mOr (a b : VE → M D) : VE → M D := fun env s => (a env s).bind fun d s => match d with
  | .bl false => b env s
  | .bl true => .ok (.bl true) s
  | _ => .no
@[simp] def mNot (a : VE → M D) : VE → M D := fun env s => (a env s).bind fun d s => match d with
  | .bl k => .ok (.bl (!k)) s
  | _ => .no
theorem ee_one {op} (ha : EE X G a ma) : EE X G (.BoolOp op [a] pos) ma := pe_one ha
theorem ee_and (ha : EE X G a ma) (hb : EE X G (.BoolOp .And (b :: rest) pos) mb) : EE X G (.BoolOp .And (a :: b :: rest) pos) (mAnd ma mb) :=
  pe_imp (pe_and ha hb) fun σ H Q h => by
    obtain ⟨W, env, s, hen, hs, h⟩ := h
    refine tM_bind hen hs h fun W1 H1 v x s1 e1 he1 hs1 rx _ h1 => ?_
    split at h1
    · exact ⟨true, rx.bl_of, iteT ⟨W1, env, s1, he1, hs1, h1⟩⟩
    · exact ⟨false, rx.bl_of, iteF (h1.now hs1 (by simp))⟩
    · exact h1.elim
theorem ee_or (ha : EE X G a ma) (hb : EE X G (.BoolOp .Or (b :: rest) pos) mb) : EE X G (.BoolOp .Or (a :: b :: rest) pos) (mOr ma mb) :=
  pe_imp (pe_or ha hb) fun σ H Q h => by
    obtain ⟨W, env, s, hen, hs, h⟩ := h
    refine tM_bind hen hs h fun W1 H1 v x s1 e1 he1 hs1 rx _ h1 => ?_
    split at h1
    · exact ⟨false, rx.bl_of, iteF ⟨W1, env, s1, he1, hs1, h1⟩⟩
    · exact ⟨true, rx.bl_of, iteT (h1.now hs1 (by simp))⟩
    · exact h1.elim
theorem ee_not (ha : EE X G a ma) : EE X G (.UnaryOp .Not a pos) (mNot ma) :=
  pe_imp (pe_not ha) fun σ H Q h => by
    obtain ⟨W, env, s, hen, hs, h⟩ := h
    refine tM_bind hen hs h fun W1 H1 v x s1 e1 he1 hs1 rx _ h1 => ?_
    split at h1
    · exact ⟨_, rx.bl_of, h1.now hs1 (by simp)⟩
    · exact h1.elim
@[simp] def mIf (t : VE → M Bool) (a b : VE → M D) : VE → M D := fun env s => (t env s).bind fun k s => if k = true then a env s else b env s
theorem ee_if (hc : ET X G c ta) (ha : EE X G a ma) (hb : EE X G b mb) : EE X G (.IfExp c a b pos) (mIf ta ma mb) :=
  pe_imp (pe_ifExp hc ha hb) fun σ H Q h => by
    obtain ⟨W, env, s, hen, hs, h⟩ := h
    refine tMT_bind hen hs h fun W1 H1 k s1 e1 he1 hs1 _ h1 => ?_
    cases k with
    | true => exact iteT ⟨W1, env, s1, he1, hs1, h1⟩
    | false => exact iteF ⟨W1, env, s1, he1, hs1, h1⟩
/-- a < b < c -/
@[simp] def mChain (g g' : D → D → M D) (a b c : VE → M D) : VE → M D := fun env s => (a env s).bind fun x s => (b env s).bind fun y s => (g x y s).bind fun z s => match z with
  | .bl true => (c env s).bind fun w s => g' y w s
  | .bl false => .ok (.bl false) s
  | _ => .no
@[simp] def mChainT (g g' : D → D → M D) (a b c : VE → M D) : VE → M Bool := fun env s => asB (mChain g g' a b c env s)

/-! ### - a -/
@[simp] def mNeg (a : VE → M D) : VE → M D := fun env s => (a env s).bind fun d s => match d with
  | .int i => .ok (.int (-i)) s
  | _ => .no
theorem ee_neg (ha : EE X G a ma) : EE X G (.UnaryOp .USub a pos) (mNeg ma) :=
  pe_imp (pe_un un_neg ha) fun σ H Q h => by
    obtain ⟨W, env, s, hen, hs, h⟩ := h
    refine tM_bind hen hs h fun W1 H1 v x s1 e1 he1 hs1 rx _ h1 => ?_
    split at h1
    · exact ⟨_, rep_int rx, h1.now hs1 (by simp)⟩
    · exact h1.elim

/-! ### argument lists, displays -/
variable {es : List Expr} {ml : VE → M (List D)}
@[simp] def mNil : VE → M (List D) := fun _ s => .ok [] s
@[simp] def mCons (a : VE → M D) (l : VE → M (List D)) : VE → M (List D) := fun env s => (a env s).bind fun d s => (l env s).bind fun ds s => .ok (d :: ds) s
def LenM (m : VE → M (List D)) (n : Nat) : Prop := ∀ env s ds s', m env s = .ok ds s' → ds.length = n
theorem ln : LenM mNil 0 := fun env s ds s' h => by simp only [mNil, Res.ok.injEq] at h; rw [← h.1]; rfl
theorem lc {n : Nat} (h : LenM ml n) : LenM (mCons ma ml) (n + 1) := fun env s ds s' q => by
  unfold mCons at q
  cases q1 : ma env s with
  | ok d s1 =>
    rw [q1] at q
    simp only [bind_ok] at q
    cases q2 : ml env s1 with
    | ok es s2 =>
      rw [q2] at q
      simp only [bind_ok, Res.ok.injEq] at q
      rw [← q.1, List.length_cons, h env s1 es s2 q2]
    | exc _ _ => rw [q2] at q; cases q
    | no => rw [q2] at q; cases q
  | exc _ _ => rw [q1] at q; cases q
  | no => rw [q1] at q; cases q
theorem ea_nil : EA X G [] mNil := pa_imp pa_nil fun σ H Q h => by
  obtain ⟨W, env, s, hen, hs, h⟩ := h
  exact h W H [] (Ext.refl _ _) hs (by simp [Reps])
theorem ea_cons (ha : EE X G e ma) (hr : EA X G es ml) (hs : starEach (e :: es) X.env = (false, eval e X.env) :: starEach es X.env := by rfl) : EA X G (e :: es) (mCons ma ml) :=
  pa_imp (pa_cons ha hr hs) fun σ H Q h => by
    obtain ⟨W, env, s, hen, hs, h⟩ := h
    refine tM_bindL hen hs h fun W1 H1 v x s1 e1 he1 hs1 rx _ h1 => ?_
    refine tML_bindL he1 hs1 h1 fun W2 H2 vs ds s2 e2 he2 hs2 rs _ h2 => ?_
    exact h2 W2 H2 (v :: vs) (Ext.refl _ _) hs2 (by simp only [Reps]; exact ⟨v, vs, rfl, Rep.ext e2 _ _ rx, rs⟩)
@[simp] def mTup (l : VE → M (List D)) : VE → M D := fun env s => (l env s).bind fun ds s => .ok (.tup ds) s
@[simp] def mLst (l : VE → M (List D)) : VE → M D := fun env s => (l env s).bind fun ds s => .ok (.lst ds) s
theorem small {n : Nat} (h : n ≤ 1000) : n ≤ sizeLine := by rw [sizeLine_eq]; omega
theorem ee_tup {x1} {n : Nat} (h : EA X G es ml) (hl : LenM ml n) (hn : n ≤ 1000 := by decide) : EE X G (.Tuple es x1 pos) (mTup ml) :=
  pe_imp (pe_tup h) fun σ H Q h => by
    obtain ⟨W, env, s, hen, hs, h⟩ := h
    refine tML_bind hen hs h fun W1 H1 vs ds s1 e1 he1 hs1 rs q h1 => ⟨by rw [rs.length, hl _ _ _ _ q]; exact small hn, fun p hp => h1.tup hs1 rs hp⟩
theorem ee_lst {n : Nat} (h : EA X G es ml) (hl : LenM ml n) (hn : n ≤ 1000 := by decide) : EE X G (.List es pos) (mLst ml) :=
  pe_imp (pe_lst h) fun σ H Q h => by
    obtain ⟨W, env, s, hen, hs, h⟩ := h
    refine tML_bind hen hs h fun W1 H1 vs ds s1 e1 he1 hs1 rs q h1 => ⟨by rw [rs.length, hl _ _ _ _ q]; exact small hn, fun p hp => h1.lst hs1 rs hp⟩

/-! ### a[i] -/
@[simp] def opIx (x y : D) : M D := fun s => match x, y with
  | .tup ds, .int i => (match atI ds i with | some d => .ok d s | none => .no)
  | .lst ds, .int i => (match atI ds i with | some d => .ok d s | none => .no)
  | .str z, .int i => if LenOk z.length then (match atI z.cps.toList i with | some c => .ok (.str ⟨#[c]⟩) s | none => .no) else .no
  | _, _ => .no
theorem Reps.atI {K : PySem.W.Frag} {W : Wd} {H : Hp} {ds : List D} {vs : List V} {i : Int} {d : D} (r : Reps K W H ds vs) (h : L2.atI ds i = some d) : ∃ v, L2.atI vs i = some v ∧ Rep K W H d v := by
  unfold L2.atI at h ⊢
  rw [r.length]
  cases q : ixN ds.length i with
  | none => rw [q] at h; cases h
  | some j =>
    rw [q] at h
    exact r.get h
theorem rb_ix : RB G (rIx G.K) opIx := by
  intro W H s x y v u Q hs rx ry h
  unfold opIx at h
  split at h
  · split at h
    · rename_i d q
      obtain ⟨a, vs, rfl, h1, r1⟩ := rep_tup rx
      obtain ⟨w, e1, e2⟩ := r1.atI q
      exact .inr (.inl ⟨a, vs, _, w, rfl, rep_int ry, h1, e1, h.now hs e2⟩)
    · exact h.elim
  · split at h
    · rename_i d q
      obtain ⟨a, vs, rfl, h1, _, r1⟩ := rep_lst rx
      obtain ⟨w, e1, e2⟩ := r1.atI q
      exact .inl ⟨a, vs, _, w, rfl, rep_int ry, .inl (.inl h1), e1, h.now hs e2⟩
    · exact h.elim
  · split at h
    · rename_i hz
      split at h
      · rename_i c q
        exact .inr (.inr ⟨_, _, c, rep_str rx, rep_int ry, hz, q, h.now hs (by simp)⟩)
      · exact h.elim
    · exact h.elim
  · exact h.elim
theorem ee_ix (hK : X.K = G.K) (ha : EE X G a ma) (hb : EE X G b mb) (hs : PlainIx b := by intro _ _; rfl) : EE X G (.Subscript a b pos) (mBin opIx ma mb) :=
  pe_imp (pe_ix ix_seq ha hb hs) fun _ _ _ h => tOp_of (hK ▸ rb_ix) h

/-! ### calls -/
/-- a def's promise by its mirror -/
def spM (K : PySem.W.Frag) (xr : XR) (n : Nat) (f : List D → M D) : Sp := fun vs H Q E => vs.length = n ∧ ∃ W ds s, Reps K W H ds vs ∧ WS W s H ∧ Aft ⟨K, xr, E⟩ W H (f ds s) Q
def noX {α : Type} (r : Res α) : Res α := match r with
  | .exc _ _ => .no
  | r => r
@[simp] theorem noX_ok {α : Type} (a : α) (s : DS) : noX (Res.ok a s) = .ok a s := rfl
@[simp] theorem noX_no {α : Type} : noX (Res.no : Res α) = .no := rfl
@[simp] theorem noX_exc {α : Type} (x : Xc) (s : DS) : noX (Res.exc x s : Res α) = .no := rfl
/-- a call of a def that raises nothing -/
@[simp] def mCall (f : List D → M D) (l : VE → M (List D)) : VE → M D := fun env s => (l env s).bind fun ds s => noX (f ds s)
theorem ee_call {n k : Nat} {f : Addr} {fd : FuncData} {ps : List Str} {fm : List D → M D} {x : Str} {p : Pos} {xr : XR}
    (F : FnOk X.prog X.w X.K X.mg X.base CX0 k f fd ps (spM X.K xr n fm)) (hr : Room k X.A) (hm : X.mg x = some (.ref f)) (hk : PySem.W.keepIn X.K (.ref f) = true) (hb : Binds X.K fd ps [])
    (hK : X.K = G.K) (ha : EA X G (e :: es) ml) (hl : LenM ml n) (hg : Gl X x := by rfl) (hdb : (x == ("__debug__" : Str)) = false := by decide) (he : starEach (e :: es) X.env = (false, eval e X.env) :: starEach es X.env := by rfl)
    (hpl : (backTo pos (starEach es X.env)).any (·.1) = false := by rfl) : EE X G (.Call (.Name x p) (e :: es) [] pos) (mCall fm ml) :=
  pe_imp (pe_call (E := E0) F hr hg hm hk hb .nil pass0 ha hdb he hpl) fun σ H Q h => by
    obtain ⟨W, env, s, hen, hs, h⟩ := h
    refine tML_bind hen hs h fun W1 H1 vs ds s1 e1 he1 hs1 rs q h1 => ?_
    refine ⟨by rw [List.append_nil, rs.length, hl _ _ _ _ q], W1, ds, s1, by rw [List.append_nil, hK]; exact rs, hs1, ?_⟩
    cases q2 : fm ds s1 with
    | ok d s2 =>
      rw [q2] at h1
      intro W' H' v ex ws rp
      exact h1 W' H' v ex ws (hK ▸ rp)
    | exc _ _ => rw [q2] at h1; exact h1.elim
    | no => rw [q2] at h1; exact h1.elim
/-- built-ins -/
def RC (G : Gx) (r : List V → Hp → VK → Prop) (g : List D → M D) : Prop := ∀ (W : Wd) (H : Hp) (s : DS) (ds : List D) (vs : List V) (Q : VK), WS W s H → Reps G.K W H ds vs → Aft G W H (g ds s) Q → r vs H Q
@[simp] def mCB (g : List D → M D) (l : VE → M (List D)) : VE → M D := fun env s => (l env s).bind g
theorem ee_callB {x : Str} {p : Pos} {id : String} {r : List V → Hp → VK → Prop} {g : List D → M D} (hc : CallR X (.builtin id) r) (hr : RC G r g) (hm : X.mg x = none) (hv : bootBuiltins x = some (.builtin id)) (ha : EA X G (e :: es) ml) (hg : Gl X x := by rfl)
    (hn : x ≠ "__name__" := by decide) (hdb : (x == ("__debug__" : Str)) = false := by decide) (he : starEach (e :: es) X.env = (false, eval e X.env) :: starEach es X.env := by rfl) (hpl : (backTo pos (starEach es X.env)).any (·.1) = false := by rfl) :
    EE X G (.Call (.Name x p) (e :: es) [] pos) (mCB g ml) :=
  pe_imp (pe_callB hc hg hm hv ha hn hdb he hpl) fun σ H Q h => by
    obtain ⟨W, env, s, hen, hs, h⟩ := h
    refine tML_bind hen hs h fun W1 H1 vs ds s1 e1 he1 hs1 rs q h1 => ?_
    exact hr W1 H1 s1 ds vs Q hs1 rs h1
theorem ee_callTy {x : Str} {p : Pos} {T : String} {r : List V → Hp → VK → Prop} {g : List D → M D} (hc : CallR X (.type T) r) (hr : RC G r g) (hm : X.mg x = none) (hv : bootBuiltins x = some (.type T)) (ha : EA X G (e :: es) ml) (hg : Gl X x := by rfl)
    (hn : x ≠ "__name__" := by decide) (hdb : (x == ("__debug__" : Str)) = false := by decide) (he : starEach (e :: es) X.env = (false, eval e X.env) :: starEach es X.env := by rfl) (hpl : (backTo pos (starEach es X.env)).any (·.1) = false := by rfl) :
    EE X G (.Call (.Name x p) (e :: es) [] pos) (mCB g ml) :=
  pe_imp (pe_callTy hc hg hm hv ha hn hdb he hpl) fun σ H Q h => by
    obtain ⟨W, env, s, hen, hs, h⟩ := h
    refine tML_bind hen hs h fun W1 H1 vs ds s1 e1 he1 hs1 rs q h1 => ?_
    exact hr W1 H1 s1 ds vs Q hs1 rs h1
theorem Reps.one {K : PySem.W.Frag} {W : Wd} {H : Hp} {d : D} {vs : List V} (r : Reps K W H [d] vs) : ∃ v, vs = [v] ∧ Rep K W H d v := by
  simp only [Reps] at r
  obtain ⟨v, w, rfl, h, rfl⟩ := r
  exact ⟨v, rfl, h⟩
theorem Reps.two {K : PySem.W.Frag} {W : Wd} {H : Hp} {d d' : D} {vs : List V} (r : Reps K W H [d, d'] vs) : ∃ v v', vs = [v, v'] ∧ Rep K W H d v ∧ Rep K W H d' v' := by
  simp only [Reps] at r
  obtain ⟨v, w, rfl, h, v', w', rfl, h', rfl⟩ := r
  exact ⟨v, v', rfl, h, h'⟩
/-- |i| -/
def absI (i : Int) : Int := if i < 0 then -i else i
theorem absI_nonneg (i : Int) : 0 ≤ absI i := by unfold absI; split <;> omega
theorem absI_natAbs (i : Int) : (absI i).natAbs = i.natAbs := by unfold absI; split <;> omega
theorem absI_eq (i : Int) : absI i = (i.natAbs : Int) := by unfold absI; split <;> omega
@[simp] theorem gcd_absI_l (a b : Int) : Int.gcd (absI a) b = Int.gcd a b := by unfold absI; split <;> simp
@[simp] theorem gcd_absI_r (a b : Int) : Int.gcd a (absI b) = Int.gcd a b := by unfold absI; split <;> simp
@[simp] def bAbs (ds : List D) : M D := fun s => match ds with
  | [.int i] => .ok (.int (absI i)) s
  | _ => .no
theorem rc_abs : RC G (fun xs H Q => ∃ i, xs = [.int i] ∧ Q (.int (if i < 0 then -i else i)) H) bAbs := by
  intro W H s ds vs Q hs rs h
  unfold bAbs at h
  split at h
  · obtain ⟨v, rfl, r⟩ := rs.one
    exact ⟨_, by rw [rep_int r], h.now (v := .int (absI _)) hs (rep_int_iff.mpr rfl)⟩
  · exact h.elim
@[simp] def bInt (ds : List D) : M D := fun s => match ds with
  | [.int i] => .ok (.int i) s
  | [.bl k] => .ok (.int (if k then 1 else 0)) s
  | _ => .no
theorem rc_int : RC G (fun xs H Q => (∃ i, xs = [V.int i] ∧ Q (.int i) H) ∨ ∃ k, xs = [V.bl k] ∧ Q (.int (if k then 1 else 0)) H) bInt := by
  intro W H s ds vs Q hs rs h
  unfold bInt at h
  split at h
  · obtain ⟨v, rfl, r⟩ := rs.one
    exact .inl ⟨_, by rw [rep_int r], h.now hs (by simp)⟩
  · obtain ⟨v, rfl, r⟩ := rs.one
    exact .inr ⟨_, by rw [r.bl_of], h.now hs (by simp)⟩
  · exact h.elim
@[simp] def bLen (ds : List D) : M D := fun s => match ds with
  | [.tup xs] => .ok (.int xs.length) s
  | [.lst xs] => .ok (.int xs.length) s
  | [.str x] => if LenOk x.length then .ok (.int x.length) s else .no
  | _ => .no
theorem rc_len : RC G (fun xs H Q => ∃ x n, xs = [x] ∧ LenV G.K x H n ∧ Q (.int n) H) bLen := by
  intro W H s ds vs Q hs rs h
  unfold bLen at h
  split at h
  · obtain ⟨v, rfl, r⟩ := rs.one
    obtain ⟨a, us, rfl, h1, r1⟩ := rep_tup r
    exact ⟨_, us.length, rfl, .inr ⟨us, h1, rfl⟩, h.now hs (by simp [r1.length])⟩
  · obtain ⟨v, rfl, r⟩ := rs.one
    obtain ⟨a, us, rfl, h1, _, r1⟩ := rep_lst r
    exact ⟨_, us.length, rfl, .inl ⟨us, .inl (.inl h1), rfl⟩, h.now hs (by simp [r1.length])⟩
  · split at h
    · rename_i hz
      obtain ⟨v, rfl, r⟩ := rs.one
      exact ⟨_, _, rfl, by rw [rep_str r]; exact ⟨hz, rfl⟩, h.now hs (by simp)⟩
    · exact h.elim
  · exact h.elim
@[simp] def bList (ds : List D) : M D := fun s => match ds with
  | [.tup xs] => .ok (.lst xs) s
  | [.lst xs] => .ok (.lst xs) s
  | _ => .no
theorem rc_list : RC G (fun xs H Q => ∃ p ys, xs = [.ref p] ∧ (SqL G.K H p ys ∨ SqT G.K H p ys) ∧ ∀ l, H l = none → Q (.ref l) (upd H l (.lst ys))) bList := by
  intro W H s ds vs Q hs rs h
  unfold bList at h
  split at h
  · obtain ⟨v, rfl, r⟩ := rs.one
    obtain ⟨a, us, rfl, h1, r1⟩ := rep_tup r
    exact ⟨a, us, rfl, .inr h1, fun l hl => h.lst hs r1 hl⟩
  · obtain ⟨v, rfl, r⟩ := rs.one
    obtain ⟨a, us, rfl, h1, _, r1⟩ := rep_lst r
    exact ⟨a, us, rfl, .inl (.inl (.inl h1)), fun l hl => h.lst hs r1 hl⟩
  · exact h.elim
@[simp] def bTuple (ds : List D) : M D := fun s => match ds with
  | [.tup xs] => .ok (.tup xs) s
  | [.lst xs] => .ok (.tup xs) s
  | _ => .no
theorem rc_tuple : RC G (fun xs H Q => ∃ p ys, xs = [.ref p] ∧ ((SqL G.K H p ys ∧ ∀ l, H l = none → Q (.ref l) (upd H l (.tup ys))) ∨ (SqT G.K H p ys ∧ Q (.ref p) H))) bTuple := by
  intro W H s ds vs Q hs rs h
  unfold bTuple at h
  split at h
  · obtain ⟨v, rfl, r⟩ := rs.one
    obtain ⟨a, us, rfl, h1, r1⟩ := rep_tup r
    exact ⟨a, us, rfl, .inr ⟨h1, h.now hs r⟩⟩
  · obtain ⟨v, rfl, r⟩ := rs.one
    obtain ⟨a, us, rfl, h1, _, r1⟩ := rep_lst r
    exact ⟨a, us, rfl, .inl ⟨.inl (.inl h1), fun l hl => h.tup hs r1 hl⟩⟩
  · exact h.elim
/-- lists of numbers -/
@[simp] def intsD : List D → Option (List Int)
  | [] => some []
  | .int i :: r => (intsD r).map (i :: ·)
  | _ => none
@[simp] def boolsD : List D → Option (List Bool)
  | [] => some []
  | .bl i :: r => (boolsD r).map (i :: ·)
  | _ => none
theorem intsD_rep {K : PySem.W.Frag} {W : Wd} {H : Hp} : ∀ {ds : List D} {ns : List Int} {vs : List V}, intsD ds = some ns → Reps K W H ds vs → vs = ns.map V.int
  | [], ns, vs, h, r => by simp only [intsD, Option.some.injEq] at h; subst h; simpa [Reps] using r
  | d :: ds, ns, vs, h, r => by
    simp only [Reps] at r
    obtain ⟨v, w, rfl, h1, h2⟩ := r
    unfold intsD at h
    split at h
    · rename_i q; cases q
    · rename_i q
      cases q
      cases q2 : intsD ds with
      | none => rw [q2] at h; cases h
      | some ms =>
        rw [q2] at h
        simp only [Option.map_some, Option.some.injEq] at h
        subst h
        rw [rep_int h1, intsD_rep q2 h2]; rfl
    · cases h
theorem boolsD_rep {K : PySem.W.Frag} {W : Wd} {H : Hp} : ∀ {ds : List D} {ns : List Bool} {vs : List V}, boolsD ds = some ns → Reps K W H ds vs → vs = ns.map V.bl
  | [], ns, vs, h, r => by simp only [boolsD, Option.some.injEq] at h; subst h; simpa [Reps] using r
  | d :: ds, ns, vs, h, r => by
    simp only [Reps] at r
    obtain ⟨v, w, rfl, h1, h2⟩ := r
    unfold boolsD at h
    split at h
    · rename_i q; cases q
    · rename_i q
      cases q
      cases q2 : boolsD ds with
      | none => rw [q2] at h; cases h
      | some ms =>
        rw [q2] at h
        simp only [Option.map_some, Option.some.injEq] at h
        subst h
        rw [h1.bl_of, boolsD_rep q2 h2]; rfl
    · cases h
@[simp] def bAll (ds : List D) : M D := fun s => match ds with
  | [.lst xs] => (match boolsD xs with | some bs => .ok (.bl (bs.all id)) s | none => .no)
  | _ => .no
@[simp] def bAny (ds : List D) : M D := fun s => match ds with
  | [.lst xs] => (match boolsD xs with | some bs => .ok (.bl (bs.any id)) s | none => .no)
  | _ => .no
@[simp] def bSum (ds : List D) : M D := fun s => match ds with
  | [.lst xs] => (match intsD xs with | some bs => .ok (.int bs.sum) s | none => .no)
  | _ => .no
theorem rc_all : RC G (rAll G.K) bAll := by
  intro W H s ds vs Q hs rs h
  unfold bAll at h
  split at h
  · split at h
    · rename_i q
      obtain ⟨v, rfl, r⟩ := rs.one
      obtain ⟨a, us, rfl, h1, _, r1⟩ := rep_lst r
      exact ⟨a, _, rfl, .inl (.inl (by rw [h1, boolsD_rep q r1])), h.now hs (by simp)⟩
    · exact h.elim
  · exact h.elim
theorem rc_any : RC G (rAny G.K) bAny := by
  intro W H s ds vs Q hs rs h
  unfold bAny at h
  split at h
  · split at h
    · rename_i q
      obtain ⟨v, rfl, r⟩ := rs.one
      obtain ⟨a, us, rfl, h1, _, r1⟩ := rep_lst r
      exact ⟨a, _, rfl, .inl (.inl (by rw [h1, boolsD_rep q r1])), h.now hs (by simp)⟩
    · exact h.elim
  · exact h.elim
theorem rc_sum : RC G (rSum G.K) bSum := by
  intro W H s ds vs Q hs rs h
  unfold bSum at h
  split at h
  · split at h
    · rename_i q
      obtain ⟨v, rfl, r⟩ := rs.one
      obtain ⟨a, us, rfl, h1, _, r1⟩ := rep_lst r
      exact ⟨a, _, rfl, .inl (.inl (by rw [h1, intsD_rep q r1])), h.now hs (by simp)⟩
    · exact h.elim
  · exact h.elim
/-- the greatest, the least of a list -/
def maxL : List Int → Int
  | [] => 0
  | [x] => x
  | x :: y :: r => max x (maxL (y :: r))
def minL : List Int → Int
  | [] => 0
  | [x] => x
  | x :: y :: r => min x (minL (y :: r))
theorem maxL_spec : ∀ (l : List Int), l ≠ [] → maxL l ∈ l ∧ ∀ y ∈ l, y ≤ maxL l
  | [], h => absurd rfl h
  | [x], _ => ⟨by simp [maxL], by simp [maxL]⟩
  | x :: y :: r, _ => by
    obtain ⟨h1, h2⟩ := maxL_spec (y :: r) (by simp)
    simp only [maxL]
    by_cases c : x ≤ maxL (y :: r)
    · rw [Int.max_eq_right c]
      exact ⟨List.mem_cons_of_mem _ h1, fun z hz => (List.mem_cons.mp hz).elim (fun e => e ▸ c) (h2 z)⟩
    · rw [Int.max_eq_left (by omega)]
      exact ⟨List.mem_cons_self, fun z hz => (List.mem_cons.mp hz).elim (fun e => by omega) (fun q => by have := h2 z q; omega)⟩
theorem minL_spec : ∀ (l : List Int), l ≠ [] → minL l ∈ l ∧ ∀ y ∈ l, minL l ≤ y
  | [], h => absurd rfl h
  | [x], _ => ⟨by simp [minL], by simp [minL]⟩
  | x :: y :: r, _ => by
    obtain ⟨h1, h2⟩ := minL_spec (y :: r) (by simp)
    simp only [minL]
    by_cases c : minL (y :: r) ≤ x
    · rw [Int.min_eq_right c]
      exact ⟨List.mem_cons_of_mem _ h1, fun z hz => (List.mem_cons.mp hz).elim (fun e => e ▸ c) (h2 z)⟩
    · rw [Int.min_eq_left (by omega)]
      exact ⟨List.mem_cons_self, fun z hz => (List.mem_cons.mp hz).elim (fun e => by omega) (fun q => by have := h2 z q; omega)⟩
@[simp] def bMax (ds : List D) : M D := fun s => match ds with
  | [.lst xs] => (match intsD xs with | some [] => .no | some bs => .ok (.int (maxL bs)) s | none => .no)
  | [.int i, .int j] => .ok (.int (if j > i then j else i)) s
  | _ => .no
@[simp] def bMin (ds : List D) : M D := fun s => match ds with
  | [.lst xs] => (match intsD xs with | some [] => .no | some bs => .ok (.int (minL bs)) s | none => .no)
  | [.int i, .int j] => .ok (.int (if j < i then j else i)) s
  | _ => .no
theorem cr_maxAll (hc : X.calm = true) : CallR X (.builtin "max") (fun xs H Q => rMax X.K xs H Q ∨ ∃ i j, xs = [.int i, .int j] ∧ Q (.int (if j > i then j else i)) H) := (cr_max hc).or (call_max2 hc)
theorem cr_minAll (hc : X.calm = true) : CallR X (.builtin "min") (fun xs H Q => rMin X.K xs H Q ∨ ∃ i j, xs = [.int i, .int j] ∧ Q (.int (if j < i then j else i)) H) := (cr_min hc).or (call_min2 hc)
theorem rc_max : RC G (fun xs H Q => rMax G.K xs H Q ∨ ∃ i j, xs = [.int i, .int j] ∧ Q (.int (if j > i then j else i)) H) bMax := by
  intro W H s ds vs Q hs rs h
  unfold bMax at h
  split at h
  · split at h
    · exact h.elim
    · rename_i xs _ bs hne q
      obtain ⟨v, rfl, r⟩ := rs.one
      obtain ⟨a, us, rfl, h1, _, r1⟩ := rep_lst r
      have hn : bs ≠ [] := fun e => hne e
      refine .inl ⟨a, bs, rfl, .inl (.inl (by rw [h1, intsD_rep q r1])), List.length_pos_iff.mpr hn, fun m hm hy => ?_⟩
      obtain ⟨s1, s2⟩ := maxL_spec bs hn
      have e : m = maxL bs := Int.le_antisymm (s2 m hm) (hy _ s1)
      subst e
      exact h.now hs (by simp)
    · exact h.elim
  · obtain ⟨v, v', rfl, r1, r2⟩ := rs.two
    exact .inr ⟨_, _, by rw [rep_int r1, rep_int r2], h.now hs (by simp)⟩
  · exact h.elim
theorem rc_min : RC G (fun xs H Q => rMin G.K xs H Q ∨ ∃ i j, xs = [.int i, .int j] ∧ Q (.int (if j < i then j else i)) H) bMin := by
  intro W H s ds vs Q hs rs h
  unfold bMin at h
  split at h
  · split at h
    · exact h.elim
    · rename_i xs _ bs hne q
      obtain ⟨v, rfl, r⟩ := rs.one
      obtain ⟨a, us, rfl, h1, _, r1⟩ := rep_lst r
      have hn : bs ≠ [] := fun e => hne e
      refine .inl ⟨a, bs, rfl, .inl (.inl (by rw [h1, intsD_rep q r1])), List.length_pos_iff.mpr hn, fun m hm hy => ?_⟩
      obtain ⟨s1, s2⟩ := minL_spec bs hn
      have e : m = minL bs := Int.le_antisymm (hy _ s1) (s2 m hm)
      subst e
      exact h.now hs (by simp)
    · exact h.elim
  · obtain ⟨v, v', rfl, r1, r2⟩ := rs.two
    exact .inr ⟨_, _, by rw [rep_int r1, rep_int r2], h.now hs (by simp)⟩
  · exact h.elim
end
end
end L2.Mir

set_option Elab.async false
set_option linter.all false
set_option maxRecDepth 100000
namespace L2.Mir
open PySem PySem.Spec PyProof.Rows
noncomputable section

section
variable {X : Cx} {G : Gx} {a b c e : Expr} {ma mb mc : VE → M D} {pos : Pos}
/-! ### a < b < c -/
theorem tChain_of {r r' : R2} {g g' : D → D → M D} (hr : RB G r g) (hr' : RB G r' g') {σ : St} {H : Hp} {Q : VK} (h : tM G (mChain g g' ma mb mc) σ H Q) : tChain r r' (tM G ma) (tM G mb) (tM G mc) σ H Q := by
  obtain ⟨W, env, s, hen, hs, h⟩ := h
  refine tM_bind hen hs h fun W1 H1 v x s1 e1 he1 hs1 rx _ h1 => ?_
  refine tM_bind he1 hs1 h1 fun W2 H2 u y s2 e2 he2 hs2 ry _ h2 => ?_
  refine hr W2 H2 s2 x y v u _ hs2 (Rep.ext e2 _ _ rx) ry ?_
  cases q : g x y s2 with
  | ok d s3 =>
    rw [q] at h2
    simp only [bind_ok] at h2
    intro W' H' w ex ws rp
    split at h2
    · refine ⟨true, rp.bl_of, iteT ?_⟩
      have h3 := Aft.ext ex h2
      refine tM_bind (he2.ext ex) ws h3 fun W4 H4 z d4 s4 e4 he4 hs4 r4 _ h4 => ?_
      exact hr' W4 H4 s4 y d4 u z Q hs4 (Rep.ext e4 _ _ (Rep.ext ex _ _ ry)) r4 h4
    · exact ⟨false, rp.bl_of, iteF (h2 W' H' _ ex ws (by simp))⟩
    · exact h2.elim
  | exc x' s3 => rw [q] at h2; exact h2
  | no => rw [q] at h2; exact h2
theorem ee_chain {op op' : CmpOp} {r r' : R2} {g g' : D → D → M D} (ho : OpR X (compareOp op) r) (ho' : OpR X (compareOp op') r') (hr : RB G r g) (hr' : RB G r' g') (ha : EE X G a ma) (hb : EE X G b mb) (hc : EE X G c mc)
    (hm : lastMarks [op, op'] [b, c] = false := by with_unfolding_all rfl) : EE X G (.Compare a [op, op'] [b, c] pos) (mChain g g' ma mb mc) :=
  pe_imp (pe_chain ho ho' ha hb hc hm) fun _ _ _ h => tChain_of hr hr' h
theorem et_chain {op op' : CmpOp} {r r' : R2} {g g' : D → D → M D} (ho : OpR X (compareOp op) r) (ho' : OpR X (compareOp op') r') (hr : RB G r g) (hr' : RB G r' g') (ha : EE X G a ma) (hb : EE X G b mb) (hc : EE X G c mc)
    (hm : lastMarks [op, op'] [b, c] = false := by with_unfolding_all rfl) : ET X G (.Compare a [op, op'] [b, c] pos) (mChainT g g' ma mb mc) :=
  pt_imp (pt_chain ho ho' ha hb hc hm) fun _ _ _ h => tTest_of (fun _ _ _ h => tChain_of hr hr' h) h

/-! ### isinstance(x, T) -/
def tyN : D → Option String
  | .non => some "NoneType"
  | .bl _ => some "bool"
  | .int _ => some "int"
  | .str _ => some "str"
  | .tup _ => some "tuple"
  | .lst _ => some "list"
  | .st => none
  | .dic _ _ => some "dict"
  | .dicT _ _ => some "dict"
@[simp] theorem tyN_1 : tyN .non = some "NoneType" := rfl
@[simp] theorem tyN_2 (b : Bool) : tyN (.bl b) = some "bool" := rfl
@[simp] theorem tyN_3 (b : Int) : tyN (.int b) = some "int" := rfl
@[simp] theorem tyN_4 (b : Str) : tyN (.str b) = some "str" := rfl
@[simp] theorem tyN_5 (b : List D) : tyN (.tup b) = some "tuple" := rfl
@[simp] theorem tyN_6 (b : List D) : tyN (.lst b) = some "list" := rfl
@[simp] theorem tyN_7 (k : List Key) (b : List D) : tyN (.dic k b) = some "dict" := rfl
@[simp] theorem tyN_8 (k : List (List Key)) (b : List D) : tyN (.dicT k b) = some "dict" := rfl
theorem tyN_ok {K : PySem.W.Frag} {W : Wd} {H : Hp} {d : D} {v : V} {t : String} (h : tyN d = some t) (r : Rep K W H d v) : TyX K H v (.type t) := by
  cases d <;> simp only [tyN, Option.some.injEq, reduceCtorEq] at h <;> subst h
  · simp only [rep_non_iff] at r; subst r; exact .base .non
  · simp only [rep_bl_iff] at r; subst r; exact .base (.bl _)
  · simp only [rep_int_iff] at r; subst r; exact .base (.int _)
  · simp only [rep_str_iff] at r; subst r; exact .base (.str _)
  · obtain ⟨a, vs, rfl, h1, _⟩ := rep_tup r
    rcases h1 with (h1 | ⟨o, h1⟩) | ⟨o, its, n, h1, h2, _⟩
    · exact .base (.tup h1)
    · exact .fTuple h1
    · exact .kTuple h1 h2
  · obtain ⟨a, vs, rfl, h1, _⟩ := rep_lst r
    exact .base (.lst h1)
  · simp only [Rep] at r
    obtain ⟨a, vs, rfl, h1, _⟩ := r
    exact .base (.dK h1)
  · simp only [Rep] at r
    obtain ⟨a, vs, rfl, h1, _⟩ := r
    exact .base (.dT h1)
/-- the answer, by names of types -/
@[simp] def kitN (t T : String) : Option Bool := match T with
  | "int" => some (t == "int" || t == "bool")
  | "bool" => some (t == "bool")
  | "str" => some (t == "str")
  | "tuple" => some (t == "tuple")
  | "list" => some (t == "list")
  | "dict" => some (t == "dict")
  | _ => none
def tyNames : List String := ["NoneType", "bool", "int", "str", "tuple", "list", "dict"]
theorem kitN_all : (tyNames.all fun t => ["int", "bool", "str", "tuple", "list", "dict"].all fun T => decide (kitN t T = kitB t T)) = true := by decide +kernel
theorem tyN_mem {d : D} {t : String} (h : tyN d = some t) : t ∈ tyNames := by
  cases d <;> simp only [tyN, Option.some.injEq, reduceCtorEq] at h <;> subst h <;> decide
theorem kitN_ok {d : D} {t T : String} {b : Bool} (h : tyN d = some t) (hk : kitN t T = some b) : kitB t T = some b := by
  have h1 := List.all_eq_true.mp kitN_all t (tyN_mem h)
  have hT : T ∈ ["int", "bool", "str", "tuple", "list", "dict"] := by
    unfold kitN at hk
    split at hk <;> first | (cases hk; done) | simp
  have h2 := of_decide_eq_true (List.all_eq_true.mp h1 T hT)
  rw [← h2]; exact hk
@[simp] def mIsi (T : String) (m : VE → M D) : VE → M D := fun env s => (m env s).bind fun d s => match tyN d with
  | some t => (match kitN t T with
    | some b => .ok (.bl b) s
    | none => .no)
  | none => .no
theorem ee_isi {T : String} {x xT : Str} {p p2 : Pos} (hK : X.K = G.K) (ha : EE X G a ma) (hm : X.mg x = none) (hv : bootBuiltins x = some (.builtin "isinstance")) (hmT : X.mg xT = none) (hvT : bootBuiltins xT = some (.type T)) (hg : Gl X x := by rfl) (hgT : Gl X xT := by rfl)
    (hn : x ≠ "__name__" := by decide) (hdb : (x == ("__debug__" : Str)) = false := by decide) (hnT : xT ≠ "__name__" := by decide) (hdbT : (xT == ("__debug__" : Str)) = false := by decide)
    (he0 : starEach ([Expr.Name xT p2]) X.env = (false, eval (Expr.Name xT p2) X.env) :: starEach [] X.env := by rfl)
    (he : starEach (a :: [Expr.Name xT p2]) X.env = (false, eval a X.env) :: starEach [Expr.Name xT p2] X.env := by rfl) (hpl : (backTo pos (starEach [Expr.Name xT p2] X.env)).any (·.1) = false := by rfl) :
    EE X G (.Call (.Name x p) [a, .Name xT p2] [] pos) (mIsi T ma) :=
  pe_imp (pe_callB call_isi hg hm hv (pa_cons ha (pa_cons (pe_bltn (v := .ty T) hgT hmT hvT rfl hnT hdbT) pa_nil he0) he) hn hdb he hpl) fun σ H Q h => by
    obtain ⟨W, env, s, hen, hs, h⟩ := h
    refine tM_bind hen hs h fun W1 H1 v x s1 e1 he1 hs1 rx _ h1 => ?_
    split at h1
    · rename_i t q
      split at h1
      · rename_i b q2
        exact ⟨v, .ty T, .type t, .type T, b, rfl, .ty T, hK ▸ tyN_ok q rx, kit_ty (kitN_ok q q2), h1.now hs1 (by simp)⟩
      · exact h1.elim
    · exact h1.elim

/-! ### a[lo:hi] -/
def cutD {α : Type} (xs : List α) (lo hi : Option Int) : List α := (xs.drop (HT.sIx xs.length 0 lo)).take (HT.sIx xs.length xs.length hi - HT.sIx xs.length 0 lo)
abbrev MP := VE → M (Option Int)
def AftP (G : Gx) (W : Wd) (H : Hp) (r : Res (Option Int)) (Q : Option Int → Hp → Prop) : Prop := match r with
  | .ok b s' => ∀ W' H', Ext W H W' H' → WS W' s' H' → Q b H'
  | .exc x s' => ∀ W' H' c dd, Ext W H W' H' → WS W' s' H' → G.xr G.K x c dd H' → G.E c dd H'
  | .no => False
def tMP (G : Gx) (m : MP) : TO := fun σ H Q => ∃ W env s, EnvR G.K W H σ env ∧ WS W s H ∧ AftP G W H (m env s) Q
abbrev EP' (X : Cx) (G : Gx) (e : Option Expr) (m : MP) : Prop := PO X e (tMP G m)
theorem po_imp {e : Option Expr} {t t' : TO} (h : PO X e t) (i : ∀ σ H Q, t' σ H Q → t σ H Q) : PO X e t' := ⟨fun pins s σ H Q I q => h.run pins s σ H Q I (i σ H Q q)⟩
@[simp] def mNoP : MP := fun _ s => .ok none s
@[simp] def mPart (m : VE → M D) : MP := fun env s => (m env s).bind fun d s => match d with
  | .int i => .ok (some i) s
  | _ => .no
theorem ep_none : EP' X G none mNoP := po_imp po_none fun σ H Q h => by
  obtain ⟨W, env, s, hen, hs, h⟩ := h
  exact h W H (Ext.refl _ _) hs
theorem ep_some (ha : EE X G a ma) : EP' X G (some a) (mPart ma) := po_imp (po_some ha) fun σ H Q h => by
  obtain ⟨W, env, s, hen, hs, h⟩ := h
  refine ⟨W, env, s, hen, hs, ?_⟩
  unfold mPart at h
  cases q : ma env s with
  | ok d s' =>
    rw [q] at h
    simp only [bind_ok] at h
    intro W' H' v e ws rp
    split at h
    · exact ⟨_, rep_int rp, h W' H' e ws⟩
    · exact h.elim
  | exc x s' => rw [q] at h; exact h
  | no => rw [q] at h; exact h
@[simp] def opSl (x : D) (lo hi : Option Int) : M D := fun s => match x with
  | .lst ds => .ok (.lst (cutD ds lo hi)) s
  | .tup ds => if HT.sIx ds.length 0 lo = 0 ∧ HT.sIx ds.length ds.length hi = ds.length then .no else .ok (.tup (cutD ds lo hi)) s
  | .str z => if LenOk z.length then .ok (.str (cutS z lo hi)) s else .no
  | _ => .no
@[simp] def mSl (m : VE → M D) (lo hi : MP) : VE → M D := fun env s => (m env s).bind fun d s => (lo env s).bind fun l s => (hi env s).bind fun u s => opSl d l u s
theorem or_sl : SlR X (fun x lo hi H Q => rSlL X.K x lo hi H Q ∨ (fun x lo hi H Q => rSlT X.K x lo hi H Q ∨ rSlS x lo hi H Q) x lo hi H Q) := sl_list.or (sl_tup.or sl_str)
theorem Reps.cut {K : PySem.W.Frag} {W : Wd} {H : Hp} {ds : List D} {vs : List V} (r : Reps K W H ds vs) (lo hi : Option Int) : Reps K W H (cutD ds lo hi) (cutV vs lo hi) := by
  unfold cutD cutV
  rw [r.length]
  exact (r.drop _).take _
theorem ee_sl {lo hi : Option Expr} {ml mh : MP} {p2 : Pos} (hK : X.K = G.K) (ha : EE X G a ma) (hl : EP' X G lo ml) (hh : EP' X G hi mh) : EE X G (.Subscript a (.Slice lo hi none p2) pos) (mSl ma ml mh) :=
  pe_imp (pe_slice or_sl ha hl hh) fun σ H Q h => by
    obtain ⟨W, env, s, hen, hs, h⟩ := h
    refine tM_bind hen hs h fun W1 H1 v x s1 e1 he1 hs1 rx _ h1 => ?_
    refine ⟨W1, env, s1, he1, hs1, ?_⟩
    cases q : ml env s1 with
    | ok l s2 =>
      rw [q] at h1
      intro W2 H2 e2 ws2
      have h2 := Aft.ext e2 h1
      simp only [bind_ok] at h2
      refine ⟨W2, env, s2, he1.ext e2, ws2, ?_⟩
      cases q2 : mh env s2 with
      | ok u s3 =>
        rw [q2] at h2
        intro W3 H3 e3 ws3
        have h3 := Aft.ext e3 h2
        simp only [bind_ok] at h3
        have rx3 := Rep.ext e3 _ _ (Rep.ext e2 _ _ rx)
        unfold opSl at h3
        split at h3
        · obtain ⟨p, vs, rfl, g1, _, r1⟩ := rep_lst rx3
          exact .inl ⟨p, vs, rfl, .inl (.inl g1), fun p' hp => h3.lst ws3 (r1.cut l u) hp⟩
        · split at h3
          · exact h3.elim
          · rename_i hz
            obtain ⟨p, vs, rfl, g1, r1⟩ := rep_tup rx3
            exact .inr (.inl ⟨p, vs, rfl, hK ▸ g1, by rw [r1.length]; exact hz, fun p' hp => h3.tup ws3 (r1.cut l u) hp⟩)
        · split at h3
          · rename_i hz
            exact .inr (.inr ⟨_, rep_str rx3, hz, h3.now ws3 (by simp)⟩)
          · exact h3.elim
        · exact h3.elim
      | exc x s' => rw [q2] at h2; exact h2
      | no => rw [q2] at h2; exact h2
    | exc x s' => rw [q] at h1; exact h1
    | no => rw [q] at h1; exact h1
@[simp] def mRev (m : VE → M D) : VE → M D := fun env s => (m env s).bind fun d s => match d with
  | .lst ds => .ok (.lst ds.reverse) s
  | _ => .no
theorem ee_rev {k : Nat} {p1 p2 p3 : Pos} (ha : EE X G a ma) : EE X G (.Subscript a (.Slice none none (some (.UnaryOp .USub (.Constant (.int 1) k p1) p2)) p3) pos) (mRev ma) :=
  pe_imp (pe_revL ha) fun σ H Q h => by
    obtain ⟨W, env, s, hen, hs, h⟩ := h
    refine tM_bind hen hs h fun W1 H1 v x s1 e1 he1 hs1 rx _ h1 => ?_
    split at h1
    · obtain ⟨p, vs, rfl, g1, _, r1⟩ := rep_lst rx
      exact ⟨p, vs, rfl, .inl (.inl g1), fun p' hp => h1.lst hs1 r1.reverse hp⟩
    · exact h1.elim
end
end
end L2.Mir

set_option Elab.async false
set_option linter.all false
set_option maxRecDepth 100000
namespace L2.Mir
open PySem PySem.Spec PyProof.Rows
noncomputable section

/-! ### targets -/
inductive Pat where
  | n (i : Nat) | t (ps : List Pat)
mutual
@[simp] def Pat.run : Pat → D → Option (List (Nat × D))
  | .n i, d => some [(i, d)]
  | .t ps, .tup ds => Pat.runs ps ds
  | .t _, _ => none
@[simp] def Pat.runs : List Pat → List D → Option (List (Nat × D))
  | [], [] => some []
  | p :: ps, d :: ds => match Pat.run p d, Pat.runs ps ds with
    | some a, some b => some (a ++ b)
    | _, _ => none
  | _, _ => none
end
mutual
def Pat.slots : Pat → List Nat
  | .n i => [i]
  | .t ps => Pat.slotss ps
def Pat.slotss : List Pat → List Nat
  | [] => []
  | p :: ps => Pat.slots p ++ Pat.slotss ps
end
def AsR (K : PySem.W.Frag) (W : Wd) (H : Hp) : List (Nat × D) → List (Nat × V) → Prop
  | [], bs => bs = []
  | (i, d) :: r, bs => ∃ v q, bs = (i, v) :: q ∧ Rep K W H d v ∧ AsR K W H r q
def setA (σ : L2.St) : List (Nat × V) → L2.St
  | [] => σ
  | (i, v) :: r => setA (σ.set i (some v)) r
@[simp] def setE (env : VE) : List (Nat × D) → VE
  | [] => env
  | (i, d) :: r => setE (env.set i (some d)) r
theorem setA_append (σ : L2.St) : ∀ (a b : List (Nat × V)), setA σ (a ++ b) = setA (setA σ a) b
  | [], b => rfl
  | (i, v) :: r, b => by simp only [List.cons_append, setA]; exact setA_append _ r b
section
variable {K : PySem.W.Frag} {W : Wd} {H : Hp}
theorem AsR.split : ∀ {a b : List (Nat × D)} {cs : List (Nat × V)}, AsR K W H (a ++ b) cs → ∃ c1 c2, cs = c1 ++ c2 ∧ AsR K W H a c1 ∧ AsR K W H b c2
  | [], b, cs, h => ⟨[], cs, rfl, rfl, h⟩
  | (i, d) :: r, b, cs, h => by
    simp only [List.cons_append, AsR] at h
    obtain ⟨v, q, rfl, h1, h2⟩ := h
    obtain ⟨c1, c2, rfl, g1, g2⟩ := AsR.split h2
    exact ⟨(i, v) :: c1, c2, rfl, by simp only [AsR]; exact ⟨v, c1, rfl, h1, g1⟩, g2⟩
theorem AsR.append : ∀ {a b : List (Nat × D)} {c1 c2 : List (Nat × V)}, AsR K W H a c1 → AsR K W H b c2 → AsR K W H (a ++ b) (c1 ++ c2)
  | [], b, c1, c2, h, g => by simp only [AsR] at h; subst h; exact g
  | (i, d) :: r, b, c1, c2, h, g => by
    simp only [AsR] at h
    obtain ⟨v, q, rfl, h1, h2⟩ := h
    simp only [List.cons_append, AsR]
    exact ⟨v, q ++ c2, rfl, h1, h2.append g⟩
/-- a value's places: what a target stores -/
def gP (K : PySem.W.Frag) (p : Pat) : TG := fun v σ H Q => ∃ W d as, Rep K W H d v ∧ p.run d = some as ∧ ∀ bs, AsR K W H as bs → Q (setA σ bs) H
def gPs (K : PySem.W.Frag) (ps : List Pat) : TGs := fun vs σ H Q => ∃ W ds as, Reps K W H ds vs ∧ Pat.runs ps ds = some as ∧ ∀ bs, AsR K W H as bs → Q (setA σ bs) H
end
section
variable {X : Cx} {K : PySem.W.Frag} {pos : Pos}
abbrev EG (X : Cx) (K : PySem.W.Frag) (tg : Expr) (p : Pat) : Prop := PG X tg (gP K p)
abbrev EGs (X : Cx) (K : PySem.W.Frag) (ts : List Expr) (ps : List Pat) : Prop := PGs X ts (gPs K ps)
theorem pg_imp {tg : Expr} {t t' : TG} (h : PG X tg t) (i : ∀ v σ H Q, t' v σ H Q → t v σ H Q) : PG X tg t' := ⟨fun pins s σ H v u Q I r q => h.run pins s σ H v u Q I r (i v σ H Q q)⟩
theorem pgs_imp {tg : List Expr} {t t' : TGs} (h : PGs X tg t) (i : ∀ v σ H Q, t' v σ H Q → t v σ H Q) : PGs X tg t' := ⟨fun pins s σ H v u Q I r q => h.run pins s σ H v u Q I r (i v σ H Q q)⟩
theorem eg_name {i : Nat} {x : Str} (hN : X.N.Nodup) (hi : X.N[i]? = some x := by rfl) (hx : Loc X.env.scope x := by first | exact .inl rfl | exact .inr rfl) (hf : X.fn x = true ∨ X.env.scope.names.lookup x = some .local := by first | exact .inl rfl | exact .inr rfl | assumption) : EG X K (.Name x pos) (.n i) :=
  pg_imp (pg_name hN hi hx hf) fun v σ H Q h => by
    obtain ⟨W, d, as, r, e, h⟩ := h
    simp only [Pat.run, Option.some.injEq] at e
    subst e
    exact h [(i, v)] (by simp only [AsR]; exact ⟨v, [], rfl, r, rfl⟩)
theorem egs_nil : EGs X K [] [] := pgs_imp pgs_nil fun vs σ H Q h => by
  obtain ⟨W, ds, as, r, e, h⟩ := h
  cases ds with
  | nil =>
    simp only [Pat.runs, Option.some.injEq] at e
    subst e
    simp only [Reps] at r
    subst r
    exact ⟨rfl, h [] (by simp only [AsR])⟩
  | cons _ _ => simp [Pat.runs] at e
/-- representations of the two heaps agree under a store to slots: nothing of the heap changes -/
theorem egs_cons {e : Expr} {es : List Expr} {p : Pat} {ps : List Pat} (h1 : EG X K e p) (h2 : EGs X K es ps) (hs : (assignEach (e :: es) X.env).map (·.2) = assign e X.env :: (assignEach es X.env).map (·.2) := by rfl) : EGs X K (e :: es) (p :: ps) :=
  pgs_imp (pgs_cons h1 h2 hs) fun vs σ H Q h => by
    obtain ⟨W, ds, as, r, q, h⟩ := h
    cases ds with
    | nil => simp [Pat.runs] at q
    | cons d ds =>
      simp only [Reps] at r
      obtain ⟨v, w, rfl, r1, r2⟩ := r
      simp only [Pat.runs] at q
      split at q
      · rename_i a b qa qb
        simp only [Option.some.injEq] at q
        subst q
        exact ⟨v, w, rfl, W, d, a, r1, qa, fun c1 g1 => ⟨W, ds, b, r2, qb, fun c2 g2 => by rw [← setA_append]; exact h _ (g1.append g2)⟩⟩
      · cases q
theorem runs_len : ∀ {ps : List Pat} {ds : List D} {as : List (Nat × D)}, Pat.runs ps ds = some as → ds.length = ps.length
  | [], [], _, _ => rfl
  | [], _ :: _, _, h => by simp [Pat.runs] at h
  | _ :: _, [], _, h => by simp [Pat.runs] at h
  | p :: ps, d :: ds, _, h => by
    simp only [Pat.runs] at h
    split at h
    · rename_i a b qa qb
      simp [runs_len qb]
    · cases h
theorem eg_tup {es : List Expr} {k : Nat} {ps : List Pat} (hK : X.K = K) (hc : X.calm = true) (h : EGs X K es ps) (hn : (assignEach es X.env).length = ps.length := by rfl) (hst : (assignEach es X.env).findIdx? (·.1) = none := by rfl) : EG X K (.Tuple es k pos) (.t ps) :=
  pg_imp (pg_tup hc h hn hst) fun v σ H Q h => by
    obtain ⟨W, d, as, r, q, h⟩ := h
    cases d with
    | tup ds =>
      obtain ⟨a, vs, rfl, hs, rs⟩ := rep_tup r
      simp only [Pat.run] at q
      exact ⟨a, vs, rfl, hK ▸ hs, by rw [rs.length, runs_len q], W, ds, as, rs, q, h⟩
    | _ => simp [Pat.run] at q
end

/-! ### what is walked -/
/-- an iterator gives these data, one after another, as long as the pinned value stands -/
def Feed (K : PySem.W.Frag) (J : It) (d0 : D) (v0 : V) (ds : List D) : Prop := ∀ W H, Rep K W H d0 v0 →
  (∀ (i : Nat) (d : D), ds[i]? = some d → J.go i H ∧ ∀ x H', J.yld i H x H' → Ext W H W H' ∧ (∀ s, WS W s H → WS W s H') ∧ Rep K W H' d x) ∧ J.stop ds.length H
def AftI (G : Gx) (W : Wd) (H : Hp) (r : Res (List D)) (R : It → Hp → Prop) : Prop := match r with
  | .ok ds s' => ∀ W' H' J d0 v0, Ext W H W' H' → WS W' s' H' → Rep G.K W' H' d0 v0 → Feed G.K J d0 v0 ds → R J H'
  | .exc x s' => ∀ W' H' c dd, Ext W H W' H' → WS W' s' H' → G.xr G.K x c dd H' → G.E c dd H'
  | .no => False
theorem AftI.ext {G : Gx} {W W' : Wd} {H H' : Hp} {r : Res (List D)} {R : It → Hp → Prop} (e : Ext W H W' H') (h : AftI G W H r R) : AftI G W' H' r R := by
  cases r with
  | ok d s => exact fun W2 H2 J d0 v0 e2 ws rp f => h W2 H2 J d0 v0 (e.trans e2) ws rp f
  | exc x s => exact fun W2 H2 c dd e2 ws rp => h W2 H2 c dd (e.trans e2) ws rp
  | no => exact h
theorem AftI.now {G : Gx} {W : Wd} {H : Hp} {s : DS} {ds : List D} {R : It → Hp → Prop} {J : It} {d0 : D} {v0 : V} (h : AftI G W H (.ok ds s) R) (hs : WS W s H) (r : Rep G.K W H d0 v0) (f : Feed G.K J d0 v0 ds) : R J H := h W H J d0 v0 (Ext.refl W H) hs r f
def tMI (G : Gx) (m : VE → M (List D)) : TI := fun σ H R => ∃ W env s, EnvR G.K W H σ env ∧ WS W s H ∧ AftI G W H (m env s) R
theorem tML_bindI {G : Gx} {W : Wd} {H : Hp} {σ : L2.St} {env : VE} {s : DS} {m : VE → M (List D)} {f : List D → DS → Res (List D)} {R0 : It → Hp → Prop} {R : List V → Hp → Prop} (he : EnvR G.K W H σ env) (hs : WS W s H) (h : AftI G W H ((m env s).bind f) R0)
    (k : ∀ W' H' vs ds s', Ext W H W' H' → EnvR G.K W' H' σ env → WS W' s' H' → Reps G.K W' H' ds vs → m env s = .ok ds s' → AftI G W' H' (f ds s') R0 → R vs H') : tML G m σ H R := by
  refine ⟨W, env, s, he, hs, ?_⟩
  cases q : m env s with
  | ok d s' =>
    rw [q] at h
    exact fun W' H' v e ws rp => k W' H' v d s' e (he.ext e) ws rp q (AftI.ext e h)
  | exc x s' => rw [q] at h; exact h
  | no => rw [q] at h; exact h
theorem tM_bindI {G : Gx} {W : Wd} {H : Hp} {σ : L2.St} {env : VE} {s : DS} {m : VE → M D} {f : D → DS → Res (List D)} {R0 : It → Hp → Prop} {R : VK} (he : EnvR G.K W H σ env) (hs : WS W s H) (h : AftI G W H ((m env s).bind f) R0)
    (k : ∀ W' H' v d s', Ext W H W' H' → EnvR G.K W' H' σ env → WS W' s' H' → Rep G.K W' H' d v → m env s = .ok d s' → AftI G W' H' (f d s') R0 → R v H') : tM G m σ H R := by
  refine ⟨W, env, s, he, hs, ?_⟩
  cases q : m env s with
  | ok d s' =>
    rw [q] at h
    exact fun W' H' v e ws rp => k W' H' v d s' e (he.ext e) ws rp q (AftI.ext e h)
  | exc x s' => rw [q] at h; exact h
  | no => rw [q] at h; exact h
abbrev EI (X : Cx) (G : Gx) (tg iter : Expr) (m : VE → M (List D)) : Prop := PI X tg iter (tMI G m)
section
variable {X : Cx} {G : Gx} {tg l a b : Expr} {m ma mb : VE → M D} {pos p : Pos}
theorem pi_imp {iter : Expr} {t t' : TI} (h : PI X tg iter t) (i : ∀ σ H R, t' σ H R → t σ H R) : PI X tg iter t' := ⟨fun pins s σ H R I q => h.run pins s σ H R I (i σ H R q)⟩
theorem feed_tup {K : PySem.W.Frag} {a : Addr} {ds : List D} {vs0 : List V} : Feed K (Itt K a) (.tup ds) (.ref a) ds := fun W H r => by
  obtain ⟨a', vs, e, hs, rs⟩ := rep_tup r
  cases e
  refine ⟨fun i d hd => ?_, vs, hs, by rw [rs.length]; exact Nat.le_refl _⟩
  obtain ⟨v, hv, rv⟩ := rs.get hd
  refine ⟨⟨vs, v, hs, hv⟩, fun x H' hy => ?_⟩
  obtain ⟨rfl, f⟩ := hy
  have := (f vs hs).symm.trans hv
  cases this
  exact ⟨Ext.refl _ _, fun _ h => h, rv⟩
theorem feed_lst {K : PySem.W.Frag} {a : Addr} {ds : List D} : Feed K (Itl K a) (.lst ds) (.ref a) ds := fun W H r => by
  obtain ⟨a', vs, e, hs, _, rs⟩ := rep_lst r
  cases e
  have hs : SqL K H a vs := .inl (.inl hs)
  refine ⟨fun i d hd => ?_, vs, hs, by rw [rs.length]; exact Nat.le_refl _⟩
  obtain ⟨v, hv, rv⟩ := rs.get hd
  refine ⟨⟨vs, v, hs, hv⟩, fun x H' hy => ?_⟩
  obtain ⟨rfl, f⟩ := hy
  have := (f vs hs).symm.trans hv
  cases this
  exact ⟨Ext.refl _ _, fun _ h => h, rv⟩
theorem feed_rng {K : PySem.W.Frag} {lo : Int} {n : Nat} : Feed K (Itr lo n) .non .non ((List.range n).map fun (i : Nat) => .int (lo + i)) := fun W H r => by
  refine ⟨fun i d hd => ?_, by simp [Itr]⟩
  rw [List.getElem?_map] at hd
  cases q : (List.range n)[i]? with
  | none => rw [q] at hd; cases hd
  | some j =>
    rw [q] at hd
    obtain ⟨hi, hj⟩ := List.getElem?_eq_some_iff.mp q
    simp only [List.length_range] at hi
    simp only [List.getElem_range] at hj
    subst hj
    simp only [Option.map_some, Option.some.injEq] at hd
    subst hd
    refine ⟨hi, fun x H' hy => ?_⟩
    obtain ⟨rfl, rfl⟩ := hy
    exact ⟨Ext.refl _ _, fun _ h => h, by simp⟩
theorem feed_str {K : PySem.W.Frag} {x : Str} : Feed K (Its x) .non .non (x.cps.toList.map fun c => .str ⟨#[c]⟩) := fun W H r => by
  refine ⟨fun i d hd => ?_, by simp [Its]⟩
  rw [List.getElem?_map] at hd
  cases q : x.cps.toList[i]? with
  | none => rw [q] at hd; cases hd
  | some j =>
    rw [q] at hd
    simp only [Option.map_some, Option.some.injEq] at hd
    subst hd
    have q' : x.cps[i]? = some j := by simpa using q
    obtain ⟨hi, _⟩ := Array.getElem?_eq_some_iff.mp q'
    refine ⟨hi, fun v H' hy => ?_⟩
    obtain ⟨rfl, c, hc, rfl⟩ := hy
    rw [q'] at hc
    cases hc
    exact ⟨Ext.refl _ _, fun _ h => h, by simp⟩
/-- a list, a tuple, a text -/
@[simp] def mSeq (m : VE → M D) : VE → M (List D) := fun env s => (m env s).bind fun d s => match d with
  | .tup ds => .ok ds s
  | .lst ds => .ok ds s
  | .str x => .ok (x.cps.toList.map fun c => .str ⟨#[c]⟩) s
  | _ => .no
theorem pi_or {iter : Expr} {w1 w2 : TI} (h1 : PI X tg iter w1) (h2 : PI X tg iter w2) : PI X tg iter (fun σ H R => w1 σ H R ∨ w2 σ H R) := ⟨fun pins s σ H R I q => q.elim (h1.run pins s σ H R I) (h2.run pins s σ H R I)⟩
theorem ei_seq (hK : X.K = G.K) (h : EE X G l m) : EI X G tg l (mSeq m) :=
  pi_imp (pi_or (pi_list h) (pi_or (pi_tup h) (pi_str h))) fun σ H R h => by
    obtain ⟨W, env, s, hen, hs, h⟩ := h
    unfold mSeq at h
    cases q : m env s with
    | ok d s' =>
      have h0 := h
      rw [q] at h
      cases d with
      | tup ds =>
        refine .inr (.inl (tM_bindI hen hs h0 fun W1 H1 v x s1 e1 he1 hs1 rx q1 h1 => ?_))
        rw [q] at q1; cases q1
        obtain ⟨a, vs, rfl, hq, rs⟩ := rep_tup rx
        exact ⟨a, rfl, ⟨vs, hK ▸ hq⟩, h1.now hs1 rx (hK ▸ feed_tup (vs0 := vs))⟩
      | lst ds =>
        refine .inl (tM_bindI hen hs h0 fun W1 H1 v x s1 e1 he1 hs1 rx q1 h1 => ?_)
        rw [q] at q1; cases q1
        obtain ⟨a, vs, rfl, hq, _, rs⟩ := rep_lst rx
        exact ⟨a, rfl, ⟨vs, .inl (.inl hq)⟩, h1.now hs1 rx (hK ▸ feed_lst)⟩
      | str x =>
        refine .inr (.inr (tM_bindI hen hs h0 fun W1 H1 v x s1 e1 he1 hs1 rx q1 h1 => ?_))
        rw [q] at q1; cases q1
        exact ⟨_, rep_str rx, h1.now hs1 (d0 := .non) (v0 := .non) (by simp) feed_str⟩
      | _ => exact h.elim
    | exc x s' =>
      rw [q] at h
      exact .inl ⟨W, env, s, hen, hs, by rw [q]; exact h⟩
    | no => rw [q] at h; exact h.elim
/-- range -/
def rngD (lo hi : Int) : List D := (List.range (hi - lo).toNat).map fun (i : Nat) => .int (lo + i)
@[simp] def bRng1 (ds : List D) : M (List D) := fun s => match ds with
  | [.int j] => if RngOk j then .ok (rngD 0 j) s else .no
  | _ => .no
@[simp] def bRng2 (ds : List D) : M (List D) := fun s => match ds with
  | [.int i, .int j] => if RngOk i ∧ RngOk j then .ok (rngD i j) s else .no
  | _ => .no
@[simp] def mRng1 (l : VE → M (List D)) : VE → M (List D) := fun env s => (l env s).bind bRng1
@[simp] def mRng2 (l : VE → M (List D)) : VE → M (List D) := fun env s => (l env s).bind bRng2
theorem ei_rng1 {ml : VE → M (List D)} (hm : X.mg "range" = none) (ha : EA X G [a] ml) (hg : Gl X "range" := by rfl) (hs : starEach [a] X.env = [(false, eval a X.env)] := by rfl) : EI X G tg (.Call (.Name "range" p) [a] [] pos) (mRng1 ml) :=
  pi_imp (pi_range1 hg hm ha hs) fun σ H R h => by
    obtain ⟨W, env, s, hen, hs, h⟩ := h
    refine tML_bindI hen hs h fun W1 H1 vs ds s1 e1 he1 hs1 rs q h1 => ?_
    unfold bRng1 at h1
    split at h1
    · split at h1
      · rename_i j hz
        obtain ⟨v, rfl, r⟩ := rs.one
        refine ⟨j, by rw [rep_int r], by have := hz.1; omega, by have := hz.2; omega, h1.now hs1 (d0 := .non) (v0 := .non) (by simp) ?_⟩
        unfold rngD
        rw [Int.sub_zero]
        exact feed_rng
      · exact h1.elim
    · exact h1.elim
theorem ei_rng2 {ml : VE → M (List D)} (hm : X.mg "range" = none) (ha : EA X G [a, b] ml) (hg : Gl X "range" := by rfl) (hs : starEach [a, b] X.env = [(false, eval a X.env), (false, eval b X.env)] := by rfl) (hs2 : starEach [b] X.env = [(false, eval b X.env)] := by rfl) :
    EI X G tg (.Call (.Name "range" p) [a, b] [] pos) (mRng2 ml) :=
  pi_imp (pi_range2 hg hm ha hs hs2) fun σ H R h => by
    obtain ⟨W, env, s, hen, hs, h⟩ := h
    refine tML_bindI hen hs h fun W1 H1 vs ds s1 e1 he1 hs1 rs q h1 => ?_
    unfold bRng2 at h1
    split at h1
    · split at h1
      · rename_i i j hz
        obtain ⟨v, v', rfl, r, r'⟩ := rs.two
        exact ⟨i, j, by rw [rep_int r, rep_int r'], ⟨by have := hz.1.1; omega, by have := hz.1.2; omega, by have := hz.2.1; omega, by have := hz.2.2; omega⟩, h1.now hs1 (d0 := .non) (v0 := .non) (by simp) feed_rng⟩
      · exact h1.elim
    · exact h1.elim
end

/-! ### comprehensions -/
@[simp] def wipeE (env : VE) : List Nat → VE
  | [] => env
  | v :: vs => (wipeE env vs).set v none
@[simp] def tsYes : VE → M Bool := fun _ s => .ok true s
abbrev ETs (X : Cx) (G : Gx) (ifs : List Expr) (m : VE → M Bool) : Prop := PTs X ifs (tMT G m)
theorem pts_imp {X : Cx} {e : List Expr} {t t' : TT} (h : PTs X e t) (i : ∀ σ H Q, t' σ H Q → t σ H Q) : PTs X e t' := ⟨fun pins s σ H Q I q => h.run pins s σ H Q I (i σ H Q q)⟩
theorem ets_nil {X : Cx} {G : Gx} : ETs X G [] tsYes := pts_imp pts_nil fun σ H Q h => by
  obtain ⟨W, env, s, hen, hs, h⟩ := h
  exact h.now hs
theorem ets_one {X : Cx} {G : Gx} {c : Expr} {m : VE → M Bool} (h : ET X G c m) : ETs X G [c] m := pts_one h
/-- one turn -/
@[simp] def lcF (p : Pat) (tt : VE → M Bool) (te : VE → M D) (env : VE) (d : D) : M (Option D) := fun s => match p.run d with
  | none => .no
  | some as => (tt (setE env as) s).bind fun b s => if b = true then (te (setE env as) s).bind fun y s => .ok (some y) s else .ok none s
def lcGo (f : D → M (Option D)) : List D → M (List D)
  | [], s => .ok [] s
  | d :: r, s => (f d s).bind fun o s => (lcGo f r s).bind fun ys s => .ok (match o with | some y => y :: ys | none => ys) s
@[simp] def mLc (p : Pat) (vs : List Nat) (mi : VE → M (List D)) (tt : VE → M Bool) (te : VE → M D) : VE → M D := fun env s => (mi env s).bind fun ds s =>
  if LenOk ds.length then noX ((lcGo (lcF p tt te (wipeE env vs)) ds s).bind fun ys s => .ok (.lst ys) s) else .no

theorem getElem?_setNone {α : Type} (l : List (Option α)) (j i : Nat) (d : α) : (l.set j none)[i]? = some (some d) → l[i]? = some (some d) ∧ i ≠ j := fun h => by
  by_cases e : j = i
  · subst e
    by_cases hl : j < l.length
    · rw [List.getElem?_set_self hl] at h; cases h
    · rw [List.getElem?_eq_none (by simpa using hl)] at h; cases h
  · rw [List.getElem?_set_ne e] at h
    exact ⟨h, fun z => e z.symm⟩
theorem wipe_get {σ : L2.St} {i : Nat} : ∀ {vs : List Nat}, i ∉ vs → (wipe σ vs)[i]? = σ[i]?
  | [], _ => rfl
  | v :: vs, h => by
    simp only [List.mem_cons, not_or] at h
    unfold wipe
    rw [List.getElem?_set_ne (fun e => h.1 e.symm)]
    exact wipe_get h.2
section
variable {K : PySem.W.Frag} {W : Wd} {H : Hp} {σ : L2.St} {env : VE}
theorem wipeE_some {i : Nat} {d : D} : ∀ {vs : List Nat}, (wipeE env vs)[i]? = some (some d) → env[i]? = some (some d) ∧ i ∉ vs
  | [], h => ⟨h, by simp⟩
  | v :: vs, h => by
    unfold wipeE at h
    obtain ⟨h1, h2⟩ := getElem?_setNone _ _ _ _ h
    obtain ⟨h3, h4⟩ := wipeE_some h1
    exact ⟨h3, by simp only [List.mem_cons, not_or]; exact ⟨h2, h4⟩⟩
theorem wipeE_length : ∀ vs : List Nat, (wipeE env vs).length = env.length
  | [] => rfl
  | v :: vs => by unfold wipeE; rw [List.length_set, wipeE_length vs]
theorem EnvR.wipe (h : EnvR K W H σ env) (vs : List Nat) : EnvR K W H (wipe σ vs) (wipeE env vs) := by
  refine ⟨by rw [wipe_length, wipeE_length, h.1], fun i d q => ?_⟩
  obtain ⟨q1, q2⟩ := wipeE_some q
  obtain ⟨v, h1, h2⟩ := h.2 i d q1
  exact ⟨v, by rw [wipe_get q2]; exact h1, h2⟩
theorem EnvR.set {i : Nat} {d : D} {v : V} (h : EnvR K W H σ env) (r : Rep K W H d v) : EnvR K W H (σ.set i (some v)) (env.set i (some d)) := by
  refine ⟨by simp [h.1], fun j e q => ?_⟩
  by_cases hj : i = j
  · subst hj
    by_cases hl : i < env.length
    · rw [List.getElem?_set_self hl] at q
      cases q
      exact ⟨v, List.getElem?_set_self (by rw [h.1]; exact hl), r⟩
    · rw [List.getElem?_eq_none (by simpa using hl)] at q; cases q
  · rw [List.getElem?_set_ne hj] at q
    obtain ⟨w, h1, h2⟩ := h.2 j e q
    exact ⟨w, by rw [List.getElem?_set_ne hj]; exact h1, h2⟩
end
theorem EnvR.setA {K : PySem.W.Frag} {W : Wd} {H : Hp} : ∀ {as : List (Nat × D)} {bs : List (Nat × V)} {σ : L2.St} {env : VE}, EnvR K W H σ env → AsR K W H as bs → EnvR K W H (setA σ bs) (setE env as)
  | [], bs, σ, env, h, g => by simp only [AsR] at g; subst g; exact h
  | (i, d) :: r, bs, σ, env, h, g => by
    simp only [AsR] at g
    obtain ⟨v, q, rfl, h1, h2⟩ := g
    show EnvR K W H (L2.Mir.setA (σ.set i (some v)) q) (setE (env.set i (some d)) r)
    exact EnvR.setA (h.set h1) h2
theorem wipe_set {vs : List Nat} : ∀ {i : Nat} {σ : L2.St} {o : Option V}, i ∈ vs → wipe (σ.set i o) vs = wipe σ vs := by
  have comm : ∀ (vs : List Nat) (σ : L2.St) (i : Nat) (o : Option V), i ∉ vs → wipe (σ.set i o) vs = (wipe σ vs).set i o := by
    intro vs
    induction vs with
    | nil => intro σ i o _; rfl
    | cons v vs ih =>
      intro σ i o h
      simp only [List.mem_cons, not_or] at h
      simp only [wipe]
      rw [ih σ i o h.2, List.set_comm _ _ h.1]
  induction vs with
  | nil => intro i σ o h; cases h
  | cons v vs ih =>
    intro i σ o h
    simp only [wipe]
    by_cases hi : i ∈ vs
    · rw [ih hi]
    · have e : i = v := (List.mem_cons.mp h).elim id fun z => absurd z hi
      subst e
      rw [comm vs σ i o hi, List.set_set]
theorem wipe_wipe {vs : List Nat} {σ : L2.St} : wipe (wipe σ vs) vs = wipe σ vs := by
  have key : ∀ (us : List Nat) (σ : L2.St), (∀ u ∈ us, u ∈ vs) → wipe (wipe σ us) vs = wipe σ vs := by
    intro us
    induction us with
    | nil => intro σ _; rfl
    | cons u us ih =>
      intro σ h
      simp only [wipe]
      rw [wipe_set (h u List.mem_cons_self), ih σ fun x hx => h x (List.mem_cons_of_mem _ hx)]
  exact key vs σ fun _ h => h
theorem wipe_setA {vs : List Nat} : ∀ {bs : List (Nat × V)} {σ : L2.St}, (∀ q ∈ bs, q.1 ∈ vs) → wipe (setA σ bs) vs = wipe σ vs
  | [], σ, _ => rfl
  | (i, v) :: r, σ, h => by
    simp only [setA]
    rw [wipe_setA fun q hq => h q (List.mem_cons_of_mem _ hq), wipe_set (h (i, v) List.mem_cons_self)]
mutual
theorem run_slots : ∀ {p : Pat} {d : D} {as : List (Nat × D)}, p.run d = some as → as.map (·.1) = p.slots
  | .n i, d, as, h => by simp only [Pat.run, Option.some.injEq] at h; subst h; rfl
  | .t ps, .tup ds, as, h => by simp only [Pat.run] at h; simp only [Pat.slots]; exact runs_slots h
  | .t _, .non, _, h => by simp [Pat.run] at h
  | .t _, .bl _, _, h => by simp [Pat.run] at h
  | .t _, .int _, _, h => by simp [Pat.run] at h
  | .t _, .str _, _, h => by simp [Pat.run] at h
  | .t _, .lst _, _, h => by simp [Pat.run] at h
  | .t _, .st, _, h => by simp [Pat.run] at h
  | .t _, .dic _ _, _, h => by simp [Pat.run] at h
  | .t _, .dicT _ _, _, h => by simp [Pat.run] at h
theorem runs_slots : ∀ {ps : List Pat} {ds : List D} {as : List (Nat × D)}, Pat.runs ps ds = some as → as.map (·.1) = Pat.slotss ps
  | [], [], as, h => by simp only [Pat.runs, Option.some.injEq] at h; subst h; rfl
  | [], _ :: _, _, h => by simp [Pat.runs] at h
  | _ :: _, [], _, h => by simp [Pat.runs] at h
  | p :: ps, d :: ds, as, h => by
    simp only [Pat.runs] at h
    split at h
    · rename_i a b qa qb
      simp only [Option.some.injEq] at h
      subst h
      simp only [List.map_append, Pat.slotss]
      rw [run_slots qa, runs_slots qb]
    · cases h
end
theorem AsR.slots {K : PySem.W.Frag} {W : Wd} {H : Hp} : ∀ {as : List (Nat × D)} {bs : List (Nat × V)}, AsR K W H as bs → bs.map (·.1) = as.map (·.1)
  | [], bs, h => by simp only [AsR] at h; subst h; rfl
  | (i, d) :: r, bs, h => by
    simp only [AsR] at h
    obtain ⟨v, q, rfl, _, h2⟩ := h
    simp [AsR.slots h2]

/-- a fresh list that no value leans on may change -/
theorem Mn.updFree {W : Wd} {H : Hp} {p : Addr} {o : HO} {xs : List V} (hp : H p = some (.lst xs)) (nf : ¬ W.F p) : Mn W H W (upd H p o) where
  tups := fun a ys h => by
    have ne : a ≠ p := fun e => by
      subst e
      rcases h with h | ⟨b, h⟩ <;> (rw [hp] at h; cases h)
    rcases h with h | ⟨b, h⟩
    · exact .inl (by rw [upd_ne ne]; exact h)
    · exact .inr ⟨b, by rw [upd_ne ne]; exact h⟩
  frs := fun a u f h => by
    have ne : a ≠ p := fun e => nf (e ▸ f)
    rw [upd_ne ne]; exact h
  fsub := fun _ h => h
  ssub := fun _ h => h
theorem WS.updFree {W : Wd} {H : Hp} {s : DS} {p : Addr} {o : HO} (h : WS W s H) (n : ¬ W.isS p) : WS W s (upd H p o) := by
  refine ⟨fun a f => dom_upd (h.1 a f), ?_⟩
  rcases h.2 with h | ⟨sa, ca, i, cells, h0, h00, h1, h2, h3, h4, h5⟩
  · exact .inl h
  · exact .inr ⟨sa, ca, i, cells, h0, h00, by rw [upd_ne fun e => n ⟨_, h0, .inl e.symm⟩]; exact h1, by rw [upd_ne fun e => n ⟨_, h0, .inr e.symm⟩]; exact h2, h3, h4, h5⟩
/-- .. as seen from a heap in which it was not yet there -/
theorem Ext.updFree {W W' : Wd} {H H' : Hp} {p : Addr} {o : HO} {xs : List V} (e : Ext W H W' H') (n : H p = none) : Ext W H W' (upd H' p o) where
  keep := fun a u h ns => by rw [upd_ne (ne_of_none h n)]; exact e.keep a u h ns
  tups := fun a ys h => by
    have ne : a ≠ p := by rcases h with h | ⟨b, h⟩ <;> exact ne_of_none h n
    rcases e.tups a ys h with q | ⟨b, q⟩
    · exact .inl (by rw [upd_ne ne]; exact q)
    · exact .inr ⟨b, by rw [upd_ne ne]; exact q⟩
  frs := fun a u f h => by rw [upd_ne (ne_of_none h n)]; exact e.frs a u f h
  dom := fun a h => by
    by_cases q : a = p
    · subst q; exact n
    · rw [upd_ne q] at h; exact e.dom a h
  fsub := e.fsub
  fnew := e.fnew
  ssub := e.ssub
  snew := e.snew
theorem Ext.addF {W W' : Wd} {H H' : Hp} {p : Addr} (e : Ext W H W' H') (n : H p = none) : Ext W H (W'.add p) H' where
  keep := e.keep
  tups := e.tups
  frs := e.frs
  dom := e.dom
  fsub := fun a h => .inl (e.fsub a h)
  fnew := fun a h => h.elim (e.fnew a) fun q => .inr (q ▸ n)
  ssub := e.ssub
  snew := e.snew
theorem WS.addF {W : Wd} {H : Hp} {s : DS} {p : Addr} {o : HO} (h : WS W s H) (hp : H p = some o) (n : ¬ W.isS p) : WS (W.add p) s H := by
  refine ⟨fun a f => f.elim (h.1 a) fun e => ⟨o, by rw [e]; exact hp⟩, ?_⟩
  rcases h.2 with h | ⟨sa, ca, i, cells, h0, h00, h1, h2, h3, h4, h5⟩
  · exact .inl h
  · exact .inr ⟨sa, ca, i, cells, h0, h00, h1, h2, h3, fun z => z.elim h4 fun e => n ⟨_, h0, .inl e.symm⟩, fun z => z.elim h5 fun e => n ⟨_, h0, .inr e.symm⟩⟩
theorem Mn.addF {W : Wd} {H : Hp} {p : Addr} : Mn W H (W.add p) H := ⟨fun _ _ h => h, fun _ _ _ h => h, fun _ h => .inl h, fun _ h => h⟩
/-- what is not tracked is neither frozen nor the state -/
theorem Ext.notS {W W' : Wd} {H H' : Hp} {p : Addr} {o : HO} (e : Ext W H W' H') (h : H p = some o) (n : ¬ W.isS p) : ¬ W'.isS p := e.isS h n
theorem Ext.notF {W W' : Wd} {H H' : Hp} {p : Addr} {o : HO} (e : Ext W H W' H') (h : H p = some o) (n : ¬ W.F p) : ¬ W'.F p := fun z => by
  rcases e.fnew p z with q | q
  · exact n q
  · rw [q] at h; cases h
/-- what is free is not the state -/
theorem WS.freeS {W : Wd} {H : Hp} {s : DS} {p : Addr} (h : WS W s H) (n : H p = none) : ¬ W.isS p := by
  rintro ⟨q, hq, hp⟩
  rcases h.2 with ⟨h, _⟩ | ⟨sa, ca, i, cells, h0, h00, h1, h2, h3, h4, h5⟩
  · rw [h] at hq; cases hq
  · rw [h0] at hq; cases hq
    rcases hp with rfl | rfl
    · rw [n] at h1; cases h1
    · rw [n] at h2; cases h2
theorem WS.freeF {W : Wd} {H : Hp} {s : DS} {p : Addr} (h : WS W s H) (n : H p = none) : ¬ W.F p := fun f => by
  obtain ⟨o, q⟩ := h.1 p f
  rw [n] at q; cases q

/-! ### the comprehension -/
section
variable {X : Cx} {G : Gx}
/-- the reading of a loop that fills the new list at L -/
theorem lc_read {p : Pat} {vs : List Nat} {tt : VE → M Bool} {te : VE → M D} {ds : List D} {σ : L2.St} {env : VE} {W : Wd} {H : Hp} {s : DS} {Q : VK} {J : It} {d0 : D} {v0 : V} {L : Addr}
    (hv : ∀ i ∈ p.slots, i ∈ vs) (hen : EnvR G.K W H σ env) (hs : WS W s H) (r0 : Rep G.K W H d0 v0) (F : Feed G.K J d0 v0 ds) (hz : ds.length ≤ sizeLine) (hL : H L = none) {all : List D} {sE : DS}
    (hgo : lcGo (lcF p tt te (wipeE env vs)) ds s = .ok all sE)
    (fin : ∀ W' H' us, Ext W H W' H' → WS W' sE H' → H' L = some (.lst us) → Reps G.K W' H' all us → ¬ W'.F L → ¬ W'.isS L → Q (.ref L) H') :
    ∃ Wm : Nat → Nat → Hp → Prop, (∃ m, Wm 0 m (upd H L (.lst []))) ∧ ∀ i m H, Wm i m H → (J.stop i H ∧ Q (.ref L) H) ∨ (J.go i H ∧ ∃ Nx : Hp → Prop, (∀ H', Nx H' → ∃ m', m' < m ∧ Wm (i + 1) m' H') ∧ ∀ x H', J.yld i H x H' → gP G.K p x (wipe σ vs) H' fun σ2 H2 => wipe σ2 vs = wipe σ vs ∧ tMT G tt σ2 H2 fun b H3 =>
      if b = true then tM G te σ2 H3 fun y H4 => ∃ acc, H4 L = some (.lst acc) ∧ acc.length < sizeLine ∧ Nx (upd H4 L (.lst (acc ++ [y]))) else Nx H3) := by
  have nS := hs.freeS hL
  have nF := hs.freeF hL
  let f := lcF p tt te (wipeE env vs)
  let P : Nat → Hp → Prop := fun i H' => ∃ W' s' acc us rem, Ext W H W' H' ∧ WS W' s' H' ∧ H' L = some (.lst us) ∧ Reps G.K W' H' acc us ∧ acc.length ≤ i ∧ ¬ W'.F L ∧ ¬ W'.isS L ∧
    lcGo f (ds.drop i) s' = .ok rem sE ∧ acc ++ rem = all
  refine ⟨fun i m H' => m = ds.length - i ∧ i ≤ ds.length ∧ P i H', ⟨_, rfl, Nat.zero_le _, W, s, [], [], all, Ext.new hL, WS.new hL hs, upd_same, by simp [Reps], by simp, nF, nS, by simpa using hgo, by simp⟩, ?_⟩
  rintro i m H1 ⟨rfl, hi, W1, s1, acc, us, rem, e1, ws1, hD, ra, la, nF1, nS1, h1, hall⟩
  have r1 := Rep.ext e1 _ _ r0
  obtain ⟨F1, F2⟩ := F W1 H1 r1
  by_cases hlt : i < ds.length
  · refine .inr ?_
    have hd : ds[i]? = some ds[i] := List.getElem?_eq_getElem hlt
    obtain ⟨go, yl⟩ := F1 i _ hd
    refine ⟨go, P (i + 1), fun H' q => ⟨ds.length - (i + 1), by omega, rfl, by omega, q⟩, fun x H2 hy => ?_⟩
    obtain ⟨e2, w2, rx⟩ := yl x H2 hy
    have ws2 := w2 s1 ws1
    rw [List.drop_eq_getElem_cons hlt] at h1
    simp only [lcGo] at h1
    have hen2 : EnvR G.K W1 H2 (wipe σ vs) (wipeE env vs) := ((hen.ext e1).ext e2).wipe vs
    -- one turn
    cases q1 : f ds[i] s1 with
    | no => rw [q1] at h1; cases h1
    | exc x' s' => rw [q1] at h1; cases h1
    | ok o s5 =>
      rw [q1] at h1
      simp only [bind_ok] at h1
      cases q7 : lcGo f (ds.drop (i + 1)) s5 with
      | no => rw [q7] at h1; cases h1
      | exc x' s' => rw [q7] at h1; cases h1
      | ok ys s6 =>
        rw [q7] at h1
        simp only [bind_ok, Res.ok.injEq] at h1
        obtain ⟨hrem, rfl⟩ := h1
        have q1' : lcF p tt te (wipeE env vs) ds[i] s1 = .ok o s5 := q1
        unfold lcF at q1'
        split at q1'
        · cases q1'
        · rename_i as qa
          refine ⟨W1, ds[i], as, rx, qa, fun bs hb => ⟨?_, ?_⟩⟩
          · rw [wipe_setA (fun q hq => hv _ ?_), wipe_wipe]
            have : q.1 ∈ bs.map (·.1) := List.mem_map_of_mem hq
            rw [hb.slots, run_slots qa] at this
            exact this
          · have hen3 := hen2.setA hb
            refine ⟨W1, _, s1, hen3, ws2, ?_⟩
            cases q2 : tt (setE (wipeE env vs) as) s1 with
            | no => rw [q2] at q1'; cases q1'
            | exc x' s' => rw [q2] at q1'; cases q1'
            | ok b s3 =>
              rw [q2] at q1'
              simp only [bind_ok] at q1'
              intro W3 H3 e3 ws3
              have hD3 : H3 L = some (.lst us) := e3.keep L _ (e2.keep L _ hD nS1) nS1
              have nS3 : ¬ W3.isS L := e3.isS (e2.keep L _ hD nS1) nS1
              have nF3 : ¬ W3.F L := e3.notF (e2.keep L _ hD nS1) nF1
              have ra3 := Reps.ext e3 _ _ (Reps.ext e2 _ _ ra)
              cases b with
              | true =>
                rw [if_pos rfl] at q1' ⊢
                cases q3 : te (setE (wipeE env vs) as) s3 with
                | no => rw [q3] at q1'; cases q1'
                | exc x' s' => rw [q3] at q1'; cases q1'
                | ok y s4 =>
                  rw [q3] at q1'
                  simp only [bind_ok, Res.ok.injEq] at q1'
                  obtain ⟨rfl, rfl⟩ := q1'
                  refine ⟨W3, _, s3, hen3.ext e3, ws3, ?_⟩
                  rw [q3]
                  intro W4 H4 v4 e4 ws4 r4
                  have hD4 := e4.keep L _ hD3 nS3
                  have nS4 := e4.isS hD3 nS3
                  have nF4 := e4.notF hD3 nF3
                  have ra4 := Reps.ext e4 _ _ ra3
                  have l4 := ra4.length
                  refine ⟨us, hD4, by omega, W4, s4, acc ++ [y], us ++ [v4], ys, ?_, ws4.updFree nS4, upd_same, ?_, by simp; omega, nF4, nS4, q7, by rw [← hall, ← hrem]; simp⟩
                  · exact Ext.updFree (xs := us) (((e1.trans e2).trans e3).trans e4) hL
                  · have m4 := Mn.updFree (o := .lst (us ++ [v4])) hD4 nF4
                    exact Reps.mn m4 _ _ (ra4.append (by simp only [Reps]; exact ⟨v4, [], rfl, r4, rfl⟩))
              | false =>
                rw [if_neg Bool.false_ne_true] at q1' ⊢
                simp only [Res.ok.injEq] at q1'
                obtain ⟨rfl, rfl⟩ := q1'
                exact ⟨W3, s3, acc, us, ys, (e1.trans e2).trans e3, ws3, hD3, ra3, by omega, nF3, nS3, q7, by rw [← hall, ← hrem]⟩
  · refine .inl ?_
    have e : i = ds.length := by omega
    subst e
    refine ⟨F2, ?_⟩
    rw [List.drop_length] at h1
    simp only [lcGo, Res.ok.injEq] at h1
    obtain ⟨rfl, rfl⟩ := h1
    rw [List.append_nil] at hall
    subst hall
    exact fin W1 H1 us e1 ws1 hD ra nF1 nS1
variable {elt tg iter : Expr} {ifs : List Expr} {scope : Scope} {own : List (Str × Nat)} {pos : Pos} {p : Pat} {mi : VE → M (List D)} {tt : VE → M Bool} {te : VE → M D}
theorem lc_tLc (hv : (p.slots.all fun i => (own.map (·.2)).contains i) = true) {σ : L2.St} {H : Hp} {Q : VK} (h : tM G (mLc p (own.map (·.2)) mi tt te) σ H Q) : tLc (tMI G mi) (gP G.K p) (tMT G tt) (tM G te) (own.map (·.2)) σ H Q := by
  obtain ⟨W, env, s, hen, hs, h⟩ := h
  refine ⟨W, env, s, hen, hs, ?_⟩
  unfold mLc at h
  cases q : mi env s with
  | no => rw [q] at h; exact h
  | exc x' s' => rw [q] at h; exact h
  | ok ds s1 =>
    rw [q] at h
    simp only [bind_ok] at h
    intro W1 H1 J d0 v0 e1 ws1 r0 F L hL
    split at h
    · rename_i hz
      cases q2 : lcGo (lcF p tt te (wipeE env (own.map (·.2)))) ds s1 with
      | no => rw [q2] at h; exact h.elim
      | exc x' s' => rw [q2] at h; exact h.elim
      | ok all sE =>
        rw [q2] at h
        refine lc_read (fun i hi => by simpa using List.all_eq_true.mp hv i hi) (hen.ext e1) ws1 r0 F hz hL q2 fun W' H' us e ws hD ra nF nS => ?_
        refine h (W'.add L) H' _ ((e1.trans e).addF (e1.dom L hL)) (ws.addF hD nS) ?_
        simp only [Rep]
        exact ⟨L, us, rfl, hD, .inr rfl, Reps.mn Mn.addF _ _ ra⟩
    · exact h.elim
theorem ee_lc (hc : X.calm = true) (hN : X.N.Nodup) (hi : EI X G tg iter mi) (ok : BlkOk X.N X.env.scope scope own)
    (hv : (p.slots.all fun i => (own.map (·.2)).contains i) = true)
    (hg : ∀ (s : Shared) (H : Hp) (C : Addr) (cl : List (Str × Addr)) (fp : List Addr), EG (X.blk s H scope (compEnvC scope cl C X.env) fp) G.K tg p) (ht : ∀ (s : Shared) (H : Hp) (C : Addr) (cl : List (Str × Addr)) (fp : List Addr), ETs (X.blk s H scope (compEnvC scope cl C X.env) fp) G ifs tt)
    (he : ∀ (s : Shared) (H : Hp) (C : Addr) (cl : List (Str × Addr)) (fp : List Addr), EE (X.blk s H scope (compEnvC scope cl C X.env) fp) G elt te) (hs : ∀ x, foldedSetIterable iter X.env x = pure x := by intro _; rfl) :
    EE X G (.ListComp elt [⟨tg, iter, ifs, 0⟩] scope pos) (mLc p (own.map (·.2)) mi tt te) :=
  pe_imp (pe_lc hc hN hi ok hg ht he hs) fun _ _ _ h => lc_tLc hv h
end

/-! ### a fresh list, not yet frozen -/
def AftF (G : Gx) (W : Wd) (H : Hp) (r : Res D) (Q : VK) : Prop := match r with
  | .ok (.lst ds) s' => ∀ W' H' p vs, Ext W H W' H' → WS W' s' H' → H p = none → H' p = some (.lst vs) → Reps G.K W' H' ds vs → ¬ W'.F p → ¬ W'.isS p → Q (.ref p) H'
  | .ok _ _ => False
  | .exc x s' => ∀ W' H' c dd, Ext W H W' H' → WS W' s' H' → G.xr G.K x c dd H' → G.E c dd H'
  | .no => False
theorem AftF.ext {G : Gx} {W W' : Wd} {H H' : Hp} {r : Res D} {Q : VK} (e : Ext W H W' H') (h : AftF G W H r Q) : AftF G W' H' r Q := by
  cases r with
  | ok d s =>
    cases d with
    | lst ds => exact fun W2 H2 p vs e2 ws hp => h W2 H2 p vs (e.trans e2) ws (e.dom p hp)
    | _ => exact h
  | exc x s => exact fun W2 H2 c dd e2 ws rp => h W2 H2 c dd (e.trans e2) ws rp
  | no => exact h
def tMF (G : Gx) (m : VE → M D) : TE := fun σ H Q => ∃ W env s, EnvR G.K W H σ env ∧ WS W s H ∧ AftF G W H (m env s) Q
abbrev EF (X : Cx) (G : Gx) (e : Expr) (m : VE → M D) : Prop := PE X e (tMF G m)
theorem AftF.lst {G : Gx} {W : Wd} {H : Hp} {s : DS} {ds : List D} {vs : List V} {Q : VK} {p : Addr} (h : AftF G W H (.ok (.lst ds) s) Q) (hs : WS W s H) (r : Reps G.K W H ds vs) (n : H p = none) : Q (.ref p) (upd H p (.lst vs)) :=
  h W _ p vs (Ext.new n) (WS.new n hs) n upd_same (Reps.ext (Ext.new n) ds vs r) (hs.freeF n) (hs.freeS n)
theorem tML_bindF {G : Gx} {W : Wd} {H : Hp} {σ : L2.St} {env : VE} {s : DS} {m : VE → M (List D)} {f : List D → DS → Res D} {Q : VK} {R : List V → Hp → Prop} (he : EnvR G.K W H σ env) (hs : WS W s H) (h : AftF G W H ((m env s).bind f) Q)
    (k : ∀ W' H' vs ds s', Ext W H W' H' → EnvR G.K W' H' σ env → WS W' s' H' → Reps G.K W' H' ds vs → m env s = .ok ds s' → AftF G W' H' (f ds s') Q → R vs H') : tML G m σ H R := by
  refine ⟨W, env, s, he, hs, ?_⟩
  cases q : m env s with
  | ok d s' =>
    rw [q] at h
    exact fun W' H' v e ws rp => k W' H' v d s' e (he.ext e) ws rp q (AftF.ext e h)
  | exc x s' => rw [q] at h; exact h
  | no => rw [q] at h; exact h
theorem tM_bindF {G : Gx} {W : Wd} {H : Hp} {σ : L2.St} {env : VE} {s : DS} {m : VE → M D} {f : D → DS → Res D} {Q : VK} {R : VK} (he : EnvR G.K W H σ env) (hs : WS W s H) (h : AftF G W H ((m env s).bind f) Q)
    (k : ∀ W' H' vs ds s', Ext W H W' H' → EnvR G.K W' H' σ env → WS W' s' H' → Rep G.K W' H' ds vs → m env s = .ok ds s' → AftF G W' H' (f ds s') Q → R vs H') : tM G m σ H R := by
  refine ⟨W, env, s, he, hs, ?_⟩
  cases q : m env s with
  | ok d s' =>
    rw [q] at h
    exact fun W' H' v e ws rp => k W' H' v d s' e (he.ext e) ws rp q (AftF.ext e h)
  | exc x s' => rw [q] at h; exact h
  | no => rw [q] at h; exact h
section
variable {X : Cx} {G : Gx} {a b e : Expr} {ma mb : VE → M D} {es : List Expr} {ml : VE → M (List D)} {pos : Pos}
theorem ef_lst {n : Nat} (h : EA X G es ml) (hl : LenM ml n) (hn : n ≤ 1000 := by decide) : EF X G (.List es pos) (mLst ml) :=
  pe_imp (pe_lst h) fun σ H Q h => by
    obtain ⟨W, env, s, hen, hs, h⟩ := h
    exact tML_bindF hen hs h fun W1 H1 vs ds s1 e1 he1 hs1 rs q h1 => ⟨by rw [rs.length, hl _ _ _ _ q]; exact small hn, fun p hp => h1.lst hs1 rs hp⟩
theorem ef_mul (ha : EE X G a ma) (hb : EE X G b mb) : EF X G (.BinOp a .Mult b pos) (mBin opMul ma mb) :=
  pe_imp (pe_op op_rep ha hb) fun σ H Q h => by
    obtain ⟨W, env, s, hen, hs, h⟩ := h
    refine tM_bindF hen hs h fun W1 H1 v x s1 e1 he1 hs1 rx _ h1 => ?_
    refine tM_bindF he1 hs1 h1 fun W2 H2 u y s2 e2 he2 hs2 ry _ h2 => ?_
    unfold opMul at h2
    split at h2
    · split at h2 <;> exact h2.elim
    · split at h2
      · rename_i hz
        obtain ⟨p, vs, rfl, g1, f1, r1⟩ := rep_lst (Rep.ext e2 _ _ rx)
        have l1 := r1.length
        exact ⟨p, _, vs, rfl, rep_int ry, g1, by have := hz.1.1; omega, by have := hz.1.2; omega, by rw [l1]; exact hz.2, fun p' hp => h2.lst hs2 (r1.rep _) hp⟩
      · exact h2.elim
    · exact h2.elim
theorem ef_add (ha : EE X G a ma) (hb : EE X G b mb) : EF X G (.BinOp a .Add b pos) (mBin opAdd ma mb) :=
  pe_imp (pe_op op_cat ha hb) fun σ H Q h => by
    obtain ⟨W, env, s, hen, hs, h⟩ := h
    refine tM_bindF hen hs h fun W1 H1 v x s1 e1 he1 hs1 rx _ h1 => ?_
    refine tM_bindF he1 hs1 h1 fun W2 H2 u y s2 e2 he2 hs2 ry _ h2 => ?_
    unfold opAdd at h2
    split at h2
    · exact h2.elim
    · split at h2 <;> exact h2.elim
    · split at h2
      · exact h2.elim
      · exact h2.elim
    · split at h2
      · rename_i hz
        have hz := hz.le
        obtain ⟨p, vs, rfl, g1, f1, r1⟩ := rep_lst (Rep.ext e2 _ _ rx)
        obtain ⟨q, us, rfl, g2, f2, r2⟩ := rep_lst ry
        have l1 := r1.length
        have l2 := r2.length
        exact ⟨p, q, vs, us, rfl, rfl, g1, g2, by omega, fun p' hp => h2.lst hs2 (r1.append r2) hp⟩
      · exact h2.elim
    · exact h2.elim
theorem ef_list {x : Str} {p : Pos} (hK : X.K = G.K) (hm : X.mg x = none) (hv : bootBuiltins x = some (.type "list")) (ha : EA X G (e :: es) ml) (hg : Gl X x := by rfl)
    (hn : x ≠ "__name__" := by decide) (hdb : (x == ("__debug__" : Str)) = false := by decide) (he : starEach (e :: es) X.env = (false, eval e X.env) :: starEach es X.env := by rfl) (hpl : (backTo pos (starEach es X.env)).any (·.1) = false := by rfl) :
    EF X G (.Call (.Name x p) (e :: es) [] pos) (mCB bList ml) :=
  pe_imp (pe_callTy call_list_of hg hm hv ha hn hdb he hpl) fun σ H Q h => by
    obtain ⟨W, env, s, hen, hs, h⟩ := h
    refine tML_bindF hen hs h fun W1 H1 vs ds s1 e1 he1 hs1 rs q h1 => ?_
    unfold bList at h1
    split at h1
    · obtain ⟨v, rfl, r⟩ := rs.one
      obtain ⟨a, us, rfl, g1, r1⟩ := rep_tup r
      exact ⟨a, us, rfl, .inr (hK ▸ g1), fun l hl => h1.lst hs1 r1 hl⟩
    · obtain ⟨v, rfl, r⟩ := rs.one
      obtain ⟨a, us, rfl, g1, _, r1⟩ := rep_lst r
      exact ⟨a, us, rfl, .inl (.inl (.inl g1)), fun l hl => h1.lst hs1 r1 hl⟩
    · exact h1.elim
theorem ef_slL {lo hi : Option Expr} {ml mh : MP} {p2 : Pos} (ha : EE X G a ma) (hl : EP' X G lo ml) (hh : EP' X G hi mh) : EF X G (.Subscript a (.Slice lo hi none p2) pos) (mSl ma ml mh) :=
  pe_imp (pe_slice sl_list ha hl hh) fun σ H Q h => by
    obtain ⟨W, env, s, hen, hs, h⟩ := h
    refine tM_bindF hen hs h fun W1 H1 v x s1 e1 he1 hs1 rx _ h1 => ?_
    refine ⟨W1, env, s1, he1, hs1, ?_⟩
    cases q : ml env s1 with
    | ok l s2 =>
      rw [q] at h1
      intro W2 H2 e2 ws2
      have h2 := AftF.ext e2 h1
      simp only [bind_ok] at h2
      refine ⟨W2, env, s2, he1.ext e2, ws2, ?_⟩
      cases q2 : mh env s2 with
      | ok u s3 =>
        rw [q2] at h2
        intro W3 H3 e3 ws3
        have h3 := AftF.ext e3 h2
        simp only [bind_ok] at h3
        have rx3 := Rep.ext e3 _ _ (Rep.ext e2 _ _ rx)
        unfold opSl at h3
        split at h3
        · obtain ⟨p, vs, rfl, g1, _, r1⟩ := rep_lst rx3
          exact ⟨p, vs, rfl, .inl (.inl g1), fun p' hp => h3.lst ws3 (r1.cut l u) hp⟩
        · split at h3 <;> exact h3.elim
        · split at h3 <;> exact h3.elim
        · exact h3.elim
      | exc x s' => rw [q2] at h2; exact h2
      | no => rw [q2] at h2; exact h2
    | exc x s' => rw [q] at h1; exact h1
    | no => rw [q] at h1; exact h1
variable {elt tg iter : Expr} {ifs : List Expr} {scope : Scope} {own : List (Str × Nat)} {p : Pat} {mi : VE → M (List D)} {tt : VE → M Bool} {te : VE → M D}
theorem lc_tLcF (hv : (p.slots.all fun i => (own.map (·.2)).contains i) = true) {σ : L2.St} {H : Hp} {Q : VK} (h : tMF G (mLc p (own.map (·.2)) mi tt te) σ H Q) : tLc (tMI G mi) (gP G.K p) (tMT G tt) (tM G te) (own.map (·.2)) σ H Q := by
  obtain ⟨W, env, s, hen, hs, h⟩ := h
  refine ⟨W, env, s, hen, hs, ?_⟩
  unfold mLc at h
  cases q : mi env s with
  | no => rw [q] at h; exact h
  | exc x' s' => rw [q] at h; exact h
  | ok ds s1 =>
    rw [q] at h
    simp only [bind_ok] at h
    intro W1 H1 J d0 v0 e1 ws1 r0 F L hL
    split at h
    · rename_i hz
      cases q2 : lcGo (lcF p tt te (wipeE env (own.map (·.2)))) ds s1 with
      | no => rw [q2] at h; exact h.elim
      | exc x' s' => rw [q2] at h; exact h.elim
      | ok all sE =>
        rw [q2] at h
        exact lc_read (fun i hi => by simpa using List.all_eq_true.mp hv i hi) (hen.ext e1) ws1 r0 F hz hL q2 fun W' H' us e ws hD ra nF nS => h W' H' L us (e1.trans e) ws (e1.dom L hL) hD ra nF nS
    · exact h.elim
end
end
end L2.Mir

set_option Elab.async false
set_option linter.all false
set_option maxRecDepth 100000
namespace L2.Mir
open PySem PySem.Spec PyProof.Rows
noncomputable section

/-- a slot: nothing, a value, a list that is the slot's own (to be changed) -/
inductive Sl where
  | no | val (d : D) | own (ds : List D)
abbrev SE := List Sl
@[simp] def Sl.hide : Sl → Option D
  | .val d => some d
  | _ => none
@[simp] def Sl.view : Sl → Option D
  | .val d => some d
  | .own ds => some (.lst ds)
  | .no => none
@[simp] def hideE (env : SE) : VE := env.map Sl.hide
@[simp] def viewE (env : SE) : VE := env.map Sl.view
inductive Fl where
  | nx (env : SE) | rt (d : D) | bk (env : SE) | ct (env : SE)
abbrev MS := SE → DS → Res Fl
mutual
/-- no list within -/
@[simp] def D.flat : D → Bool
  | .tup ds => D.flats ds
  | .lst _ => false
  | .dic _ _ => false
  | .dicT _ _ => false
  | _ => true
@[simp] def D.flats : List D → Bool
  | [] => true
  | d :: ds => D.flat d && D.flats ds
end
/-- the slot's own list's place -/
def OwnAt (env : SE) (σ : L2.St) (p : Addr) : Prop := ∃ (i : Nat) (ds : List D), env[i]? = some (.own ds) ∧ σ[i]? = some (some (.ref p))
structure StOk (K : PySem.W.Frag) (H0 : Hp) (W0 : Wd) (pins : List (D × V)) (W : Wd) (H : Hp) (σ : L2.St) (env : SE) (s : DS) : Prop where
  len : σ.length = env.length
  val : ∀ (i : Nat) (d : D), env[i]? = some (.val d) → ∃ v, σ[i]? = some (some v) ∧ Rep K W H d v
  own : ∀ (i : Nat) (ds : List D), env[i]? = some (.own ds) → ∃ p vs, σ[i]? = some (some (.ref p)) ∧ H p = some (.lst vs) ∧ Reps K W H ds vs ∧ ¬ W.F p ∧ ¬ W.isS p ∧ H0 p = none
  dist : ∀ (i j : Nat) (ds es : List D) (p : Addr), i ≠ j → env[i]? = some (.own ds) → env[j]? = some (.own es) → σ[i]? = some (some (.ref p)) → σ[j]? ≠ some (some (.ref p))
  ext : Ext W0 H0 W H
  ws : WS W s H
  pin : ∀ q ∈ pins, Rep K W H q.1 q.2

section
variable {K : PySem.W.Frag} {H0 : Hp} {W0 : Wd} {pins : List (D × V)} {W W' : Wd} {H H' : Hp} {σ : L2.St} {env : SE} {s s' : DS}
theorem StOk.hid (h : StOk K H0 W0 pins W H σ env s) : EnvR K W H σ (hideE env) := by
  refine ⟨by rw [h.len]; simp [hideE], fun i d q => ?_⟩
  unfold hideE at q
  rw [List.getElem?_map] at q
  cases q1 : env[i]? with
  | none => rw [q1] at q; cases q
  | some sl =>
    rw [q1] at q
    cases sl with
    | val e =>
      simp only [Option.map_some, Sl.hide, Option.some.injEq] at q
      subst q
      exact h.val i e q1
    | no => simp [Sl.hide] at q
    | own ds => simp [Sl.hide] at q
/-- behind an expression -/
theorem StOk.after (h : StOk K H0 W0 pins W H σ env s) (e : Ext W H W' H') (ws : WS W' s' H') : StOk K H0 W0 pins W' H' σ env s' where
  len := h.len
  val := fun i d q => let ⟨v, h1, h2⟩ := h.val i d q; ⟨v, h1, h2.ext e d v⟩
  own := fun i ds q => let ⟨p, vs, h1, h2, h3, h4, h5, h6⟩ := h.own i ds q; ⟨p, vs, h1, e.keep p _ h2 h5, h3.ext e ds vs, e.notF h2 h4, e.isS h2 h5, h6⟩
  dist := h.dist
  ext := h.ext.trans e
  ws := ws
  pin := fun q hq => (h.pin q hq).ext e _ _
theorem StOk.pins_of {pins' : List (D × V)} (h : StOk K H0 W0 pins W H σ env s) (hp : ∀ q ∈ pins', Rep K W H q.1 q.2) : StOk K H0 W0 pins' W H σ env s := ⟨h.len, h.val, h.own, h.dist, h.ext, h.ws, hp⟩
/-- a slot gets a value -/
theorem StOk.set {i : Nat} {d : D} {v : V} (h : StOk K H0 W0 pins W H σ env s) (r : Rep K W H d v) : StOk K H0 W0 pins W H (σ.set i (some v)) (env.set i (.val d)) s where
  len := by simp [h.len]
  val := fun j e q => by
    by_cases hj : i = j
    · subst hj
      by_cases hl : i < env.length
      · rw [List.getElem?_set_self hl] at q
        cases q
        exact ⟨v, List.getElem?_set_self (by rw [h.len]; exact hl), r⟩
      · rw [List.getElem?_eq_none (by simpa using hl)] at q; cases q
    · rw [List.getElem?_set_ne hj] at q
      rw [List.getElem?_set_ne hj]
      exact h.val j e q
  own := fun j es q => by
    by_cases hj : i = j
    · subst hj
      by_cases hl : i < env.length
      · rw [List.getElem?_set_self hl] at q; cases q
      · rw [List.getElem?_eq_none (by simpa using hl)] at q; cases q
    · rw [List.getElem?_set_ne hj] at q
      rw [List.getElem?_set_ne hj]
      exact h.own j es q
  dist := fun j k ds es p hjk q1 q2 q3 => by
    have n1 : i ≠ j := fun e => by
      subst e
      by_cases hl : i < env.length
      · rw [List.getElem?_set_self hl] at q1; cases q1
      · rw [List.getElem?_eq_none (by simpa using hl)] at q1; cases q1
    have n2 : i ≠ k := fun e => by
      subst e
      by_cases hl : i < env.length
      · rw [List.getElem?_set_self hl] at q2; cases q2
      · rw [List.getElem?_eq_none (by simpa using hl)] at q2; cases q2
    rw [List.getElem?_set_ne n1] at q1 q3
    rw [List.getElem?_set_ne n2] at q2 ⊢
    exact h.dist j k ds es p hjk q1 q2 q3
  ext := h.ext
  ws := h.ws
  pin := h.pin
/-- a slot gets a fresh list of its own -/
theorem StOk.setOwn {i : Nat} {ds : List D} {p : Addr} {vs : List V} (h : StOk K H0 W0 pins W H σ env s) (hp : H p = some (.lst vs)) (r : Reps K W H ds vs) (nF : ¬ W.F p) (nS : ¬ W.isS p) (n0 : H0 p = none)
    (nw : ∀ (j : Nat) (es : List D), j ≠ i → env[j]? = some (.own es) → σ[j]? ≠ some (some (.ref p))) : StOk K H0 W0 pins W H (σ.set i (some (.ref p))) (env.set i (.own ds)) s where
  len := by simp [h.len]
  val := fun j e q => by
    by_cases hj : i = j
    · subst hj
      by_cases hl : i < env.length
      · rw [List.getElem?_set_self hl] at q; cases q
      · rw [List.getElem?_eq_none (by simpa using hl)] at q; cases q
    · rw [List.getElem?_set_ne hj] at q
      rw [List.getElem?_set_ne hj]
      exact h.val j e q
  own := fun j es q => by
    by_cases hj : i = j
    · subst hj
      by_cases hl : i < env.length
      · rw [List.getElem?_set_self hl] at q
        cases q
        exact ⟨p, vs, List.getElem?_set_self (by rw [h.len]; exact hl), hp, r, nF, nS, n0⟩
      · rw [List.getElem?_eq_none (by simpa using hl)] at q; cases q
    · rw [List.getElem?_set_ne hj] at q
      rw [List.getElem?_set_ne hj]
      exact h.own j es q
  dist := fun j k d1 d2 p' hjk q1 q2 q3 => by
    by_cases hj : i = j
    · subst hj
      rw [List.getElem?_set_ne hjk] at q2 ⊢
      by_cases hl : i < σ.length
      · rw [List.getElem?_set_self hl] at q3
        cases q3
        exact nw k d2 (fun e => hjk e.symm) q2
      · rw [List.getElem?_eq_none (by simpa using hl)] at q3; cases q3
    · rw [List.getElem?_set_ne hj] at q1 q3
      by_cases hk : i = k
      · subst hk
        by_cases hl : i < σ.length
        · rw [List.getElem?_set_self hl]
          intro z
          cases z
          exact nw j d1 (fun e => hj e.symm) q1 q3
        · rw [List.getElem?_eq_none (by simpa using hl)]; intro z; cases z
      · rw [List.getElem?_set_ne hk] at q2 ⊢
        exact h.dist j k d1 d2 p' hjk q1 q2 q3
  ext := h.ext
  ws := h.ws
  pin := h.pin
/-- the slot's own list changes -/
theorem StOk.mut {i : Nat} {ds ds' : List D} {p : Addr} {vs vs' : List V} (h : StOk K H0 W0 pins W H σ env s) (hi : env[i]? = some (.own ds)) (hσ : σ[i]? = some (some (.ref p))) (hp : H p = some (.lst vs)) (r : Reps K W H ds' vs') :
    StOk K H0 W0 pins W (upd H p (.lst vs')) σ (env.set i (.own ds')) s := by
  obtain ⟨p', vs0, e1, e2, e3, nF, nS, n0⟩ := h.own i ds hi
  rw [hσ] at e1
  cases e1
  have m : Mn W H W (upd H p (.lst vs')) := Mn.updFree hp nF
  have hil : i < env.length := (List.getElem?_eq_some_iff.mp hi).1
  refine ⟨by simp [h.len], fun j e q => ?_, fun j es q => ?_, fun j k d1 d2 p' hjk q1 q2 q3 => ?_, Ext.updFree (xs := vs) h.ext n0, h.ws.updFree nS, fun q hq => Rep.mn m _ _ (h.pin q hq)⟩
  · by_cases hj : i = j
    · subst hj
      rw [List.getElem?_set_self hil] at q; cases q
    · rw [List.getElem?_set_ne hj] at q
      obtain ⟨v, h1, h2⟩ := h.val j e q
      exact ⟨v, h1, Rep.mn m _ _ h2⟩
  · by_cases hj : i = j
    · subst hj
      rw [List.getElem?_set_self hil] at q
      cases q
      exact ⟨p, vs', hσ, upd_same, Reps.mn m _ _ r, nF, nS, n0⟩
    · rw [List.getElem?_set_ne hj] at q
      obtain ⟨p1, us, h1, h2, h3, h4, h5, h6⟩ := h.own j es q
      have ne : p1 ≠ p := fun e => by
        subst e
        exact h.dist i j ds es p1 hj hi q hσ h1
      exact ⟨p1, us, h1, by rw [upd_ne ne]; exact h2, Reps.mn m _ _ h3, h4, h5, h6⟩
  · by_cases hj : i = j
    · subst hj
      rw [List.getElem?_set_ne hjk] at q2
      exact h.dist i k ds d2 p' hjk hi q2 q3
    · rw [List.getElem?_set_ne hj] at q1
      by_cases hk : i = k
      · subst hk
        exact h.dist j i d1 ds p' hjk q1 hi q3
      · rw [List.getElem?_set_ne hk] at q2
        exact h.dist j k d1 d2 p' hjk q1 q2 q3

/-! ### the own lists seen for a while -/
def Wd.see (W : Wd) (env : SE) (σ : L2.St) : Wd := ⟨fun a => W.F a ∨ OwnAt env σ a, W.S⟩
def Wd.unsee (W : Wd) (env : SE) (σ : L2.St) : Wd := ⟨fun a => W.F a ∧ ¬ OwnAt env σ a, W.S⟩
theorem StOk.ownAt (h : StOk K H0 W0 pins W H σ env s) {p : Addr} (o : OwnAt env σ p) : (∃ vs, H p = some (.lst vs)) ∧ ¬ W.F p ∧ ¬ W.isS p ∧ H0 p = none := by
  obtain ⟨i, ds, h1, h2⟩ := o
  obtain ⟨p', vs, e1, e2, e3, e4, e5, e6⟩ := h.own i ds h1
  rw [h2] at e1
  cases e1
  exact ⟨⟨vs, e2⟩, e4, e5, e6⟩
theorem StOk.seeMn (h : StOk K H0 W0 pins W H σ env s) : Mn W H (W.see env σ) H := ⟨fun _ _ h => h, fun _ _ _ h => h, fun _ h => .inl h, fun _ h => h⟩
theorem StOk.seeWS (h : StOk K H0 W0 pins W H σ env s) : WS (W.see env σ) s H := by
  refine ⟨fun a f => f.elim (h.ws.1 a) fun o => let ⟨⟨vs, q⟩, _⟩ := h.ownAt o; ⟨_, q⟩, ?_⟩
  rcases h.ws.2 with g | ⟨sa, ca, i, cells, h0, h00, h1, h2, h3, h4, h5⟩
  · exact .inl g
  · exact .inr ⟨sa, ca, i, cells, h0, h00, h1, h2, h3, fun z => z.elim h4 fun o => (h.ownAt o).2.2.1 ⟨_, h0, .inl rfl⟩, fun z => z.elim h5 fun o => (h.ownAt o).2.2.1 ⟨_, h0, .inr rfl⟩⟩
theorem StOk.seen (h : StOk K H0 W0 pins W H σ env s) : EnvR K (W.see env σ) H σ (viewE env) := by
  refine ⟨by rw [h.len]; simp [viewE], fun i d q => ?_⟩
  unfold viewE at q
  rw [List.getElem?_map] at q
  cases q1 : env[i]? with
  | none => rw [q1] at q; cases q
  | some sl =>
    rw [q1] at q
    cases sl with
    | val e =>
      simp only [Option.map_some, Sl.view, Option.some.injEq] at q
      subst q
      obtain ⟨v, h1, h2⟩ := h.val i e q1
      exact ⟨v, h1, Rep.mn h.seeMn _ _ h2⟩
    | no => simp [Sl.view] at q
    | own ds =>
      simp only [Option.map_some, Sl.view, Option.some.injEq] at q
      subst q
      obtain ⟨p, vs, h1, h2, h3, h4, h5, h6⟩ := h.own i ds q1
      exact ⟨_, h1, by simp only [Rep]; exact ⟨p, vs, rfl, h2, .inr ⟨i, ds, q1, h1⟩, Reps.mn h.seeMn _ _ h3⟩⟩
/-- forgotten again -/
theorem StOk.unseeExt (h : StOk K H0 W0 pins W H σ env s) (e : Ext (W.see env σ) H W' H') : Ext W H (W'.unsee env σ) H' where
  keep := e.keep
  tups := e.tups
  frs := fun a o f q => e.frs a o (.inl f) q
  dom := e.dom
  fsub := fun a f => ⟨e.fsub a (.inl f), fun o => (h.ownAt o).2.1 f⟩
  fnew := fun a f => by
    rcases e.fnew a f.1 with (q | q) | q
    · exact .inl q
    · exact absurd q f.2
    · exact .inr q
  ssub := e.ssub
  snew := e.snew
theorem unseeWS (ws : WS W s H) : WS (W.unsee env σ) s H := by
  refine ⟨fun a f => ws.1 a f.1, ?_⟩
  rcases ws.2 with g | ⟨sa, ca, i, cells, h0, h00, h1, h2, h3, h4, h5⟩
  · exact .inl g
  · exact .inr ⟨sa, ca, i, cells, h0, h00, h1, h2, h3, fun z => h4 z.1, fun z => h5 z.1⟩
mutual
theorem Rep.flatW : ∀ (d : D) (v : V), d.flat = true → (∀ p, W.S = some p → W'.S = some p) → Rep K W H d v → Rep K W' H d v
  | .non, _, _, _, h => by simpa [Rep] using h
  | .bl _, _, _, _, h => by simpa [Rep] using h
  | .int _, _, _, _, h => by simpa [Rep] using h
  | .str _, _, _, _, h => by simpa [Rep] using h
  | .tup ds, _, f, hS, h => by
    simp only [Rep] at h ⊢
    obtain ⟨a, vs, rfl, hs, hr⟩ := h
    exact ⟨a, vs, rfl, hs, Reps.flatW ds vs (by simpa [D.flat] using f) hS hr⟩
  | .lst ds, _, f, _, _ => by simp [D.flat] at f
  | .st, _, _, hS, h => by
    simp only [Rep] at h ⊢
    obtain ⟨p, hp, rfl⟩ := h
    exact ⟨p, hS p hp, rfl⟩
  | .dic ks ds, _, f, _, _ => by simp [D.flat] at f
  | .dicT ks ds, _, f, _, _ => by simp [D.flat] at f
theorem Reps.flatW : ∀ (ds : List D) (vs : List V), D.flats ds = true → (∀ p, W.S = some p → W'.S = some p) → Reps K W H ds vs → Reps K W' H ds vs
  | [], _, _, _, h => by simpa [Reps] using h
  | d :: ds, _, f, hS, h => by
    simp only [Reps] at h ⊢
    simp only [D.flats, Bool.and_eq_true] at f
    obtain ⟨v, r, rfl, h1, h2⟩ := h
    exact ⟨v, r, rfl, Rep.flatW d v f.1 hS h1, Reps.flatW ds r f.2 hS h2⟩
end
/-- at a def's end all may be frozen -/
theorem StOk.seeExt0 (h : StOk K H0 W0 pins W H σ env s) : Ext W0 H0 (W.see env σ) H where
  keep := h.ext.keep
  tups := h.ext.tups
  frs := h.ext.frs
  dom := h.ext.dom
  fsub := fun a f => .inl (h.ext.fsub a f)
  fnew := fun a f => f.elim (h.ext.fnew a) fun o => .inr (h.ownAt o).2.2.2
  ssub := h.ext.ssub
  snew := h.ext.snew
end

/-! ### what is wanted behind a statement -/
def AftS (G : Gx) (H0 : Hp) (W0 : Wd) (pins : List (D × V)) (r : Res Fl) (Dn : Ends) : Prop := match r with
  | .ok (.nx env) s => ∀ W H σ, StOk G.K H0 W0 pins W H σ env s → Dn.nx σ H
  | .ok (.bk env) s => ∀ W H σ, StOk G.K H0 W0 pins W H σ env s → Dn.bk σ H
  | .ok (.ct env) s => ∀ W H σ, StOk G.K H0 W0 pins W H σ env s → Dn.ct σ H
  | .ok (.rt d) s => ∀ W H v, Ext W0 H0 W H → WS W s H → Rep G.K W H d v → Dn.rt v H
  | .exc x s => ∀ W H c dd, Ext W0 H0 W H → WS W s H → G.xr G.K x c dd H → G.E c dd H
  | .no => False
def tMS (G : Gx) (m : MS) : TS := fun Dn σ H => ∃ H0 W0 pins W env s, StOk G.K H0 W0 pins W H σ env s ∧ AftS G H0 W0 pins (m env s) Dn
abbrev ES (X : Cx) (G : Gx) (st : Stmt) (m : MS) : Prop := PS X st (tMS G m)
abbrev ESs (X : Cx) (G : Gx) (st : List Stmt) (m : MS) : Prop := PSs X st (tMS G m)
theorem ps_imp {X : Cx} {st : Stmt} {t t' : TS} (h : PS X st t) (i : ∀ D σ H, t' D σ H → t D σ H) : PS X st t' := ⟨fun pins s σ H D I q => h.run pins s σ H D I (i D σ H q)⟩
theorem pss_imp {X : Cx} {st : List Stmt} {t t' : TS} (h : PSs X st t) (i : ∀ D σ H, t' D σ H → t D σ H) : PSs X st t' := ⟨fun pins s σ H D I q => h.run pins s σ H D I (i D σ H q)⟩
section
variable {X : Cx} {G : Gx} {st : Stmt} {rest : List Stmt} {m m1 m2 : MS} {e c : Expr} {me : VE → M D} {mt : VE → M Bool} {pos : Pos}
@[simp] def sNx : MS := fun env s => .ok (.nx env) s
@[simp] def sSeq (m1 m2 : MS) : MS := fun env s => (m1 env s).bind fun fl s => match fl with
  | .nx env' => m2 env' s
  | fl => .ok fl s
theorem es_nil : ESs X G [] sNx := pss_imp pss_nil fun D σ H h => by
  obtain ⟨H0, W0, pins, W, env, s, ok, h⟩ := h
  exact h W H σ ok
theorem es_cons (h1 : ES X G st m1) (h2 : ESs X G rest m2) : ESs X G (st :: rest) (sSeq m1 m2) := pss_imp (pss_cons h1 h2) fun D σ H h => by
  obtain ⟨H0, W0, pins, W, env, s, ok, h⟩ := h
  refine ⟨H0, W0, pins, W, env, s, ok, ?_⟩
  unfold sSeq at h
  cases q : m1 env s with
  | ok fl s' =>
    rw [q] at h
    cases fl with
    | nx env' => exact fun W' H' σ' ok' => ⟨H0, W0, pins, W', env', s', ok', h⟩
    | rt d => exact h
    | bk env' => exact h
    | ct env' => exact h
  | exc x s' => rw [q] at h; exact h
  | no => rw [q] at h; exact h
theorem es_one (h1 : ES X G st m) : ESs X G [st] m := pss_one h1
theorem es_pass : ES X G (.Pass pos) sNx := ps_imp ps_pass fun D σ H h => by
  obtain ⟨H0, W0, pins, W, env, s, ok, h⟩ := h
  exact h W H σ ok
@[simp] def sBk : MS := fun env s => .ok (.bk env) s
@[simp] def sCt : MS := fun env s => .ok (.ct env) s
theorem es_break : ES X G (.Break pos) sBk := ps_imp ps_break fun D σ H h => by
  obtain ⟨H0, W0, pins, W, env, s, ok, h⟩ := h
  exact h W H σ ok
theorem es_cont : ES X G (.Continue pos) sCt := ps_imp ps_continue fun D σ H h => by
  obtain ⟨H0, W0, pins, W, env, s, ok, h⟩ := h
  exact h W H σ ok
theorem es_doc {x j p p'} : ES X G (.Expr (.Constant (.str x) j p) p') sNx := ps_imp ps_doc fun D σ H h => by
  obtain ⟨H0, W0, pins, W, env, s, ok, h⟩ := h
  exact h W H σ ok
/-- freeze a slot's own list, ahead of a statement -/
@[simp] def frz (env : SE) (i : Nat) : SE := match env[i]? with
  | some (.own ds) => env.set i (.val (.lst ds))
  | _ => env
theorem StOk.frz {K : PySem.W.Frag} {H0 : Hp} {W0 : Wd} {pins : List (D × V)} {W : Wd} {H : Hp} {σ : L2.St} {env : SE} {s : DS} (h : StOk K H0 W0 pins W H σ env s) (i : Nat) : ∃ W', StOk K H0 W0 pins W' H σ (L2.Mir.frz env i) s := by
  unfold L2.Mir.frz
  split
  · rename_i ds hi
    obtain ⟨p, vs, e1, e2, e3, nF, nS, n0⟩ := h.own i ds hi
    have m : Mn W H (W.add p) H := Mn.addF
    have hil : i < env.length := (List.getElem?_eq_some_iff.mp hi).1
    refine ⟨W.add p, by simp [h.len], fun j e q => ?_, fun j es q => ?_, fun j k d1 d2 p' hjk q1 q2 q3 => ?_, h.ext.addF n0, h.ws.addF e2 nS, fun q hq => Rep.mn m _ _ (h.pin q hq)⟩
    · by_cases hj : i = j
      · subst hj
        rw [List.getElem?_set_self hil] at q
        cases q
        exact ⟨_, e1, by simp only [Rep]; exact ⟨p, vs, rfl, e2, .inr rfl, Reps.mn m _ _ e3⟩⟩
      · rw [List.getElem?_set_ne hj] at q
        obtain ⟨v, h1, h2⟩ := h.val j e q
        exact ⟨v, h1, Rep.mn m _ _ h2⟩
    · by_cases hj : i = j
      · subst hj
        rw [List.getElem?_set_self hil] at q; cases q
      · rw [List.getElem?_set_ne hj] at q
        obtain ⟨p1, us, h1, h2, h3, h4, h5, h6⟩ := h.own j es q
        have ne : p1 ≠ p := fun e => by
          subst e
          exact h.dist i j ds es p1 hj hi q e1 h1
        exact ⟨p1, us, h1, h2, Reps.mn m _ _ h3, fun z => z.elim h4 ne, h5, h6⟩
    · by_cases hj : i = j
      · subst hj
        rw [List.getElem?_set_self hil] at q1; cases q1
      · by_cases hk : i = k
        · subst hk
          rw [List.getElem?_set_self hil] at q2; cases q2
        · rw [List.getElem?_set_ne hj] at q1
          rw [List.getElem?_set_ne hk] at q2
          exact h.dist j k d1 d2 p' hjk q1 q2 q3
  · exact ⟨W, h⟩
@[simp] def sFrz (i : Nat) (m : MS) : MS := fun env s => m (frz env i) s
theorem es_frz (i : Nat) (h : ES X G st m) : ES X G st (sFrz i m) := ps_imp h fun D σ H h => by
  obtain ⟨H0, W0, pins, W, env, s, ok, h⟩ := h
  obtain ⟨W', ok'⟩ := ok.frz i
  exact ⟨H0, W0, pins, W', _, s, ok', h⟩

/-! ### an expression in a statement -/
/-- v: own lists are seen for the while, the answer then holds no list -/
@[simp] def exq (v : Bool) (m : VE → M D) : SE → M D := fun env s => if v = true then (m (viewE env) s).bind fun d s => if d.flat = true then .ok d s else .no else m (hideE env) s
theorem ex_read {v : Bool} {H0 : Hp} {W0 : Wd} {pins : List (D × V)} {W : Wd} {H : Hp} {σ : L2.St} {env : SE} {s : DS} {f : D → DS → Res Fl} {Dn : Ends} {R : VK} (ok : StOk G.K H0 W0 pins W H σ env s) (h : AftS G H0 W0 pins ((exq v me env s).bind f) Dn)
    (k : ∀ W' H' u d s', Ext W H W' H' → StOk G.K H0 W0 pins W' H' σ env s' → Rep G.K W' H' d u → exq v me env s = .ok d s' → AftS G H0 W0 pins (f d s') Dn → R u H') : tM G me σ H R := by
  cases v with
  | false =>
    refine ⟨W, hideE env, s, ok.hid, ok.ws, ?_⟩
    have e0 : exq false me env s = me (hideE env) s := rfl
    rw [e0] at h k
    cases q : me (hideE env) s with
    | ok d s' =>
      rw [q] at h
      exact fun W' H' u e ws rp => k W' H' u d s' e (ok.after e ws) rp q h
    | exc x s' =>
      rw [q] at h
      exact fun W' H' c dd e ws rp => h W' H' c dd (ok.ext.trans e) ws rp
    | no => rw [q] at h; exact h
  | true =>
    refine ⟨W.see env σ, viewE env, s, ok.seen, ok.seeWS, ?_⟩
    have e0 : exq true me env s = (me (viewE env) s).bind fun d s => if d.flat = true then .ok d s else .no := rfl
    rw [e0] at h k
    cases q : me (viewE env) s with
    | ok d s' =>
      rw [q] at h k
      simp only [bind_ok] at h k
      by_cases fl : d.flat = true
      · rw [if_pos fl] at h k
        intro W' H' u e ws rp
        have e2 := ok.unseeExt e
        exact k (W'.unsee env σ) H' u d s' e2 (ok.after e2 (unseeWS ws)) (Rep.flatW (W := W') (W' := W'.unsee env σ) d u fl (fun _ z => z) rp) rfl h
      · rw [if_neg fl] at h; exact h.elim
    | exc x s' =>
      rw [q] at h
      exact fun W' H' c dd e ws rp => h (W'.unsee env σ) H' c dd (ok.ext.trans (ok.unseeExt e)) (unseeWS ws) rp
    | no => rw [q] at h; exact h
/-- a test in a statement -/
theorem et_read {H0 : Hp} {W0 : Wd} {pins : List (D × V)} {W : Wd} {H : Hp} {σ : L2.St} {env : SE} {s : DS} {f : Bool → DS → Res Fl} {Dn : Ends} {R : Bool → Hp → Prop} (ok : StOk G.K H0 W0 pins W H σ env s) (h : AftS G H0 W0 pins ((mt (viewE env) s).bind f) Dn)
    (k : ∀ W' H' b s', Ext W H W' H' → StOk G.K H0 W0 pins W' H' σ env s' → AftS G H0 W0 pins (f b s') Dn → R b H') : tMT G mt σ H R := by
  refine ⟨W.see env σ, viewE env, s, ok.seen, ok.seeWS, ?_⟩
  cases q : mt (viewE env) s with
  | ok d s' =>
    rw [q] at h
    intro W' H' e ws
    have e2 := ok.unseeExt e
    exact k (W'.unsee env σ) H' d s' e2 (ok.after e2 (unseeWS ws)) h
  | exc x s' =>
    rw [q] at h
    exact fun W' H' c dd e ws rp => h (W'.unsee env σ) H' c dd (ok.ext.trans (ok.unseeExt e)) (unseeWS ws) rp
  | no => rw [q] at h; exact h
@[simp] def sDrop (v : Bool) (me : VE → M D) : MS := fun env s => (exq v me env s).bind fun _ s => .ok (.nx env) s
theorem es_expr (v : Bool) (he : EE X G e me) (hs : swapsWith e none pos.line X.env = pure false := by rfl) : ES X G (.Expr e pos) (sDrop v me) := ps_imp (ps_expr he hs) fun D σ H h => by
  obtain ⟨H0, W0, pins, W, env, s, ok, h⟩ := h
  exact ex_read ok h fun W' H' u d s' _ ok' r _ h' => h' W' H' σ ok'
@[simp] def sSet (v : Bool) (i : Nat) (me : VE → M D) : MS := fun env s => (exq v me env s).bind fun d s => .ok (.nx (env.set i (.val d))) s
theorem es_set (v : Bool) (i : Nat) {x : Str} {pos' : Pos} (hN : X.N.Nodup) (he : EE X G e me) (hi : X.N[i]? = some x := by rfl) (hx : Loc X.env.scope x := by first | exact .inl rfl | exact .inr rfl) (hs : swapsWith e (some (.Name x pos')) pos.line X.env = pure false := by rfl) (hf : X.fn x = true ∨ X.env.scope.names.lookup x = some .local := by first | exact .inl rfl | exact .inr rfl | assumption) :
    ES X G (.Assign [.Name x pos'] e pos) (sSet v i me) := ps_imp (ps_set hN hi hx he hs hf) fun D σ H h => by
  obtain ⟨H0, W0, pins, W, env, s, ok, h⟩ := h
  exact ex_read ok h fun W' H' u d s' _ ok' r _ h' => h' W' H' _ (ok'.set r)
/-- return: all own lists may be handed out -/
@[simp] def sRet (me : VE → M D) : MS := fun env s => (me (viewE env) s).bind fun d s => .ok (.rt d) s
theorem es_ret (he : EE X G e me) : ES X G (.Return (some e) pos) (sRet me) := ps_imp (ps_ret he) fun D σ H h => by
  obtain ⟨H0, W0, pins, W, env, s, ok, h⟩ := h
  refine ⟨W.see env σ, viewE env, s, ok.seen, ok.seeWS, ?_⟩
  unfold sRet at h
  cases q : me (viewE env) s with
  | ok d s' =>
    rw [q] at h
    exact fun W' H' u e ws rp => h W' H' u (ok.seeExt0.trans e) ws rp
  | exc x s' =>
    rw [q] at h
    exact fun W' H' c dd e ws rp => h W' H' c dd (ok.seeExt0.trans e) ws rp
  | no => rw [q] at h; exact h
@[simp] def sRetN : MS := fun env s => .ok (.rt .non) s
theorem es_retN : ES X G (.Return none pos) sRetN := ps_imp ps_retN fun D σ H h => by
  obtain ⟨H0, W0, pins, W, env, s, ok, h⟩ := h
  exact h W H _ ok.ext ok.ws (by simp)
@[simp] def sIf (mt : VE → M Bool) (m1 m2 : MS) : MS := fun env s => (mt (viewE env) s).bind fun b s => if b = true then m1 env s else m2 env s
theorem es_if {a b : List Stmt} (hc : ET X G c mt) (ha : ESs X G a m1) (hb : ESs X G b m2) : ES X G (.If c a b pos) (sIf mt m1 m2) := ps_imp (ps_if hc ha hb) fun D σ H h => by
  obtain ⟨H0, W0, pins, W, env, s, ok, h⟩ := h
  refine et_read ok h fun W' H' b s' _ ok' h' => ?_
  cases b with
  | true => exact iteT ⟨H0, W0, pins, W', env, s', ok', h'⟩
  | false => exact iteF ⟨H0, W0, pins, W', env, s', ok', h'⟩
/-- targets -/
@[simp] def setSl (env : SE) : List (Nat × D) → SE
  | [] => env
  | (i, d) :: r => setSl (env.set i (.val d)) r
theorem StOk.setA {K : PySem.W.Frag} {H0 : Hp} {W0 : Wd} {pins : List (D × V)} {W : Wd} {H : Hp} {s : DS} : ∀ {as : List (Nat × D)} {bs : List (Nat × V)} {σ : L2.St} {env : SE}, StOk K H0 W0 pins W H σ env s → AsR K W H as bs → StOk K H0 W0 pins W H (setA σ bs) (setSl env as) s
  | [], bs, σ, env, h, g => by simp only [AsR] at g; subst g; exact h
  | (i, d) :: r, bs, σ, env, h, g => by
    simp only [AsR] at g
    obtain ⟨v, q, rfl, h1, h2⟩ := g
    show StOk K H0 W0 pins W H (L2.Mir.setA (σ.set i (some v)) q) (setSl (env.set i (.val d)) r) s
    exact StOk.setA (h.set h1) h2
@[simp] def sAsg (v : Bool) (p : Pat) (me : VE → M D) : MS := fun env s => (exq v me env s).bind fun d s => match p.run d with
  | some as => .ok (.nx (setSl env as)) s
  | none => .no
theorem AsR.mn {K : PySem.W.Frag} {W W' : Wd} {H H' : Hp} : ∀ {as : List (Nat × D)} {bs : List (Nat × V)}, (∀ d v, Rep K W H d v → Rep K W' H' d v) → AsR K W H as bs → AsR K W' H' as bs
  | [], bs, _, h => by simpa [AsR] using h
  | (i, d) :: r, bs, f, h => by
    simp only [AsR] at h ⊢
    obtain ⟨v, q, rfl, h1, h2⟩ := h
    exact ⟨v, q, rfl, f d v h1, AsR.mn f h2⟩
theorem es_asg (v : Bool) {tg : Expr} {p : Pat} (he : EE X G e me) (hg : EG X G.K tg p) (hs : swapsWithSole [tg] e pos.line X.env = pure false := by rfl) (hw : swappedStores [tg] e X.env = pure none := by rfl)
    (h1 : (assignEach [tg] X.env).map (·.2) = [assign tg X.env] := by rfl) : ES X G (.Assign [tg] e pos) (sAsg v p me) := ps_imp (ps_asg he hg hs hw h1) fun D σ H h => by
  obtain ⟨H0, W0, pins, W, env, s, ok, h⟩ := h
  refine ex_read ok h fun W' H' u d s' _ ok' r _ h' => ?_
  split at h'
  · rename_i as q
    exact ⟨W', d, as, r, q, fun bs hb => h' W' H' _ (ok'.setA hb)⟩
  · exact h'.elim
/-- a, b = e1, e2 -/
@[simp] def exqL (v : Bool) (m : VE → M (List D)) : SE → M (List D) := fun env s => if v = true then (m (viewE env) s).bind fun d s => if D.flats d = true then .ok d s else .no else m (hideE env) s
theorem exL_read {v : Bool} {ml : VE → M (List D)} {H0 : Hp} {W0 : Wd} {pins : List (D × V)} {W : Wd} {H : Hp} {σ : L2.St} {env : SE} {s : DS} {f : List D → DS → Res Fl} {Dn : Ends} {R : List V → Hp → Prop} (ok : StOk G.K H0 W0 pins W H σ env s) (h : AftS G H0 W0 pins ((exqL v ml env s).bind f) Dn)
    (k : ∀ W' H' u d s', Ext W H W' H' → StOk G.K H0 W0 pins W' H' σ env s' → Reps G.K W' H' d u → AftS G H0 W0 pins (f d s') Dn → R u H') : tML G ml σ H R := by
  cases v with
  | false =>
    refine ⟨W, hideE env, s, ok.hid, ok.ws, ?_⟩
    have e0 : exqL false ml env s = ml (hideE env) s := rfl
    rw [e0] at h
    cases q : ml (hideE env) s with
    | ok d s' =>
      rw [q] at h
      exact fun W' H' u e ws rp => k W' H' u d s' e (ok.after e ws) rp h
    | exc x s' =>
      rw [q] at h
      exact fun W' H' c dd e ws rp => h W' H' c dd (ok.ext.trans e) ws rp
    | no => rw [q] at h; exact h
  | true =>
    refine ⟨W.see env σ, viewE env, s, ok.seen, ok.seeWS, ?_⟩
    have e0 : exqL true ml env s = (ml (viewE env) s).bind fun d s => if D.flats d = true then .ok d s else .no := rfl
    rw [e0] at h
    cases q : ml (viewE env) s with
    | ok d s' =>
      rw [q] at h
      simp only [bind_ok] at h
      by_cases fl : D.flats d = true
      · rw [if_pos fl] at h
        intro W' H' u e ws rp
        have e2 := ok.unseeExt e
        exact k (W'.unsee env σ) H' u d s' e2 (ok.after e2 (unseeWS ws)) (Reps.flatW (W := W') (W' := W'.unsee env σ) d u fl (fun _ z => z) rp) h
      · rw [if_neg fl] at h; exact h.elim
    | exc x s' =>
      rw [q] at h
      exact fun W' H' c dd e ws rp => h (W'.unsee env σ) H' c dd (ok.ext.trans (ok.unseeExt e)) (unseeWS ws) rp
    | no => rw [q] at h; exact h
@[simp] def sPar (v : Bool) (i j : Nat) (ml : VE → M (List D)) : MS := fun env s => (exqL v ml env s).bind fun ds s => match ds with
  | [d, d'] => .ok (.nx ((env.set i (.val d)).set j (.val d'))) s
  | _ => .no
theorem es_par (v : Bool) (i j : Nat) {x y : Str} {a b : Expr} {ml : VE → M (List D)} {px py pt : Pos} {kt k2 pt2} (hc : X.calm = true) (hN : X.N.Nodup) (ha : EA X G [a, b] ml) (hi : X.N[i]? = some x := by rfl) (hj : X.N[j]? = some y := by rfl) (hij : i ≠ j := by decide)
    (hx : X.env.scope.names.lookup x = some .local := by rfl) (hy : X.env.scope.names.lookup y = some .local := by rfl)
    (hw : swappedStores [.Tuple [.Name x px, .Name y py] kt pt] (.Tuple [a, b] k2 pt2) X.env = pure (some [x, y]) := by rfl)
    (hs : swapsWithSole [.Tuple [.Name x px, .Name y py] kt pt] (.Tuple [a, b] k2 pt2) pos.line X.env = pure false := by rfl) :
    ES X G (.Assign [.Tuple [.Name x px, .Name y py] kt pt] (.Tuple [a, b] k2 pt2) pos) (sPar v i j ml) := ps_imp (ps_par hc hN hi hj hij hx hy ha hw hs) fun D σ H h => by
  obtain ⟨H0, W0, pins, W, env, s, ok, h⟩ := h
  refine exL_read ok h fun W' H' u d s' _ ok' r h' => ?_
  split at h'
  · obtain ⟨v1, v2, rfl, r1, r2⟩ := r.two
    exact ⟨v1, v2, rfl, h' W' H' _ ((ok'.set r1).set r2)⟩
  · exact h'.elim

/-! ### loops -/
def whileGo (c : VE → M Bool) (body : MS) : Nat → MS
  | 0, _, _ => .no
  | n + 1, env, s => (c (viewE env) s).bind fun b s => if b = true then (body env s).bind fun fl s => (match fl with
      | .nx env' => whileGo c body n env' s
      | .ct env' => whileGo c body n env' s
      | .bk env' => .ok (.nx env') s
      | .rt d => .ok (.rt d) s) else .ok (.nx env) s
/-- turns allowed: more than any int or length that stands -/
def dMeas : D → Nat
  | .int i => i.natAbs
  | .lst ds => ds.length
  | .tup ds => ds.length
  | _ => 0
def slMeas : Sl → Nat
  | .val d => dMeas d
  | .own ds => ds.length
  | .no => 0
def measE (env : SE) : Nat := 1000 + (env.map slMeas).sum
def sWhile (c : VE → M Bool) (body : MS) : MS := fun env s => whileGo c body (measE env) env s
theorem es_while {body : List Stmt} {mb : MS} (hp : PassesOwn (model X.prog X.w) X.A X.env X.xe) (hc : ET X G c mt) (hb : ESs X G body mb) : ES X G (.While c body [] pos) (sWhile mt mb) := ps_imp (ps_while hp hc hb) fun D σ H h => by
  obtain ⟨H0, W0, pins, W, env, s, ok, h⟩ := h
  refine ⟨fun m σ H => ∃ W env s, StOk G.K H0 W0 pins W H σ env s ∧ AftS G H0 W0 pins (whileGo mt mb m env s) D, ⟨measE env, W, env, s, ok, h⟩, fun m σ H q => ?_⟩
  obtain ⟨W, env, s, ok, h⟩ := q
  cases m with
  | zero => exact h.elim
  | succ m =>
    simp only [whileGo] at h
    refine et_read ok h fun W' H' b s' _ ok' h' => ?_
    cases b with
    | false => exact iteF (h' W' H' σ ok')
    | true =>
      simp only [if_true] at h' ⊢
      refine ⟨fun σ' H' => ∃ W env s, StOk G.K H0 W0 pins W H' σ' env s ∧ AftS G H0 W0 pins (whileGo mt mb m env s) D, fun σ' H' q => ⟨m, Nat.lt_succ_self m, q⟩, H0, W0, pins, W', env, s', ok', ?_⟩
      cases q : mb env s' with
      | ok fl s2 =>
        rw [q] at h'
        simp only [bind_ok] at h'
        cases fl with
        | nx env' => exact fun W2 H2 σ2 ok2 => ⟨W2, env', s2, ok2, h'⟩
        | ct env' => exact fun W2 H2 σ2 ok2 => ⟨W2, env', s2, ok2, h'⟩
        | bk env' => exact h'
        | rt d => exact h'
      | exc x s2 => rw [q] at h'; exact h'
      | no => rw [q] at h'; exact h'
def forGo (p : Pat) (body : MS) : List D → MS
  | [], env, s => .ok (.nx env) s
  | d :: r, env, s => match p.run d with
    | none => .no
    | some as => (body (setSl env as) s).bind fun fl s => match fl with
      | .nx env' => forGo p body r env' s
      | .ct env' => forGo p body r env' s
      | .bk env' => .ok (.nx env') s
      | .rt d => .ok (.rt d) s
@[simp] def sFor (p : Pat) (mi : VE → M (List D)) (body : MS) : MS := fun env s => (mi (hideE env) s).bind fun ds s => forGo p body ds env s
theorem es_for {tg iter : Expr} {body : List Stmt} {mb : MS} {p : Pat} {mi : VE → M (List D)} (hp : PassesOwn (model X.prog X.w) X.A X.env X.xe) (hc : X.calm = true) (hi : EI X G tg iter mi) (hg : EG X G.K tg p) (hb : ESs X G body mb)
    (hs : ∀ x, foldedSetIterable iter X.env x = pure x := by intro _; rfl) : ES X G (.For tg iter body [] pos) (sFor p mi mb) := ps_imp (ps_for hp hc hi hg hb hs) fun D σ H h => by
  obtain ⟨H0, W0, pins, W, env, s, ok, h⟩ := h
  refine ⟨W, hideE env, s, ok.hid, ok.ws, ?_⟩
  unfold sFor at h
  cases q : mi (hideE env) s with
  | no => rw [q] at h; exact h
  | exc x s' =>
    rw [q] at h
    exact fun W' H' c dd e ws rp => h W' H' c dd (ok.ext.trans e) ws rp
  | ok ds s1 =>
    rw [q] at h
    simp only [bind_ok] at h
    intro W1 H1 J d0 v0 e1 ws1 r0 F
    let P : Nat → L2.St → Hp → Prop := fun i σ H => ∃ W env s, StOk G.K H0 W0 ((d0, v0) :: pins) W H σ env s ∧ AftS G H0 W0 pins (forGo p mb (ds.drop i) env s) D
    have unpin : ∀ {W H σ env s}, StOk G.K H0 W0 ((d0, v0) :: pins) W H σ env s → StOk G.K H0 W0 pins W H σ env s := fun ok => ok.pins_of fun q hq => ok.pin q (List.mem_cons_of_mem _ hq)
    refine ⟨fun i m σ H => m = ds.length - i ∧ i ≤ ds.length ∧ P i σ H, ⟨_, rfl, Nat.zero_le _, W1, env, s1, (ok.after e1 ws1).pins_of (fun q hq => ?_), h⟩, ?_⟩
    · rcases List.mem_cons.mp hq with rfl | hq
      · exact r0
      · exact (ok.pin q hq).ext e1 _ _
    rintro i m σ2 H2 ⟨rfl, hi, W2, env2, s2, ok2, h2⟩
    have rp := ok2.pin _ List.mem_cons_self
    obtain ⟨F1, F2⟩ := F W2 H2 rp
    by_cases hlt : i < ds.length
    · refine .inr ?_
      have hd : ds[i]? = some ds[i] := List.getElem?_eq_getElem hlt
      obtain ⟨go, yl⟩ := F1 i _ hd
      refine ⟨go, P (i + 1), fun σ' H' q => ⟨ds.length - (i + 1), by omega, rfl, by omega, q⟩, fun x H3 hy => ?_⟩
      obtain ⟨e3, w3, rx⟩ := yl x H3 hy
      rw [List.drop_eq_getElem_cons hlt] at h2
      simp only [forGo] at h2
      split at h2
      · exact h2.elim
      · rename_i as qa
        have ok3 := ok2.after e3 (w3 s2 ok2.ws)
        refine ⟨W2, ds[i], as, rx, qa, fun bs hb2 => ⟨H0, W0, (d0, v0) :: pins, W2, _, s2, ok3.setA hb2, ?_⟩⟩
        cases q5 : mb (setSl env2 as) s2 with
        | no => rw [q5] at h2; exact h2
        | exc x' s' => rw [q5] at h2; exact h2
        | ok fl s5 =>
          rw [q5] at h2
          simp only [bind_ok] at h2
          cases fl with
          | nx env' => exact fun W5 H5 σ5 ok5 => ⟨W5, env', s5, ok5, h2⟩
          | ct env' => exact fun W5 H5 σ5 ok5 => ⟨W5, env', s5, ok5, h2⟩
          | bk env' => exact fun W5 H5 σ5 ok5 => h2 W5 H5 σ5 (unpin ok5)
          | rt d => exact h2
    · refine .inl ?_
      have e : i = ds.length := by omega
      subst e
      rw [List.drop_length] at h2
      exact ⟨F2, h2 W2 H2 σ2 (unpin ok2)⟩
end
end
end L2.Mir

set_option Elab.async false
set_option linter.all false
set_option maxRecDepth 100000
namespace L2.Mir
open PySem PySem.Spec PyProof.Rows
noncomputable section

section
variable {X : Cx} {G : Gx} {e c o : Expr} {me mi : VE → M D} {pos : Pos}
/-! ### x = a fresh list, the slot's own -/
theorem exF_read {v : Bool} {H0 : Hp} {W0 : Wd} {pins : List (D × V)} {W : Wd} {H : Hp} {σ : L2.St} {env : SE} {s : DS} {f : List D → DS → Res Fl} {Dn : Ends} {R : VK} (ok : StOk G.K H0 W0 pins W H σ env s)
    (h : AftS G H0 W0 pins ((if v = true then (me (viewE env) s).bind fun d s => (match d with | .lst ds => if D.flats ds = true then f ds s else .no | _ => .no) else (me (hideE env) s).bind fun d s => (match d with | .lst ds => f ds s | _ => .no))) Dn)
    (k : ∀ W' H' p vs ds s', Ext W H W' H' → StOk G.K H0 W0 pins W' H' σ env s' → H p = none → H' p = some (.lst vs) → Reps G.K W' H' ds vs → ¬ W'.F p → ¬ W'.isS p → AftS G H0 W0 pins (f ds s') Dn → R (.ref p) H') : tMF G me σ H R := by
  cases v with
  | false =>
    simp only [Bool.false_eq_true, if_false] at h
    refine ⟨W, hideE env, s, ok.hid, ok.ws, ?_⟩
    cases q : me (hideE env) s with
    | ok d s' =>
      rw [q] at h
      cases d with
      | lst ds => exact fun W' H' p vs e ws hp hp' r nF nS => k W' H' p vs ds s' e (ok.after e ws) hp hp' r nF nS h
      | _ => exact h
    | exc x s' =>
      rw [q] at h
      exact fun W' H' c dd e ws rp => h W' H' c dd (ok.ext.trans e) ws rp
    | no => rw [q] at h; exact h
  | true =>
    simp only [if_true] at h
    refine ⟨W.see env σ, viewE env, s, ok.seen, ok.seeWS, ?_⟩
    cases q : me (viewE env) s with
    | ok d s' =>
      rw [q] at h
      cases d with
      | lst ds =>
        simp only [bind_ok] at h
        by_cases fl : D.flats ds = true
        · rw [if_pos fl] at h
          intro W' H' p vs e ws hp hp' r nF nS
          have e2 := ok.unseeExt e
          exact k (W'.unsee env σ) H' p vs ds s' e2 (ok.after e2 (unseeWS ws)) hp hp' (Reps.flatW (W := W') (W' := W'.unsee env σ) ds vs fl (fun _ z => z) r) (fun z => nF z.1) nS h
        · rw [if_neg fl] at h; exact h.elim
      | _ => exact h
    | exc x s' =>
      rw [q] at h
      exact fun W' H' c dd e ws rp => h (W'.unsee env σ) H' c dd (ok.ext.trans (ok.unseeExt e)) (unseeWS ws) rp
    | no => rw [q] at h; exact h
@[simp] def sSetO (v : Bool) (i : Nat) (me : VE → M D) : MS := fun env s => if v = true then (me (viewE env) s).bind fun d s => (match d with | .lst ds => if D.flats ds = true then .ok (.nx (env.set i (.own ds))) s else .no | _ => .no) else (me (hideE env) s).bind fun d s => (match d with | .lst ds => .ok (.nx (env.set i (.own ds))) s | _ => .no)
theorem setO_fin {i : Nat} {H0 : Hp} {W0 : Wd} {pins : List (D × V)} {W W' : Wd} {H H' : Hp} {σ : L2.St} {env : SE} {s s' : DS} {p : Addr} {vs : List V} {ds : List D} (ok : StOk G.K H0 W0 pins W H σ env s) (ok' : StOk G.K H0 W0 pins W' H' σ env s') (hp : H p = none) (hp' : H' p = some (.lst vs)) (r : Reps G.K W' H' ds vs) (nF : ¬ W'.F p) (nS : ¬ W'.isS p) :
    StOk G.K H0 W0 pins W' H' (σ.set i (some (.ref p))) (env.set i (.own ds)) s' :=
  ok'.setOwn hp' r nF nS (ok.ext.dom p hp) fun j es _ q1 q2 => by
    obtain ⟨p', us, e1, e2, _⟩ := ok.own j es q1
    rw [q2] at e1
    cases e1
    rw [hp] at e2
    cases e2
theorem es_setO (v : Bool) (i : Nat) {x : Str} {pos' : Pos} (hN : X.N.Nodup) (he : EF X G e me) (hi : X.N[i]? = some x := by rfl) (hx : Loc X.env.scope x := by first | exact .inl rfl | exact .inr rfl) (hs : swapsWith e (some (.Name x pos')) pos.line X.env = pure false := by rfl) (hf : X.fn x = true ∨ X.env.scope.names.lookup x = some .local := by first | exact .inl rfl | exact .inr rfl | assumption) :
    ES X G (.Assign [.Name x pos'] e pos) (sSetO v i me) := ps_imp (ps_set hN hi hx he hs hf) fun D σ H h => by
  obtain ⟨H0, W0, pins, W, env, s, ok, h⟩ := h
  exact exF_read (f := fun ds s => .ok (.nx (env.set i (.own ds))) s) ok h fun W' H' p vs ds s' _ ok' hp hp' r nF nS h' => h' W' H' _ (setO_fin ok ok' hp hp' r nF nS)
/-! ### x = [.. for ..] on one row -/
section
variable {i : Nat} {y : Str} {py : Pos} {elt tg iter : Expr} {ifs : List Expr} {scope : Scope} {own : List (Str × Nat)} {spos : Pos} {p : Pat} {ml : VE → M (List D)} {tt : VE → M Bool} {te : VE → M D}
theorem es_setLc (v : Bool) (i : Nat) (hc : X.calm = true) (hN : X.N.Nodup) (hsw : swapsWith (.ListComp elt [⟨tg, iter, ifs, 0⟩] scope pos) (some (.Name y py)) spos.line X.env = pure true) (hi : EI X G tg iter ml) (ok : BlkOk X.N X.env.scope scope own)
    (hv : (p.slots.all fun i => (own.map (·.2)).contains i) = true)
    (hg : ∀ (s : Shared) (H : Hp) (C : Addr) (cl : List (Str × Addr)) (fp : List Addr), EG (X.blk s H scope (compEnvC scope cl C X.env) fp) G.K tg p) (ht : ∀ (s : Shared) (H : Hp) (C : Addr) (cl : List (Str × Addr)) (fp : List Addr), ETs (X.blk s H scope (compEnvC scope cl C X.env) fp) G ifs tt)
    (he : ∀ (s : Shared) (H : Hp) (C : Addr) (cl : List (Str × Addr)) (fp : List Addr), EE (X.blk s H scope (compEnvC scope cl C X.env) fp) G elt te) (hy : X.N[i]? = some y := by rfl) (hyl : X.env.scope.names.lookup y = some .local := by rfl) (hs : ∀ x, foldedSetIterable iter X.env x = pure x := by intro _; rfl) :
    ES X G (.Assign [.Name y py] (.ListComp elt [⟨tg, iter, ifs, 0⟩] scope pos) spos) (sSet v i (mLc p (own.map (·.2)) ml tt te)) := ps_imp (ps_setLc hc hN hy hyl hsw hi ok hg ht he hs) fun D σ H h => by
  obtain ⟨H0, W0, pins, W, env, s, ok, h⟩ := h
  exact lc_tLc hv (ex_read ok h fun W' H' u d s' _ ok' r _ h' => h' W' H' _ (ok'.set r))
theorem es_setLcO (v : Bool) (i : Nat) (hc : X.calm = true) (hN : X.N.Nodup) (hsw : swapsWith (.ListComp elt [⟨tg, iter, ifs, 0⟩] scope pos) (some (.Name y py)) spos.line X.env = pure true) (hi : EI X G tg iter ml) (ok : BlkOk X.N X.env.scope scope own)
    (hv : (p.slots.all fun i => (own.map (·.2)).contains i) = true)
    (hg : ∀ (s : Shared) (H : Hp) (C : Addr) (cl : List (Str × Addr)) (fp : List Addr), EG (X.blk s H scope (compEnvC scope cl C X.env) fp) G.K tg p) (ht : ∀ (s : Shared) (H : Hp) (C : Addr) (cl : List (Str × Addr)) (fp : List Addr), ETs (X.blk s H scope (compEnvC scope cl C X.env) fp) G ifs tt)
    (he : ∀ (s : Shared) (H : Hp) (C : Addr) (cl : List (Str × Addr)) (fp : List Addr), EE (X.blk s H scope (compEnvC scope cl C X.env) fp) G elt te) (hy : X.N[i]? = some y := by rfl) (hyl : X.env.scope.names.lookup y = some .local := by rfl) (hs : ∀ x, foldedSetIterable iter X.env x = pure x := by intro _; rfl) :
    ES X G (.Assign [.Name y py] (.ListComp elt [⟨tg, iter, ifs, 0⟩] scope pos) spos) (sSetO v i (mLc p (own.map (·.2)) ml tt te)) := ps_imp (ps_setLc hc hN hy hyl hsw hi ok hg ht he hs) fun D σ H h => by
  obtain ⟨H0, W0, pins, W, env, s, ok, h⟩ := h
  exact lc_tLcF hv (exF_read (f := fun ds s => .ok (.nx (env.set i (.own ds))) s) ok h fun W' H' p vs ds s' _ ok' hp hp' r nF nS h' => h' W' H' _ (setO_fin ok ok' hp hp' r nF nS))
end
/-! ### x.append(e), x[k] = e -/
@[simp] def ownOf (env : SE) (i : Nat) : Option (List D) := match env[i]? with
  | some (.own ds) => some ds
  | _ => none
theorem ownOf_some {env : SE} {i : Nat} {ds : List D} (h : ownOf env i = some ds) : env[i]? = some (.own ds) := by
  unfold ownOf at h
  split at h
  · rename_i q; rw [q]; cases h; rfl
  · cases h
@[simp] def sApp (v : Bool) (i : Nat) (me : VE → M D) : MS := fun env s => match ownOf env i with
  | none => .no
  | some ds => (exq v me env s).bind fun d s => if LenOk (ds.length + 1) then .ok (.nx (env.set i (.own (ds ++ [d])))) s else .no
theorem es_app (v : Bool) (i : Nat) {x : Str} {p1 p2 : Pos} (he : EE X G e me) (hK : X.K = G.K)
    (hN : X.N[i]? = some x := by rfl) (hv : Vis X.env.scope x := by first | exact Or.inl rfl | exact Or.inr (Or.inl rfl) | exact Or.inr (Or.inr rfl)) (hd : (x == ("__debug__" : Str)) = false := by decide) (hcd : (x == ("__classdict__" : Str)) = false := by decide)
    (hm : ∀ {te : TE}, PE X e te → PE X (.Call (.Attribute (.Name x p1) "append" p2) [e] [] pos) (tBM X.K "list" rAppend (tVar i) (tCons te tNil))) {pos' : Pos}
    (hs : swapsWith (.Call (.Attribute (.Name x p1) "append" p2) [e] [] pos) none pos'.line X.env = pure false := by rfl) :
    ES X G (.Expr (.Call (.Attribute (.Name x p1) "append" p2) [e] [] pos) pos') (sApp v i me) := ps_imp (ps_expr (hm he) hs) fun D σ H h => by
  obtain ⟨H0, W0, pins, W, env, s, ok, h⟩ := h
  unfold sApp at h
  split at h
  · exact h.elim
  · rename_i ds q
    have hi := ownOf_some q
    obtain ⟨p, vs, e1, e2, _, nF, nS, _⟩ := ok.own i ds hi
    refine ⟨_, e1, .inl ⟨rfl, vs, .inl (.inl e2)⟩, ?_⟩
    refine ex_read ok h fun W' H' u d s' ex ok' r _ h' => ?_
    split at h'
    · rename_i hz
      obtain ⟨p', vs', f1, f2, f3, _⟩ := ok'.own i ds hi
      rw [e1] at f1
      cases f1
      refine ⟨p, vs', u, rfl, rfl, f2, by rw [f3.length]; exact hz, ?_⟩
      refine h' W' _ σ (ok'.mut (vs' := vs' ++ [u]) hi e1 f2 ?_)
      exact f3.append (by simp only [Reps]; exact ⟨u, [], rfl, r, rfl⟩)
    · exact h'.elim
@[simp] def sSetI (v : Bool) (i : Nat) (mk : VE → M D) (me : VE → M D) : MS := fun env s => (exq v me env s).bind fun d s => match ownOf env i with
  | none => .no
  | some ds => (exq true mk env s).bind fun k s => match k with
    | .int n => (match ixN ds.length n with
      | some j => .ok (.nx (env.set i (.own (ds.set j d)))) s
      | none => .no)
    | _ => .no
theorem es_setI (v : Bool) (i : Nat) {x : Str} {p1 p2 : Pos} {ix : Expr} {mk : VE → M D} (he : EE X G e me) (hx : EE X G ix mk)
    (hN : X.N[i]? = some x := by rfl) (hv : Vis X.env.scope x := by first | exact Or.inl rfl | exact Or.inr (Or.inl rfl) | exact Or.inr (Or.inr rfl)) (hd : (x == ("__debug__" : Str)) = false := by decide) (hcd : (x == ("__classdict__" : Str)) = false := by decide)
    (ha : ∀ v, assign (.Subscript (.Name x p1) ix p2) X.env v = (do
      let ov ← holding [v] (eval (.Name x p1) X.env)
      let iv ← holding [v, ov] (eval ix X.env)
      standAt p2
      holding [v, ov, iv] (setItem ov iv v)
      release [v, ov, iv] []) := by intro _; rfl)
    (hs : swapsWithSole [.Subscript (.Name x p1) ix p2] e pos.line X.env = pure false := by rfl) (hw : swappedStores [.Subscript (.Name x p1) ix p2] e X.env = pure none := by rfl)
    (h1 : (assignEach [.Subscript (.Name x p1) ix p2] X.env).map (·.2) = [assign (.Subscript (.Name x p1) ix p2) X.env] := by rfl) :
    ES X G (.Assign [.Subscript (.Name x p1) ix p2] e pos) (sSetI v i mk me) := ps_imp (ps_asg he (pg_sub (pe_var hN hv hd hcd) hx set_list ha) hs hw h1) fun D σ H h => by
  obtain ⟨H0, W0, pins, W, env, s, ok, h⟩ := h
  refine ex_read ok h fun W' H' u d s' ex ok' r _ h' => ?_
  split at h'
  · exact h'.elim
  · rename_i ds q
    have hi := ownOf_some q
    obtain ⟨p, vs, e1, e2, _, nF, nS, _⟩ := ok'.own i ds hi
    refine ⟨_, e1, ?_⟩
    refine ex_read ok' h' fun W2 H2 u2 k s2 ex2 ok2 r2 _ h2 => ?_
    split at h2
    · rename_i n
      split at h2
      · rename_i j hj
        obtain ⟨p', vs', f1, f2, f3, _⟩ := ok2.own i ds hi
        rw [e1] at f1
        cases f1
        refine ⟨p, vs', _, j, rfl, rep_int r2, f2, by rw [f3.length]; exact hj, ?_⟩
        exact h2 W2 _ σ (ok2.mut (vs' := vs'.set j u) hi e1 f2 (f3.set (Rep.ext ex2 _ _ r) j))
      · exact h2.elim
    · exact h2.elim
end

/-! ### a def -/
@[simp] def startE (n : Nat) (ds : List D) : SE := ds.map Sl.val ++ List.replicate (n - ds.length) Sl.no
@[simp] def runDef (n : Nat) (m : MS) (ds : List D) : M D := fun s => (m (startE n ds) s).bind fun fl s => match fl with
  | .rt d => .ok d s
  | .nx _ => .ok .non s
  | _ => .no
theorem start_ok {K : PySem.W.Frag} {W : Wd} {H : Hp} {s : DS} {N : List Str} {vs : List V} {ds : List D} (r : Reps K W H ds vs) (ws : WS W s H) : StOk K H W [] W H (start N vs) (startE N.length ds) s where
  len := by simp [start, startE, r.length]
  val := fun i d q => by
    unfold startE at q
    have l := r.length
    by_cases hi : i < ds.length
    · rw [List.getElem?_append_left (by simpa using hi), List.getElem?_map, List.getElem?_eq_getElem hi] at q
      simp only [Option.map_some, Option.some.injEq, Sl.val.injEq] at q
      obtain ⟨v, h1, h2⟩ := r.get (i := i) (d := d) (by rw [List.getElem?_eq_getElem hi, q])
      refine ⟨v, ?_, h2⟩
      unfold start
      rw [List.getElem?_append_left (by simpa [l] using hi), List.getElem?_map, h1]
      rfl
    · rw [List.getElem?_append_right (by simp; omega)] at q
      rw [List.getElem?_replicate] at q
      split at q <;> simp at q
  own := fun i ds' q => by
    unfold startE at q
    by_cases hi : i < ds.length
    · rw [List.getElem?_append_left (by simpa using hi), List.getElem?_map, List.getElem?_eq_getElem hi] at q
      simp at q
    · rw [List.getElem?_append_right (by simp; omega)] at q
      rw [List.getElem?_replicate] at q
      split at q <;> simp at q
  dist := fun i j ds' es p hij q _ _ => by
    exfalso
    unfold startE at q
    by_cases hi : i < ds.length
    · rw [List.getElem?_append_left (by simpa using hi), List.getElem?_map, List.getElem?_eq_getElem hi] at q
      simp at q
    · rw [List.getElem?_append_right (by simp; omega)] at q
      rw [List.getElem?_replicate] at q
      split at q <;> simp at q
  ext := Ext.refl W H
  ws := ws
  pin := fun q hq => by cases hq
section
variable {P : Program} {w : World} {K : PySem.W.Frag} {mg : Str → Option Value} {base : Heap} {xr : XR}
theorem def_read {G : Gx} {m : MS} {N : List Str} {W : Wd} {H : Hp} {vs : List V} {ds : List D} {s : DS} {Q : VK} (rs : Reps G.K W H ds vs) (ws : WS W s H) (h : Aft G W H (runDef N.length m ds s) Q) :
    tMS G m { nx := fun _ H' => Q .non H', rt := Q } (start N vs) H := by
  refine ⟨H, W, [], W, _, s, start_ok rs ws, ?_⟩
  unfold runDef at h
  cases q : m (startE N.length ds) s with
  | no => rw [q] at h; exact h
  | exc x s' => rw [q] at h; exact h
  | ok fl s' =>
    rw [q] at h
    simp only [bind_ok] at h
    cases fl with
    | nx env => exact fun W' H' σ ok => h W' H' _ ok.ext ok.ws (by simp)
    | rt d => exact h
    | bk env => exact h.elim
    | ct env => exact h.elim
/-- a def that raises nothing -/
theorem fn_ok {x qual : Str} {st : Stmt} {f : Addr} {fd : FuncData} {N ps : List Str} {k : Nat} {m : MS} (F : Fun K x qual st f fd) (S : FnScope N ps (defScope st))
    (hbody : ∀ (cdv : Value) (A : Around) (outer : List Env) (s : Shared) (H : Hp) (E : XK), Room k (A.deeper (envOfC qual (defScope st) s.heap.objs.size f cdv)) →
      ESs (cxOf CX0 P w K mg base N qual (defScope st) f cdv A outer s H E).nox ⟨K, xr, E⟩ (defBody st) m) :
    FnOk P w K mg base CX0 (k + 1) f fd ps (spM K xr ps.length (runDef N.length m)) := by
  refine F.ok S (fun vs H Q E h => h.1) (fun cdv A outer s H vs Q E hr h => ?_)
  obtain ⟨hl, W, ds, ds', rs, ws, h⟩ := h
  exact ⟨_, hbody cdv A outer s H E hr, def_read rs ws h⟩
end

theorem fn_ok' {P : Program} {w : World} {K : PySem.W.Frag} {mg : Str → Option Value} {base : Heap} {xr : XR} {x qual : Str} {st : Stmt} {f : Addr} {fd : FuncData} {N ps : List Str} {m : MS} {lv n : Nat} {fm : List D → M D} (k : Nat) (hk : lv = k + 1) (hn : n = ps.length) (hf : fm = runDef N.length m) (F : Fun K x qual st f fd) (S : FnScope N ps (defScope st))
    (hbody : ∀ (cdv : Value) (A : Around) (outer : List Env) (s : Shared) (H : Hp) (E : XK), Room k (A.deeper (envOfC qual (defScope st) s.heap.objs.size f cdv)) →
      ESs (cxOf CX0 P w K mg base N qual (defScope st) f cdv A outer s H E).nox ⟨K, xr, E⟩ (defBody st) m) :
    FnOk P w K mg base CX0 lv f fd ps (spM K xr n fm) := by
  subst hk hn hf
  exact fn_ok F S hbody

/-! ### the draws' state -/
/-- what _law_state makes of the script -/
def stCells (ns : List Int) : List Int := let c := (ns.take 63).map fun i => if i < 0 then -i else i
  if c.length = 0 then [0] else c
def spState (K : PySem.W.Frag) : Sp := fun vs H Q _ => ∃ (a : Addr) (ns : List Int), vs = [.ref a] ∧ SqL K H a (ns.map V.int) ∧ ns.length ≤ 63 ∧
  ∀ H' p c, Same H H' → H p = none → H c = none → p ≠ c → H' p = some (.lst [.int 0, .ref c]) → H' c = some (.lst ((stCells ns).map V.int)) → Q (.ref p) H'
/-- one draw -/
def takeC (most at' : Int) (cells : List Int) : Int × Int × List Int :=
  if most < 2 then (0, at', cells)
  else
    let i := (at' % (cells.length : Int)).toNat
    let cell := cells.getD i 0
    if 1000000000000000000 ≤ cell then (cell % most, at', cells.set i (cell / most))
    else
      let mixed := (cell * 48271 + (at' + 1) * 69621) % 2147483647
      let mixed := (mixed * 16807 + (at' + 1) * 7919) % 1000000007
      (mixed / 7 % most, at' + 1, cells)
def fTake (ds : List D) : M D := fun s => match ds, s with
  | [.st, .int most], some (at', cells) => if cells.length ≠ 0 ∧ TakeOk most then (.ok (.int (takeC most at' cells).1) (some ((takeC most at' cells).2.1, (takeC most at' cells).2.2))) else .no
  | _, _ => .no
def spTake : Sp := fun vs H Q _ => ∃ (sa ca : Addr) (at' most : Int) (cells : List Int), vs = [.ref sa, .int most] ∧ H sa = some (.lst [.int at', .ref ca]) ∧ H ca = some (.lst (cells.map V.int)) ∧ sa ≠ ca ∧ cells.length ≠ 0 ∧ (most < 2 ∨ most.natAbs.log2 < 9000) ∧
  ∀ H', (∀ a, a ≠ sa → a ≠ ca → H' a = H a) → H' sa = some (.lst [.int (takeC most at' cells).2.1, .ref ca]) → H' ca = some (.lst ((takeC most at' cells).2.2.map V.int)) → Q (.int (takeC most at' cells).1) H'
theorem take_imp {K : PySem.W.Frag} {xr : XR} : ∀ vs H Q E, spM K xr 2 fTake vs H Q E → spTake vs H Q E := by
  intro vs H Q E h
  obtain ⟨hl, W, ds, s, rs, ws, h⟩ := h
  unfold fTake at h
  split at h
  · rename_i most at' cells
    split at h
    · rename_i hz
      obtain ⟨v, v', rfl, r1, r2⟩ := rs.two
      simp only [Rep] at r1
      obtain ⟨p, hp, rfl⟩ := r1
      rcases ws.2 with ⟨g1, g2⟩ | ⟨sa, ca, i, cells', h0, h00, h1, h2, h3, h4, h5⟩
      · cases g2
      · cases h00
        rw [h0] at hp
        cases hp
        refine ⟨sa, ca, at', most, cells, by rw [rep_int r2], h1, h2, h3, hz.1, hz.2, fun H' k e1 e2 => ?_⟩
        have nS : ∀ a, ¬ W.isS a → a ≠ sa ∧ a ≠ ca := fun a n => ⟨fun e => n ⟨_, h0, .inl e⟩, fun e => n ⟨_, h0, .inr e⟩⟩
        have stay : ∀ a o, H a = some o → (∀ xs, o ≠ .lst xs) → H' a = some o := fun a o q ne => by
          rw [k a (fun e => by rw [e, h1] at q; cases q; exact ne _ rfl) (fun e => by rw [e, h2] at q; cases q; exact ne _ rfl)]; exact q
        refine h W H' (.int _) ⟨fun a o q n => by rw [k a (nS a n).1 (nS a n).2]; exact q, fun a xs q => ?_, fun a o f q => ?_, fun a q => ?_, fun _ f => f, fun _ f => .inl f, fun _ f => f, fun _ f => .inl f⟩ ⟨fun a f => ?_, .inr ⟨sa, ca, _, _, h0, rfl, e1, e2, h3, h4, h5⟩⟩ (rep_int_iff.mpr rfl)
        · rcases q with q | ⟨b, q⟩
          · exact .inl (stay _ _ q fun _ z => by cases z)
          · exact .inr ⟨b, stay _ _ q fun _ z => by cases z⟩
        · rw [k a (fun e => h4 (e ▸ f)) (fun e => h5 (e ▸ f))]; exact q
        · by_cases c1 : a = sa
          · rw [c1, e1] at q; cases q
          · by_cases c2 : a = ca
            · rw [c2, e2] at q; cases q
            · rw [← k a c1 c2]; exact q
        · rw [k a (fun e => h4 (e ▸ f)) (fun e => h5 (e ▸ f))]; exact ws.1 a f
    · exact h.elim
  · exact h.elim
/-- the law's promise -/
def spLaw (K : PySem.W.Frag) : Sp := fun vs H Q _ => ∃ (a : Addr) (ns : List Int), vs = [.ref a] ∧ SqL K H a (ns.map V.int) ∧ ns.length ≤ 63 ∧ ∀ H', Q (.bl true) H'
/-- the law's first row makes the state (slot i), the rest is by its mirror -/
def lawOk (n i : Nat) (m : MS) : Prop := ∀ ns : List Int, ns.length ≤ 63 → ∃ s', m ((List.replicate n Sl.no).set i (.val .st)) (some (0, stCells ns)) = .ok (.rt (.bl true)) s'
section
variable {X : Cx} {G : Gx}
theorem law_read {n i : Nat} {m : MS} (hl : lawOk n i m) {ns : List Int} (hns : ns.length ≤ 63) {Q : VK} (q : ∀ H', Q (.bl true) H') {σ : L2.St} (hσ : σ.length = n) {H : Hp} {p c : Addr} (hpc : p ≠ c) (e1 : H p = some (.lst [.int 0, .ref c])) (e2 : H c = some (.lst ((stCells ns).map V.int))) {nx : L2.St → Hp → Prop} :
    tMS G m { nx := nx, rt := Q } (σ.set i (some (.ref p))) H := by
  obtain ⟨s', h⟩ := hl ns hns
  have get : ∀ (j : Nat) (x : Sl), ((List.replicate n Sl.no).set i (.val .st))[j]? = some x → (x = .no) ∨ (j = i ∧ x = .val .st ∧ i < n) := fun j x q => by
    by_cases hj : i = j
    · subst hj
      by_cases hi : i < n
      · rw [List.getElem?_set_self (by simpa using hi)] at q
        cases q
        exact .inr ⟨rfl, rfl, hi⟩
      · rw [List.getElem?_eq_none (by simpa using hi)] at q; cases q
    · rw [List.getElem?_set_ne hj, List.getElem?_replicate] at q
      split at q
      · cases q; exact .inl rfl
      · cases q
  refine ⟨H, ⟨fun _ => False, some (p, c)⟩, [], ⟨fun _ => False, some (p, c)⟩, (List.replicate n Sl.no).set i (.val .st), some (0, stCells ns), ⟨by simp [hσ], fun j d q1 => ?_, fun j ds q1 => ?_, fun j k ds es p' _ q1 => ?_, Ext.refl _ _, ⟨fun _ f => f.elim, .inr ⟨p, c, 0, stCells ns, rfl, rfl, e1, e2, hpc, fun f => f, fun f => f⟩⟩, fun q hq => by cases hq⟩, ?_⟩
  · rcases get j _ q1 with z | ⟨rfl, z, hi⟩
    · cases z
    · cases z
      refine ⟨.ref p, List.getElem?_set_self (by rw [hσ]; exact hi), ?_⟩
      simp only [Rep]
      exact ⟨(p, c), rfl, rfl⟩
  · rcases get j _ q1 with z | ⟨_, z, _⟩ <;> cases z
  · rcases get j _ q1 with z | ⟨_, z, _⟩ <;> cases z
  · rw [h]
    exact fun W' H' v _ _ r => by rw [r.bl_of]; exact q H'
end
end
end L2.Mir
namespace L2.Mir
open PySem PySem.Spec PyProof.Rows
noncomputable section
section
variable {X : Cx} {G : Gx} {pos : Pos}
@[simp] def sPar3 (v : Bool) (i j l : Nat) (ml : VE → M (List D)) : MS := fun env s => (exqL v ml env s).bind fun ds s => match ds with
  | [d, d', d''] => .ok (.nx (((env.set i (.val d)).set j (.val d')).set l (.val d''))) s
  | _ => .no
theorem Reps.three {K : PySem.W.Frag} {W : Wd} {H : Hp} {d d' d'' : D} {vs : List V} (r : Reps K W H [d, d', d''] vs) : ∃ v v' v'', vs = [v, v', v''] ∧ Rep K W H d v ∧ Rep K W H d' v' ∧ Rep K W H d'' v'' := by
  simp only [Reps] at r
  obtain ⟨v, w, rfl, h, v', w', rfl, h', v'', w'', rfl, h'', rfl⟩ := r
  exact ⟨v, v', v'', rfl, h, h', h''⟩
theorem es_par3 (v : Bool) (i j l : Nat) {x y z : Str} {a b c : Expr} {ml : VE → M (List D)} {px py pz pt : Pos} {kt k2 pt2} (hc : X.calm = true) (hN : X.N.Nodup) (ha : EA X G [a, b, c] ml) (hi : X.N[i]? = some x := by rfl) (hj : X.N[j]? = some y := by rfl) (hl : X.N[l]? = some z := by rfl) (hij : i ≠ j := by decide) (hil : i ≠ l := by decide) (hjl : j ≠ l := by decide)
    (hx : X.env.scope.names.lookup x = some .local := by rfl) (hy : X.env.scope.names.lookup y = some .local := by rfl) (hz : X.env.scope.names.lookup z = some .local := by rfl)
    (hw : swappedStores [.Tuple [.Name x px, .Name y py, .Name z pz] kt pt] (.Tuple [a, b, c] k2 pt2) X.env = pure (some [x, y, z]) := by rfl)
    (hs : swapsWithSole [.Tuple [.Name x px, .Name y py, .Name z pz] kt pt] (.Tuple [a, b, c] k2 pt2) pos.line X.env = pure false := by rfl) :
    ES X G (.Assign [.Tuple [.Name x px, .Name y py, .Name z pz] kt pt] (.Tuple [a, b, c] k2 pt2) pos) (sPar3 v i j l ml) := ps_imp (ps_par3 hc hN hi hj hl hij hil hjl hx hy hz ha hw hs) fun D σ H h => by
  obtain ⟨H0, W0, pins, W, env, s, ok, h⟩ := h
  refine exL_read ok h fun W' H' u d s' _ ok' r h' => ?_
  split at h'
  · obtain ⟨v1, v2, v3, rfl, r1, r2, r3⟩ := r.three
    exact ⟨v1, v2, v3, rfl, h' W' H' _ (((ok'.set r1).set r2).set r3)⟩
  · exact h'.elim
def ipD (f : Int → Int → Int) (x y : D) : M D := fun s => match x, y with
  | .int i, .int j => .ok (.int (f i j)) s
  | _, _ => .no
end
end
end L2.Mir

set_option Elab.async false
set_option linter.all false
set_option maxRecDepth 100000
namespace L2.Mir
open PySem PySem.Spec PyProof.Rows
noncomputable section

/-! ### == by its cases -/
def deqs (xs ys : List D) : Bool := PyData.eqvAll (toPys xs) (toPys ys)
@[simp] theorem deq_int (i j : Int) : deq (.int i) (.int j) = decide (i = j) := by simp [deq, toPy, PyData.eqv, Bool.beq_eq_decide_eq]
@[simp] theorem deq_bl (i j : Bool) : deq (.bl i) (.bl j) = decide (i = j) := by simp [deq, toPy, PyData.eqv, Bool.beq_eq_decide_eq]
@[simp] theorem deq_str (i j : Str) : deq (.str i) (.str j) = decide (i = j) := by simp [deq, toPy, PyData.eqv, Bool.beq_eq_decide_eq]
@[simp] theorem deq_non : deq .non .non = true := by simp [deq, toPy, PyData.eqv]
@[simp] theorem deq_tup (xs ys : List D) : deq (.tup xs) (.tup ys) = deqs xs ys := by simp [deq, toPy, PyData.eqv, deqs]
@[simp] theorem deq_lst (xs ys : List D) : deq (.lst xs) (.lst ys) = deqs xs ys := by simp [deq, toPy, PyData.eqv, deqs]
@[simp] theorem deqs_nil : deqs [] [] = true := by simp [deqs, toPys, PyData.eqvAll]
@[simp] theorem deqs_cons (x y : D) (xs ys : List D) : deqs (x :: xs) (y :: ys) = (deq x y && deqs xs ys) := by simp [deqs, toPys, PyData.eqvAll, deq]
@[simp] theorem deqs_nc (y : D) (ys : List D) : deqs [] (y :: ys) = false := by simp [deqs, toPys, PyData.eqvAll]
@[simp] theorem deqs_cn (y : D) (ys : List D) : deqs (y :: ys) [] = false := by simp [deqs, toPys, PyData.eqvAll]
@[simp] theorem deq_bl_int (b : Bool) (j : Int) : deq (.bl b) (.int j) = ((if b then 1 else 0) == j) := by simp [deq, toPy, PyData.eqv]
@[simp] theorem deq_int_bl (i : Int) (b : Bool) : deq (.int i) (.bl b) = (i == (if b then 1 else 0)) := by simp [deq, toPy, PyData.eqv]
@[simp] theorem deq_non_tup (xs : List D) : deq .non (.tup xs) = false := by simp [deq, toPy, PyData.eqv]
@[simp] theorem deq_tup_non (xs : List D) : deq (.tup xs) .non = false := by simp [deq, toPy, PyData.eqv]
@[simp] theorem deq_non_lst (xs : List D) : deq .non (.lst xs) = false := by simp [deq, toPy, PyData.eqv]
@[simp] theorem deq_lst_non (xs : List D) : deq (.lst xs) .non = false := by simp [deq, toPy, PyData.eqv]
@[simp] theorem deq_non_int (i : Int) : deq .non (.int i) = false := by simp [deq, toPy, PyData.eqv]
@[simp] theorem deq_int_non (i : Int) : deq (.int i) .non = false := by simp [deq, toPy, PyData.eqv]
@[simp] theorem deq_non_bl (i : Bool) : deq .non (.bl i) = false := by simp [deq, toPy, PyData.eqv]
@[simp] theorem deq_bl_non (i : Bool) : deq (.bl i) .non = false := by simp [deq, toPy, PyData.eqv]
@[simp] theorem deq_non_str (i : Str) : deq .non (.str i) = false := by simp [deq, toPy, PyData.eqv]
@[simp] theorem deq_str_non (i : Str) : deq (.str i) .non = false := by simp [deq, toPy, PyData.eqv]
@[simp] theorem deq_tup_lst (xs ys : List D) : deq (.tup xs) (.lst ys) = false := by simp [deq, toPy, PyData.eqv]
@[simp] theorem deq_lst_tup (xs ys : List D) : deq (.lst xs) (.tup ys) = false := by simp [deq, toPy, PyData.eqv]
@[simp] theorem deq_tup_int (xs : List D) (i : Int) : deq (.tup xs) (.int i) = false := by simp [deq, toPy, PyData.eqv]
@[simp] theorem deq_int_tup (xs : List D) (i : Int) : deq (.int i) (.tup xs) = false := by simp [deq, toPy, PyData.eqv]
@[simp] theorem deq_lst_int (xs : List D) (i : Int) : deq (.lst xs) (.int i) = false := by simp [deq, toPy, PyData.eqv]
@[simp] theorem deq_int_lst (xs : List D) (i : Int) : deq (.int i) (.lst xs) = false := by simp [deq, toPy, PyData.eqv]
@[simp] theorem deq_str_int (x : Str) (i : Int) : deq (.str x) (.int i) = false := by simp [deq, toPy, PyData.eqv]
@[simp] theorem deq_int_str (x : Str) (i : Int) : deq (.int i) (.str x) = false := by simp [deq, toPy, PyData.eqv]
@[simp] theorem deq_tup_str (xs : List D) (i : Str) : deq (.tup xs) (.str i) = false := by simp [deq, toPy, PyData.eqv]
@[simp] theorem deq_str_tup (xs : List D) (i : Str) : deq (.str i) (.tup xs) = false := by simp [deq, toPy, PyData.eqv]
@[simp] theorem deq_tup_bl (xs : List D) (i : Bool) : deq (.tup xs) (.bl i) = false := by simp [deq, toPy, PyData.eqv]
@[simp] theorem deq_bl_tup (xs : List D) (i : Bool) : deq (.bl i) (.tup xs) = false := by simp [deq, toPy, PyData.eqv]

/-! ### indices by numbers -/
@[simp] theorem atI_zero {α : Type} (x : α) (xs : List α) : L2.atI (x :: xs) 0 = some x := atI_nat (j := 0) rfl
@[simp] theorem atI_one {α : Type} (x y : α) (xs : List α) : L2.atI (x :: y :: xs) 1 = some y := atI_nat (j := 1) rfl
@[simp] theorem atI_two {α : Type} (x y z : α) (xs : List α) : L2.atI (x :: y :: z :: xs) 2 = some z := atI_nat (j := 2) rfl

/-! ### steps of a block -/
theorem sSeq_nx {m1 m2 : MS} {env env' : SE} {s s' : DS} (h : m1 env s = .ok (.nx env') s') : sSeq m1 m2 env s = m2 env' s' := by simp [h]
theorem sSeq_rt {m1 m2 : MS} {env : SE} {s s' : DS} {d : D} (h : m1 env s = .ok (.rt d) s') : sSeq m1 m2 env s = .ok (.rt d) s' := by simp [h]
theorem runDef_rt {n : Nat} {m : MS} {ds : List D} {s s' : DS} {d : D} (h : m (startE n ds) s = .ok (.rt d) s') : runDef n m ds s = .ok d s' := by
  unfold runDef; rw [h]; rfl

/-! ### the draws -/
def StateOk (s : DS) : Prop := ∃ at' cells, s = some (at', cells) ∧ cells.length ≠ 0
theorem stateOk_st (ns : List Int) : StateOk (some (0, stCells ns)) := by
  refine ⟨0, stCells ns, rfl, ?_⟩
  unfold stCells
  simp only []
  split
  · simp
  · assumption
theorem fTake_ok {s : DS} (h : StateOk s) (most : Int) (hm : TakeOk most) : ∃ r s', fTake [.st, .int most] s = .ok (.int r) s' ∧ StateOk s' ∧ 0 ≤ r ∧ (r < most ∨ (most < 2 ∧ r = 0)) := by
  obtain ⟨at', cells, rfl, hc⟩ := h
  refine ⟨(takeC most at' cells).1, some ((takeC most at' cells).2.1, (takeC most at' cells).2.2), by simp [fTake, hc, hm], ?_⟩
  unfold takeC
  split
  · exact ⟨⟨at', cells, rfl, hc⟩, Int.le_refl _, .inr ⟨by assumption, rfl⟩⟩
  · rename_i h2
    simp only []
    split
    · exact ⟨⟨_, _, rfl, by simpa using hc⟩, Int.emod_nonneg _ (by omega), .inl (Int.emod_lt_of_pos _ (by omega))⟩
    · exact ⟨⟨_, _, rfl, hc⟩, Int.emod_nonneg _ (by omega), .inl (Int.emod_lt_of_pos _ (by omega))⟩
end
end L2.Mir

set_option Elab.async false
set_option linter.all false
set_option maxRecDepth 100000
namespace L2.Mir
open PySem PySem.Spec PyProof.Rows
noncomputable section

/-! ### the greatest common divisor by rests -/
theorem gcd_step (a b : Int) : Int.gcd b (a % b) = Int.gcd a b := by
  have h := Int.gcd_mul_left_add_left b (a % b) (a / b)
  rw [Int.mul_ediv_add_emod] at h
  rw [h, Int.gcd_comm]
/-- a loop of turns that makes (a, b) into (b, a mod b) till b is 0 -/
theorem gcd_turns {B : MS} {p : Pat} {i : Nat} {E : Int → Int → Sl → SE} (hp : p = .n i) (h0 : ∀ a t s, B (E a 0 t) s = .ok (.bk (E a 0 t)) s) (h1 : ∀ a b t s, 0 < b → B (E a b t) s = .ok (.nx (E b (a % b) t)) s)
    (hset : ∀ a b t d, (E a b t).set i (.val d) = E a b (.val d)) (s : DS) : ∀ (k : Nat) (a b : Int) (t : Sl) (ds : List D), 0 ≤ a → 0 ≤ b → b < 2 ^ k → 2 * k + 1 ≤ ds.length →
    ∃ t', forGo p B ds (E a b t) s = .ok (.nx (E (Int.gcd a b) 0 t')) s := by
  subst hp
  intro k
  induction k with
  | zero =>
    intro a b t ds ha hb hk hl
    have e : b = 0 := by simp at hk; omega
    subst e
    cases ds with
    | nil => simp at hl
    | cons d r => exact ⟨.val d, by simp [forGo, hset, h0, Int.natAbs_of_nonneg ha]⟩
  | succ k ih =>
    intro a b t ds ha hb hk hl
    by_cases e : b = 0
    · subst e
      cases ds with
      | nil => simp at hl
      | cons d r => exact ⟨.val d, by simp [forGo, hset, h0, Int.natAbs_of_nonneg ha]⟩
    · have hp : 0 < b := by omega
      have r0 : 0 ≤ a % b := Int.emod_nonneg _ e
      have r1 : a % b < b := Int.emod_lt_of_pos _ hp
      match ds, hl with
      | d :: d' :: r, hl =>
        by_cases e2 : a % b = 0
        · refine ⟨.val d', ?_⟩
          have g := gcd_step a b
          rw [e2] at g
          simp only [Int.gcd_zero] at g
          have hh : (b.natAbs : Int) = b := Int.natAbs_of_nonneg hb
          rw [g] at hh
          simp [forGo, hset, h1 _ _ _ _ hp, e2, h0, hh]
        · have hp2 : 0 < a % b := by omega
          have q0 : 0 ≤ b % (a % b) := Int.emod_nonneg _ e2
          have q1 : b % (a % b) < a % b := Int.emod_lt_of_pos _ hp2
          have q2 : b % (a % b) + (a % b) * (b / (a % b)) = b := Int.emod_add_mul_ediv ..
          have q3 : 1 ≤ b / (a % b) := Int.le_ediv_of_mul_le hp2 (by omega)
          have q4 : (a % b) * 1 ≤ (a % b) * (b / (a % b)) := Int.mul_le_mul_of_nonneg_left q3 r0
          have q5 : b % (a % b) < 2 ^ k := by
            have : (2 : Int) ^ (k + 1) = 2 * 2 ^ k := by rw [Int.pow_succ]; omega
            omega
          obtain ⟨t', ht⟩ := ih (a % b) (b % (a % b)) (.val d') r r0 q0 q5 (by simp at hl; omega)
          rw [gcd_step, gcd_step] at ht
          exact ⟨t', by simp [forGo, hset, h1 _ _ _ _ hp, h1 _ _ _ _ hp2, ht]⟩
      | [d], hl => simp at hl
      | [], hl => simp at hl

/-! ### sizes -/
theorem mulOk_of {i j : Int} {a b : Nat} (ha : i.natAbs < 2 ^ a) (hb : j.natAbs < 2 ^ b) (h : a + b ≤ 1000000) : mulOk i j = true := by
  unfold mulOk
  refine @decide_eq_true _ (_) ?_
  by_cases h0 : a = 0
  · subst h0
    left
    have : i.natAbs < 1 := by simpa using ha
    omega
  · by_cases h1 : b = 0
    · subst h1
      right; left
      have : j.natAbs < 1 := by simpa using hb
      omega
    · right; right
      have x := log2_lt_of_pow ha (by omega)
      have y := log2_lt_of_pow hb (by omega)
      omega

@[simp] theorem mulOk_L {i j : Int} (h : i.natAbs < 18446744073709551616) : mulOk i j = true := by
  unfold mulOk; refine @decide_eq_true _ (_) ?_; left; omega
@[simp] theorem mulOk_R {i j : Int} (h : j.natAbs < 18446744073709551616) : mulOk i j = true := by
  unfold mulOk; refine @decide_eq_true _ (_) ?_; right; left; omega

/-! ### parts are rational numbers -/
def qD (q : Rat) : D := .tup [.int q.num, .int q.den]
theorem qD_inj {x y : Rat} (h : qD x = qD y) : x = y := by
  simp only [qD, D.tup.injEq, List.cons.injEq, D.int.injEq, and_true] at h
  exact Rat.ext h.1 (by omega)
@[simp] theorem okD_q (n : Nat) (q : Rat) : okD (n + 1) (qD q) = true := by simp [qD]
@[simp] theorem okD_q60 (q : Rat) : okD 60 (qD q) = true := okD_q 59 q
@[simp] theorem flat_q (q : Rat) : D.flat (qD q) = true := by simp [qD]
@[simp] theorem deq_q (x y : Rat) : deq (qD x) (qD y) = decide (x = y) := by
  simp only [qD, deq_tup, deqs_cons, deq_int, deqs_nil, Bool.and_true]
  rw [← Bool.decide_and]
  congr 1
  simp only [eq_iff_iff]
  exact ⟨fun h => Rat.ext h.1 (by omega), fun h => by subst h; simp⟩
@[simp] theorem isNonD_q (q : Rat) : isNonD (qD q) = some false := rfl
@[simp] theorem tyN_q (q : Rat) : tyN (qD q) = some "tuple" := rfl
/-- sizes of parts, in binary digits -/
def szQ (k : Nat) (q : Rat) : Prop := q.num.natAbs < 2 ^ k ∧ q.den < 2 ^ k
theorem szQ.mono {k j : Nat} {q : Rat} (h : szQ k q) (hj : k ≤ j) : szQ j q :=
  ⟨Nat.lt_of_lt_of_le h.1 (Nat.pow_le_pow_right (by decide) hj), Nat.lt_of_lt_of_le h.2 (Nat.pow_le_pow_right (by decide) hj)⟩
theorem divInt_sz {a b : Int} {k : Nat} (ha : a.natAbs < 2 ^ k) (hb : b.natAbs < 2 ^ k) (hb0 : b ≠ 0) : szQ k (Rat.divInt a b) := by
  refine ⟨?_, ?_⟩
  · rw [Rat.num_divInt]
    refine Nat.lt_of_le_of_lt ?_ ha
    have h1 : ((b.gcd a : Nat) : Int) ∣ b.sign * a := Int.dvd_mul_of_dvd_right (Int.gcd_dvd_right ..)
    rw [Int.natAbs_ediv_of_dvd h1, Int.natAbs_mul]
    refine Nat.le_trans (Nat.div_le_self _ _) ?_
    have : b.sign.natAbs ≤ 1 := by
      rcases Int.lt_trichotomy b 0 with h | h | h
      · rw [Int.sign_eq_neg_one_of_neg h]; decide
      · omega
      · rw [Int.sign_eq_one_of_pos h]; decide
    exact Nat.le_trans (Nat.mul_le_mul_right _ this) (by omega)
  · rw [Rat.den_divInt, if_neg hb0]
    exact Nat.lt_of_le_of_lt (Nat.div_le_self _ _) hb
theorem pow_lt_mul {a b i j : Nat} (ha : a < 2 ^ i) (hb : b < 2 ^ j) : a * b < 2 ^ (i + j) := by
  rw [Nat.pow_add]; exact Nat.mul_lt_mul'' ha hb
theorem den_ne (q : Rat) : (q.den : Int) ≠ 0 := by have := q.den_pos; omega
theorem add_divInt (x y : Rat) : Rat.divInt (x.num * y.den + y.num * x.den) (x.den * y.den) = x + y := by
  rw [Rat.add_def', ← Rat.divInt_ofNat]; simp
theorem sub_divInt (x y : Rat) : Rat.divInt (x.num * y.den - y.num * x.den) (x.den * y.den) = x - y := by
  rw [Rat.sub_def', ← Rat.divInt_ofNat]; simp
theorem mul_divInt (x y : Rat) : Rat.divInt (x.num * y.num) (x.den * y.den) = x * y := by
  rw [Rat.mul_def', ← Rat.divInt_ofNat]; simp
theorem div_divInt (x y : Rat) : Rat.divInt (x.num * y.den) (x.den * y.num) = x / y := by
  rw [Rat.div_def, Rat.inv_def, ← Rat.num_divInt_den x, Rat.divInt_mul_divInt, Rat.num_divInt_den]
theorem szQ.mul {x y : Rat} {i j : Nat} (hx : szQ i x) (hy : szQ j y) : szQ (i + j) (x * y) := by
  rw [← mul_divInt]
  refine divInt_sz ?_ ?_ (by simp [x.den_nz, y.den_nz])
  · rw [Int.natAbs_mul]; exact pow_lt_mul hx.1 hy.1
  · rw [Int.natAbs_mul]; exact pow_lt_mul hx.2 hy.2
theorem szQ.neg {x : Rat} {i : Nat} (hx : szQ i x) : szQ i (-x) := ⟨by simpa using hx.1, hx.2⟩
theorem szQ.add {x y : Rat} {i j : Nat} (hx : szQ i x) (hy : szQ j y) : szQ (i + j + 1) (x + y) := by
  rw [← add_divInt]
  have h1 := pow_lt_mul hx.1 hy.2
  have h2 := pow_lt_mul hy.1 hx.2
  rw [Nat.add_comm j i] at h2
  refine divInt_sz ?_ ?_ (by simp [x.den_nz, y.den_nz])
  · refine Nat.lt_of_le_of_lt (Int.natAbs_add_le _ _) ?_
    rw [Int.natAbs_mul, Int.natAbs_mul, Int.natAbs_natCast, Int.natAbs_natCast, Nat.pow_succ]
    omega
  · rw [Int.natAbs_mul, Int.natAbs_natCast, Int.natAbs_natCast]
    have := pow_lt_mul hx.2 hy.2
    rw [Nat.pow_succ]
    omega
theorem szQ.sub {x y : Rat} {i j : Nat} (hx : szQ i x) (hy : szQ j y) : szQ (i + j + 1) (x - y) := by
  rw [Rat.sub_eq_add_neg]; exact hx.add hy.neg
/-- a normal pair -/
theorem qD_divInt (a b : Int) (hb : 0 < b) : qD (Rat.divInt a b) = .tup [.int (a / (Int.gcd a b : Nat)), .int (b / (Int.gcd a b : Nat))] := by
  unfold qD
  rw [Rat.num_divInt, Rat.den_divInt, if_neg (by omega), Int.sign_eq_one_of_pos hb, Int.one_mul, Int.gcd_comm b a]
  congr 3
  rw [Int.natCast_ediv]
  congr 2
  omega
end
end L2.Mir
namespace L2.Mir
open PySem PySem.Spec PyProof.Rows
noncomputable section
/-! ### comprehensions as maps -/
theorem lcGo_map {f : D → M (Option D)} {g : D → D} {s : DS} : ∀ {ds : List D}, (∀ d ∈ ds, f d s = .ok (some (g d)) s) → lcGo f ds s = .ok (ds.map g) s
  | [], _ => rfl
  | d :: ds, h => by
    simp only [lcGo]
    rw [h d List.mem_cons_self, bind_ok, lcGo_map fun x hx => h x (List.mem_cons_of_mem _ hx)]
    rfl
theorem lcGo_id {f : D → M (Option D)} {s : DS} {ds : List D} (h : ∀ d ∈ ds, f d s = .ok (some d) s) : lcGo f ds s = .ok ds s := by
  rw [lcGo_map (g := id) h, List.map_id]
theorem lcGo_filter {f : D → M (Option D)} {p : D → Bool} {s : DS} : ∀ {ds : List D}, (∀ d ∈ ds, f d s = .ok (if p d = true then some d else none) s) → lcGo f ds s = .ok (ds.filter p) s
  | [], _ => rfl
  | d :: ds, h => by
    simp only [lcGo]
    rw [h d List.mem_cons_self, bind_ok, lcGo_filter fun x hx => h x (List.mem_cons_of_mem _ hx), bind_ok]
    cases q : p d <;> simp [q]
/-- .. over encoded items -/
theorem lcGo_mapE {α : Type} {f : D → M (Option D)} {e : α → D} {g : α → D} {s : DS} : ∀ {l : List α}, (∀ a ∈ l, f (e a) s = .ok (some (g a)) s) → lcGo f (l.map e) s = .ok (l.map g) s
  | [], _ => rfl
  | d :: ds, h => by
    simp only [lcGo, List.map_cons]
    rw [h d List.mem_cons_self, bind_ok, lcGo_mapE fun x hx => h x (List.mem_cons_of_mem _ hx)]
    rfl
theorem rngD_len (lo hi : Int) : (rngD lo hi).length = (hi - lo).toNat := by simp [rngD]
theorem rngD_nat (n : Nat) : rngD 0 n = (List.range n).map fun (i : Nat) => D.int i := by
  unfold rngD
  simp
theorem atI_getElem {α : Type} {xs : List α} {i : Nat} (h : i < xs.length) : L2.atI xs (i : Int) = some xs[i] := atI_nat (List.getElem?_eq_getElem h)
/-- draws fill a list -/
theorem lcGo_draw {f : D → M (Option D)} {P : D → Prop} (h : ∀ d s, StateOk s → ∃ y s', f d s = .ok (some y) s' ∧ StateOk s' ∧ P y) : ∀ (ds : List D) (s : DS), StateOk s → ∃ ys s', lcGo f ds s = .ok ys s' ∧ StateOk s' ∧ ys.length = ds.length ∧ ∀ y ∈ ys, P y
  | [], s, hs => ⟨[], s, rfl, hs, rfl, by simp⟩
  | d :: ds, s, hs => by
    obtain ⟨y, s1, h1, h2, h3⟩ := h d s hs
    obtain ⟨ys, s2, g1, g2, g3, g4⟩ := lcGo_draw h ds s1 h2
    refine ⟨y :: ys, s2, by simp [lcGo, h1, g1], g2, by simp [g3], fun z hz => ?_⟩
    rcases List.mem_cons.mp hz with rfl | hz
    · exact h3
    · exact g4 z hz
end
end L2.Mir

set_option Elab.async false
set_option linter.all false
set_option maxRecDepth 100000
set_option maxHeartbeats 4000000
namespace L2.Mir.W
open PySem PySem.Spec PyProof.Rows
def topS (i : Nat) : Stmt := PySem.Challenge.pw_bendwright_k13_whole_parts_of_numbers.main.body.getD i (.Pass ⟨0, 0, 0, 0⟩)
def xr0 : XR := fun _ _ _ _ _ => False
abbrev s_divisor : Stmt := topS 1
abbrev nm_divisor : List Str := ["one", "other"]
theorem sc_divisor : FnScope nm_divisor ["one", "other"] (defScope s_divisor) := ⟨rfl, rfl, rfl, by decide +kernel, rfl, by decide +kernel, by decide +kernel⟩
abbrev s_part : Stmt := topS 2
abbrev nm_part : List Str := ["above", "below", "common"]
theorem sc_part : FnScope nm_part ["above", "below"] (defScope s_part) := ⟨rfl, rfl, rfl, by decide +kernel, rfl, by decide +kernel, by decide +kernel⟩
abbrev s_is_part : Stmt := topS 3
abbrev nm_is_part : List Str := ["value", "number"]
theorem sc_is_part : FnScope nm_is_part ["value"] (defScope s_is_part) := ⟨rfl, rfl, rfl, by decide +kernel, rfl, by decide +kernel, by decide +kernel⟩
abbrev s_plus : Stmt := topS 4
abbrev nm_plus : List Str := ["one", "other"]
theorem sc_plus : FnScope nm_plus ["one", "other"] (defScope s_plus) := ⟨rfl, rfl, rfl, by decide +kernel, rfl, by decide +kernel, by decide +kernel⟩
abbrev s_minus : Stmt := topS 5
abbrev nm_minus : List Str := ["one", "other"]
theorem sc_minus : FnScope nm_minus ["one", "other"] (defScope s_minus) := ⟨rfl, rfl, rfl, by decide +kernel, rfl, by decide +kernel, by decide +kernel⟩
abbrev s_times : Stmt := topS 6
abbrev nm_times : List Str := ["one", "other"]
theorem sc_times : FnScope nm_times ["one", "other"] (defScope s_times) := ⟨rfl, rfl, rfl, by decide +kernel, rfl, by decide +kernel, by decide +kernel⟩
abbrev s_over : Stmt := topS 7
abbrev nm_over : List Str := ["one", "other"]
theorem sc_over : FnScope nm_over ["one", "other"] (defScope s_over) := ⟨rfl, rfl, rfl, by decide +kernel, rfl, by decide +kernel, by decide +kernel⟩
abbrev s_is_less : Stmt := topS 8
abbrev nm_is_less : List Str := ["one", "other"]
theorem sc_is_less : FnScope nm_is_less ["one", "other"] (defScope s_is_less) := ⟨rfl, rfl, rfl, by decide +kernel, rfl, by decide +kernel, by decide +kernel⟩
abbrev s_total : Stmt := topS 9
abbrev nm_total : List Str := ["row", "found", "one"]
theorem sc_total : FnScope nm_total ["row"] (defScope s_total) := ⟨rfl, rfl, rfl, by decide +kernel, rfl, by decide +kernel, by decide +kernel⟩
abbrev s_least_of : Stmt := topS 10
abbrev nm_least_of : List Str := ["row", "best", "one"]
theorem sc_least_of : FnScope nm_least_of ["row"] (defScope s_least_of) := ⟨rfl, rfl, rfl, by decide +kernel, rfl, by decide +kernel, by decide +kernel⟩
abbrev s_whole_below : Stmt := topS 11
abbrev nm_whole_below : List Str := ["one"]
theorem sc_whole_below : FnScope nm_whole_below ["one"] (defScope s_whole_below) := ⟨rfl, rfl, rfl, by decide +kernel, rfl, by decide +kernel, by decide +kernel⟩
abbrev s_whole_above : Stmt := topS 12
abbrev nm_whole_above : List Str := ["one"]
theorem sc_whole_above : FnScope nm_whole_above ["one"] (defScope s_whole_above) := ⟨rfl, rfl, rfl, by decide +kernel, rfl, by decide +kernel, by decide +kernel⟩
abbrev s_is_whole_part : Stmt := topS 13
abbrev nm_is_whole_part : List Str := ["one"]
theorem sc_is_whole_part : FnScope nm_is_whole_part ["one"] (defScope s_is_whole_part) := ⟨rfl, rfl, rfl, by decide +kernel, rfl, by decide +kernel, by decide +kernel⟩
abbrev s_are_parts : Stmt := topS 14
abbrev nm_are_parts : List Str := ["value", "many", "one"]
theorem sc_are_parts : FnScope nm_are_parts ["value", "many"] (defScope s_are_parts) := ⟨rfl, rfl, rfl, by decide +kernel, rfl, by decide +kernel, by decide +kernel⟩
abbrev s_scaled : Stmt := topS 15
abbrev nm_scaled : List Str := ["row", "common", "one", "found", "shared", "number"]
theorem sc_scaled : FnScope nm_scaled ["row"] (defScope s_scaled) := ⟨rfl, rfl, rfl, by decide +kernel, rfl, by decide +kernel, by decide +kernel⟩
abbrev s_dot : Stmt := topS 16
abbrev nm_dot : List Str := ["row", "point", "k"]
theorem sc_dot : FnScope nm_dot ["row", "point"] (defScope s_dot) := ⟨rfl, rfl, rfl, by decide +kernel, rfl, by decide +kernel, by decide +kernel⟩
abbrev s__law_state : Stmt := topS 18
abbrev nm__law_state : List Str := ["script", "cells", "cell"]
theorem sc__law_state : FnScope nm__law_state ["script"] (defScope s__law_state) := ⟨rfl, rfl, rfl, by decide +kernel, rfl, by decide +kernel, by decide +kernel⟩
abbrev s__law_take : Stmt := topS 19
abbrev nm__law_take : List Str := ["state", "most", "cells", "at", "cell", "mixed"]
theorem sc__law_take : FnScope nm__law_take ["state", "most"] (defScope s__law_take) := ⟨rfl, rfl, rfl, by decide +kernel, rfl, by decide +kernel, by decide +kernel⟩
abbrev s__law_pick : Stmt := topS 20
abbrev nm__law_pick : List Str := ["state", "row"]
theorem sc__law_pick : FnScope nm__law_pick ["state", "row"] (defScope s__law_pick) := ⟨rfl, rfl, rfl, by decide +kernel, rfl, by decide +kernel, by decide +kernel⟩
abbrev s__law_fr : Stmt := topS 21
abbrev nm__law_fr : List Str := ["above", "below", "one", "other", "turn"]
theorem sc__law_fr : FnScope nm__law_fr ["above", "below"] (defScope s__law_fr) := ⟨rfl, rfl, rfl, by decide +kernel, rfl, by decide +kernel, by decide +kernel⟩
abbrev s__law_add : Stmt := topS 24
abbrev nm__law_add : List Str := ["one", "other"]
theorem sc__law_add : FnScope nm__law_add ["one", "other"] (defScope s__law_add) := ⟨rfl, rfl, rfl, by decide +kernel, rfl, by decide +kernel, by decide +kernel⟩
abbrev s__law_mul : Stmt := topS 25
abbrev nm__law_mul : List Str := ["one", "other"]
theorem sc__law_mul : FnScope nm__law_mul ["one", "other"] (defScope s__law_mul) := ⟨rfl, rfl, rfl, by decide +kernel, rfl, by decide +kernel, by decide +kernel⟩
abbrev s__law_sub : Stmt := topS 26
abbrev nm__law_sub : List Str := ["one", "other"]
theorem sc__law_sub : FnScope nm__law_sub ["one", "other"] (defScope s__law_sub) := ⟨rfl, rfl, rfl, by decide +kernel, rfl, by decide +kernel, by decide +kernel⟩
abbrev s__law_sign : Stmt := topS 27
abbrev nm__law_sign : List Str := ["one", "other", "gap"]
theorem sc__law_sign : FnScope nm__law_sign ["one", "other"] (defScope s__law_sign) := ⟨rfl, rfl, rfl, by decide +kernel, rfl, by decide +kernel, by decide +kernel⟩
abbrev s__law_part : Stmt := topS 28
abbrev nm__law_part : List Str := ["state", "top"]
theorem sc__law_part : FnScope nm__law_part ["state"] (defScope s__law_part) := ⟨rfl, rfl, rfl, by decide +kernel, rfl, by decide +kernel, by decide +kernel⟩
abbrev s__law_gcd : Stmt := topS 29
abbrev nm__law_gcd : List Str := ["one", "other", "turn"]
theorem sc__law_gcd : FnScope nm__law_gcd ["one", "other"] (defScope s__law_gcd) := ⟨rfl, rfl, rfl, by decide +kernel, rfl, by decide +kernel, by decide +kernel⟩
abbrev s__law_gcd_of : Stmt := topS 30
abbrev nm__law_gcd_of : List Str := ["row", "found", "n"]
theorem sc__law_gcd_of : FnScope nm__law_gcd_of ["row"] (defScope s__law_gcd_of) := ⟨rfl, rfl, rfl, by decide +kernel, rfl, by decide +kernel, by decide +kernel⟩
abbrev s__law_is : Stmt := topS 31
abbrev nm__law_is : List Str := ["value", "n"]
theorem sc__law_is : FnScope nm__law_is ["value"] (defScope s__law_is) := ⟨rfl, rfl, rfl, by decide +kernel, rfl, by decide +kernel, by decide +kernel⟩
abbrev s_law : Stmt := topS 32
abbrev nm_law : List Str := ["script", "state", "one", "other", "third", "a", "b", "row", "whole", "least", "n", "low", "high", "told", "k", "j", "numbers", "sums", "value", "rows", "many"]
theorem sc_law : FnScope nm_law ["script"] (defScope s_law) := ⟨rfl, rfl, rfl, by decide +kernel, rfl, by decide +kernel, by decide +kernel⟩
noncomputable section
/-! mirrors -/
abbrev f__law_take : List D → M D := fTake
def m_divisor : MS := (sSeq (sPar false 0 1 (mCons (mCB bAbs (mCons (mVar 0) mNil)) (mCons (mCB bAbs (mCons (mVar 1) mNil)) mNil))) (sSeq (sWhile (mCmpT opNe (mVar 1) (mC (.int 0))) (sPar false 0 1 (mCons (mVar 1) (mCons (mBin opMod (mVar 0) (mVar 1)) mNil)))) (sRet (mVar 0))))
def f_divisor : List D → M D := runDef 2 m_divisor
def m_part : MS := (sSeq (sIf (mCmpT (opCmp pLt) (mVar 1) (mC (.int 0))) (sPar false 0 1 (mCons (mBin opSub (mC (.int 0)) (mVar 0)) (mCons (mBin opSub (mC (.int 0)) (mVar 1)) mNil))) sNx) (sSeq (sSet false 2 (mCall f_divisor (mCons (mVar 0) (mCons (mVar 1) mNil)))) (sRet (mTup (mCons (mBin opDiv (mVar 0) (mVar 2)) (mCons (mBin opDiv (mVar 1) (mVar 2)) mNil))))))
def f_part : List D → M D := runDef 3 m_part
def m_is_part : MS := (sSeq (sIf (mOrT (mNotT (mTru (mIsi "tuple" (mVar 0)))) (mCmpT opNe (mCB bLen (mCons (mVar 0) mNil)) (mC (.int 2)))) (sRet (mC (.bl false))) sNx) (sSeq (sIf (mNotT (mTru (mCB bAll (mCons (mLc (.n 1) [1] (mSeq (mVar 0)) tsYes (mAnd (mIsi "int" (mVar 1)) (mNot (mIsi "bool" (mVar 1))))) mNil)))) (sRet (mC (.bl false))) sNx) (sRet (mAnd (mBin (opCmp pGe) (mBin opIx (mVar 0) (mC (.int 1))) (mC (.int 1))) (mBin opEq (mCall f_divisor (mCons (mBin opIx (mVar 0) (mC (.int 0))) (mCons (mBin opIx (mVar 0) (mC (.int 1))) mNil))) (mC (.int 1)))))))
def f_is_part : List D → M D := runDef 2 m_is_part
def m_plus : MS := (sRet (mCall f_part (mCons (mBin opAdd (mBin opMul (mBin opIx (mVar 0) (mC (.int 0))) (mBin opIx (mVar 1) (mC (.int 1)))) (mBin opMul (mBin opIx (mVar 1) (mC (.int 0))) (mBin opIx (mVar 0) (mC (.int 1))))) (mCons (mBin opMul (mBin opIx (mVar 0) (mC (.int 1))) (mBin opIx (mVar 1) (mC (.int 1)))) mNil))))
def f_plus : List D → M D := runDef 2 m_plus
def m_minus : MS := (sRet (mCall f_part (mCons (mBin opSub (mBin opMul (mBin opIx (mVar 0) (mC (.int 0))) (mBin opIx (mVar 1) (mC (.int 1)))) (mBin opMul (mBin opIx (mVar 1) (mC (.int 0))) (mBin opIx (mVar 0) (mC (.int 1))))) (mCons (mBin opMul (mBin opIx (mVar 0) (mC (.int 1))) (mBin opIx (mVar 1) (mC (.int 1)))) mNil))))
def f_minus : List D → M D := runDef 2 m_minus
def m_times : MS := (sRet (mCall f_part (mCons (mBin opMul (mBin opIx (mVar 0) (mC (.int 0))) (mBin opIx (mVar 1) (mC (.int 0)))) (mCons (mBin opMul (mBin opIx (mVar 0) (mC (.int 1))) (mBin opIx (mVar 1) (mC (.int 1)))) mNil))))
def f_times : List D → M D := runDef 2 m_times
def m_over : MS := (sRet (mCall f_part (mCons (mBin opMul (mBin opIx (mVar 0) (mC (.int 0))) (mBin opIx (mVar 1) (mC (.int 1)))) (mCons (mBin opMul (mBin opIx (mVar 0) (mC (.int 1))) (mBin opIx (mVar 1) (mC (.int 0)))) mNil))))
def f_over : List D → M D := runDef 2 m_over
def m_is_less : MS := (sRet (mBin (opCmp pLt) (mBin opMul (mBin opIx (mVar 0) (mC (.int 0))) (mBin opIx (mVar 1) (mC (.int 1)))) (mBin opMul (mBin opIx (mVar 1) (mC (.int 0))) (mBin opIx (mVar 0) (mC (.int 1))))))
def f_is_less : List D → M D := runDef 2 m_is_less
def m_total : MS := (sSeq (sSet false 1 (mTup (mCons (mC (.int 0)) (mCons (mC (.int 1)) mNil)))) (sSeq (sFor (.n 2) (mSeq (mVar 0)) (sSet false 1 (mCall f_plus (mCons (mVar 1) (mCons (mVar 2) mNil))))) (sRet (mVar 1))))
def f_total : List D → M D := runDef 3 m_total
def m_least_of : MS := (sSeq (sSet false 1 (mC .non)) (sSeq (sFor (.n 2) (mSeq (mVar 0)) (sIf (mOrT (mCmpT (opIs false) (mVar 1) (mC .non)) (mTru (mCall f_is_less (mCons (mVar 2) (mCons (mVar 1) mNil))))) (sSet false 1 (mVar 2)) sNx)) (sRet (mVar 1))))
def f_least_of : List D → M D := runDef 3 m_least_of
def m_whole_below : MS := (sRet (mBin opDiv (mBin opIx (mVar 0) (mC (.int 0))) (mBin opIx (mVar 0) (mC (.int 1)))))
def f_whole_below : List D → M D := runDef 1 m_whole_below
def m_whole_above : MS := (sRet (mBin opSub (mC (.int 0)) (mBin opDiv (mBin opSub (mC (.int 0)) (mBin opIx (mVar 0) (mC (.int 0)))) (mBin opIx (mVar 0) (mC (.int 1))))))
def f_whole_above : List D → M D := runDef 1 m_whole_above
def m_is_whole_part : MS := (sRet (mBin opEq (mBin opIx (mVar 0) (mC (.int 1))) (mC (.int 1))))
def f_is_whole_part : List D → M D := runDef 1 m_is_whole_part
def m_are_parts : MS := (sRet (mAnd (mIsi "tuple" (mVar 0)) (mAnd (mBin opEq (mCB bLen (mCons (mVar 0) mNil)) (mVar 1)) (mCB bAll (mCons (mLc (.n 2) [2] (mSeq (mVar 0)) tsYes (mCall f_is_part (mCons (mVar 2) mNil))) mNil)))))
def f_are_parts : List D → M D := runDef 3 m_are_parts
def m_scaled : MS := (sSeq (sSet false 1 (mC (.int 1))) (sSeq (sFor (.n 2) (mSeq (mVar 0)) (sSet false 1 (mBin opDiv (mBin opMul (mVar 1) (mBin opIx (mVar 2) (mC (.int 1)))) (mCall f_divisor (mCons (mVar 1) (mCons (mBin opIx (mVar 2) (mC (.int 1))) mNil)))))) (sSeq (sSet false 3 (mLc (.n 2) [2] (mSeq (mVar 0)) tsYes (mBin opMul (mBin opIx (mVar 2) (mC (.int 0))) (mBin opDiv (mVar 1) (mBin opIx (mVar 2) (mC (.int 1))))))) (sSeq (sSet false 4 (mC (.int 0))) (sSeq (sFor (.n 5) (mSeq (mVar 3)) (sSet false 4 (mCall f_divisor (mCons (mVar 4) (mCons (mVar 5) mNil))))) (sRet (mIf (mCmpT opEq (mVar 4) (mC (.int 0))) (mCB bTuple (mCons (mVar 3) mNil)) (mCB bTuple (mCons (mLc (.n 5) [5] (mSeq (mVar 3)) tsYes (mBin opDiv (mVar 5) (mVar 4))) mNil)))))))))
def f_scaled : List D → M D := runDef 6 m_scaled
def m_dot : MS := (sRet (mCall f_total (mCons (mLc (.n 2) [2] (mRng1 (mCons (mCB bLen (mCons (mVar 0) mNil)) mNil)) tsYes (mCall f_times (mCons (mBin opIx (mVar 1) (mVar 2)) (mCons (mTup (mCons (mBin opIx (mVar 0) (mVar 2)) (mCons (mC (.int 1)) mNil))) mNil)))) mNil)))
def f_dot : List D → M D := runDef 3 m_dot
def m__law_pick : MS := (sRet (mBin opIx (mVar 1) (mCall f__law_take (mCons (mVar 0) (mCons (mCB bLen (mCons (mVar 1) mNil)) mNil)))))
def f__law_pick : List D → M D := runDef 2 m__law_pick
def m__law_fr : MS := (sSeq (sIf (mCmpT (opCmp pLt) (mVar 1) (mC (.int 0))) (sPar false 0 1 (mCons (mBin opSub (mC (.int 0)) (mVar 0)) (mCons (mBin opSub (mC (.int 0)) (mVar 1)) mNil))) sNx) (sSeq (sPar false 2 3 (mCons (mCB bAbs (mCons (mVar 0) mNil)) (mCons (mVar 1) mNil))) (sSeq (sFor (.n 4) (mRng1 (mCons (mC (.int 4000)) mNil)) (sSeq (sIf (mCmpT opEq (mVar 3) (mC (.int 0))) sBk sNx) (sPar false 2 3 (mCons (mVar 3) (mCons (mBin opMod (mCB bInt (mCons (mVar 2) mNil)) (mVar 3)) mNil))))) (sRet (mTup (mCons (mBin opDiv (mVar 0) (mVar 2)) (mCons (mBin opDiv (mVar 1) (mVar 2)) mNil)))))))
def f__law_fr : List D → M D := runDef 5 m__law_fr
def m__law_add : MS := (sRet (mCall f__law_fr (mCons (mBin opAdd (mBin opMul (mBin opIx (mVar 0) (mC (.int 0))) (mBin opIx (mVar 1) (mC (.int 1)))) (mBin opMul (mBin opIx (mVar 1) (mC (.int 0))) (mBin opIx (mVar 0) (mC (.int 1))))) (mCons (mBin opMul (mBin opIx (mVar 0) (mC (.int 1))) (mBin opIx (mVar 1) (mC (.int 1)))) mNil))))
def f__law_add : List D → M D := runDef 2 m__law_add
def m__law_mul : MS := (sRet (mCall f__law_fr (mCons (mBin opMul (mBin opIx (mVar 0) (mC (.int 0))) (mBin opIx (mVar 1) (mC (.int 0)))) (mCons (mBin opMul (mBin opIx (mVar 0) (mC (.int 1))) (mBin opIx (mVar 1) (mC (.int 1)))) mNil))))
def f__law_mul : List D → M D := runDef 2 m__law_mul
def m__law_sub : MS := (sRet (mCall f__law_add (mCons (mVar 0) (mCons (mTup (mCons (mBin opSub (mC (.int 0)) (mBin opIx (mVar 1) (mC (.int 0)))) (mCons (mBin opIx (mVar 1) (mC (.int 1))) mNil))) mNil))))
def f__law_sub : List D → M D := runDef 2 m__law_sub
def m__law_sign : MS := (sSeq (sSet false 2 (mBin opSub (mBin opMul (mBin opIx (mVar 0) (mC (.int 0))) (mBin opIx (mVar 1) (mC (.int 1)))) (mBin opMul (mBin opIx (mVar 1) (mC (.int 0))) (mBin opIx (mVar 0) (mC (.int 1)))))) (sRet (mIf (mCmpT opEq (mVar 2) (mC (.int 0))) (mC (.int 0)) (mIf (mCmpT (opCmp pGt) (mVar 2) (mC (.int 0))) (mC (.int 1)) (mNeg (mC (.int 1)))))))
def f__law_sign : List D → M D := runDef 3 m__law_sign
def m__law_part : MS := (sSeq (sSet false 1 (mCall f__law_pick (mCons (mVar 0) (mCons (mLst (mCons (mC (.int 3)) (mCons (mC (.int 30)) (mCons (mC (.int 10000)) (mCons (mC (.int 1000000000000)) mNil))))) mNil)))) (sRet (mCall f__law_fr (mCons (mBin opSub (mCall f__law_take (mCons (mVar 0) (mCons (mBin opAdd (mBin opMul (mC (.int 2)) (mVar 1)) (mC (.int 1))) mNil))) (mVar 1)) (mCons (mBin opAdd (mC (.int 1)) (mCall f__law_take (mCons (mVar 0) (mCons (mCall f__law_pick (mCons (mVar 0) (mCons (mLst (mCons (mC (.int 1)) (mCons (mC (.int 6)) (mCons (mC (.int 5000)) mNil)))) mNil))) mNil)))) mNil)))))
def f__law_part : List D → M D := runDef 2 m__law_part
def m__law_gcd : MS := (sSeq (sPar false 0 1 (mCons (mCB bAbs (mCons (mVar 0) mNil)) (mCons (mCB bAbs (mCons (mVar 1) mNil)) mNil))) (sSeq (sFor (.n 2) (mRng1 (mCons (mC (.int 400)) mNil)) (sSeq (sIf (mCmpT opEq (mVar 1) (mC (.int 0))) sBk sNx) (sPar false 0 1 (mCons (mVar 1) (mCons (mBin opMod (mCB bInt (mCons (mVar 0) mNil)) (mVar 1)) mNil))))) (sRet (mVar 0))))
def f__law_gcd : List D → M D := runDef 3 m__law_gcd
def m__law_gcd_of : MS := (sSeq (sSet false 1 (mC (.int 0))) (sSeq (sFor (.n 2) (mSeq (mVar 0)) (sSet false 1 (mCall f__law_gcd (mCons (mVar 1) (mCons (mVar 2) mNil))))) (sRet (mVar 1))))
def f__law_gcd_of : List D → M D := runDef 3 m__law_gcd_of
def m__law_is : MS := (sSeq (sIf (mOrT (mNotT (mTru (mIsi "tuple" (mVar 0)))) (mCmpT opNe (mCB bLen (mCons (mVar 0) mNil)) (mC (.int 2)))) (sRet (mC (.bl false))) sNx) (sSeq (sIf (mCmpT (opCmp pGt) (mCB bLen (mCons (mLc (.n 1) [1] (mSeq (mVar 0)) (mOrT (mNotT (mTru (mIsi "int" (mVar 1)))) (mTru (mIsi "bool" (mVar 1)))) (mVar 1)) mNil)) (mC (.int 0))) (sRet (mC (.bl false))) sNx) (sRet (mAnd (mBin (opCmp pGt) (mBin opIx (mVar 0) (mC (.int 1))) (mC (.int 0))) (mBin opEq (mCall f__law_gcd (mCons (mBin opIx (mVar 0) (mC (.int 0))) (mCons (mBin opIx (mVar 0) (mC (.int 1))) mNil))) (mC (.int 1)))))))
def f__law_is : List D → M D := runDef 2 m__law_is
def l_1 : MS := (sPar3 false 2 3 4 (mCons (mCall f__law_part (mCons (mVar 1) mNil)) (mCons (mCall f__law_part (mCons (mVar 1) mNil)) (mCons (mCall f__law_part (mCons (mVar 1) mNil)) mNil))))
def l_2 : MS := (sPar false 5 6 (mCons (mBin opSub (mCall f__law_take (mCons (mVar 1) (mCons (mC (.int 2001)) mNil))) (mC (.int 1000))) (mCons (mBin opSub (mCall f__law_take (mCons (mVar 1) (mCons (mC (.int 2001)) mNil))) (mC (.int 1000))) mNil)))
def l_3 : MS := (sIf (mOrT (mCmpT opNe (mCall f_divisor (mCons (mVar 5) (mCons (mVar 6) mNil))) (mCall f__law_gcd (mCons (mVar 5) (mCons (mVar 6) mNil)))) (mOrT (mCmpT opNe (mCall f_divisor (mCons (mC (.int 0)) (mCons (mC (.int 0)) mNil))) (mC (.int 0))) (mOrT (mAndT (mCmpT opNe (mVar 6) (mC (.int 0))) (mCmpT opNe (mCall f_part (mCons (mVar 5) (mCons (mVar 6) mNil))) (mCall f__law_fr (mCons (mVar 5) (mCons (mVar 6) mNil))))) (mCmpT opNe (mCall f_part (mCons (mC (.int 0)) (mCons (mC (.int 7)) mNil))) (mTup (mCons (mC (.int 0)) (mCons (mC (.int 1)) mNil))))))) (sRet (mC (.bl false))) sNx)
def l_4 : MS := (sIf (mOrT (mCmpT opNe (mCall f_plus (mCons (mVar 2) (mCons (mVar 3) mNil))) (mCall f__law_add (mCons (mVar 2) (mCons (mVar 3) mNil)))) (mOrT (mCmpT opNe (mCall f_minus (mCons (mVar 2) (mCons (mVar 3) mNil))) (mCall f__law_sub (mCons (mVar 2) (mCons (mVar 3) mNil)))) (mCmpT opNe (mCall f_times (mCons (mVar 2) (mCons (mVar 3) mNil))) (mCall f__law_mul (mCons (mVar 2) (mCons (mVar 3) mNil)))))) (sRet (mC (.bl false))) sNx)
def l_5 : MS := (sIf (mAndT (mCmpT opNe (mBin opIx (mVar 3) (mC (.int 0))) (mC (.int 0))) (mCmpT opNe (mCall f_over (mCons (mVar 2) (mCons (mVar 3) mNil))) (mCall f__law_mul (mCons (mVar 2) (mCons (mCall f__law_fr (mCons (mBin opIx (mVar 3) (mC (.int 1))) (mCons (mBin opIx (mVar 3) (mC (.int 0))) mNil))) mNil))))) (sRet (mC (.bl false))) sNx)
def l_6 : MS := (sIf (mOrT (mCmpT opNe (mCall f_is_less (mCons (mVar 2) (mCons (mVar 3) mNil))) (mBin (opCmp pLt) (mCall f__law_sign (mCons (mVar 2) (mCons (mVar 3) mNil))) (mC (.int 0)))) (mOrT (mCmpT (opIs true) (mCall f_is_less (mCons (mVar 2) (mCons (mVar 2) mNil))) (mC (.bl false))) (mCmpT (opIs true) (mCall f_is_less (mCons (mVar 2) (mCons (mCall f__law_add (mCons (mVar 2) (mCons (mTup (mCons (mC (.int 1)) (mCons (mC (.int 1000000)) mNil))) mNil))) mNil))) (mC (.bl true))))) (sRet (mC (.bl false))) sNx)
def l_7 : MS := (sSet false 7 (mLc (.n 14) [14] (mRng1 (mCons (mCall f__law_take (mCons (mVar 1) (mCons (mC (.int 6)) mNil))) mNil)) tsYes (mCall f__law_part (mCons (mVar 1) mNil))))
def l_8 : MS := (sAsg false (.t [(.n 8), (.n 9)]) (mTup (mCons (mTup (mCons (mC (.int 0)) (mCons (mC (.int 1)) mNil))) (mCons (mC .non) mNil))))
def l_9 : MS := (sFor (.n 10) (mSeq (mVar 7)) (sSeq (sSet false 8 (mCall f__law_add (mCons (mVar 8) (mCons (mVar 10) mNil)))) (sSet false 9 (mIf (mOrT (mCmpT (opIs false) (mVar 9) (mC .non)) (mCmpT (opCmp pLt) (mCall f__law_sign (mCons (mVar 10) (mCons (mVar 9) mNil))) (mC (.int 0)))) (mVar 10) (mVar 9)))))
def l_10 : MS := (sIf (mOrT (mCmpT opNe (mCall f_total (mCons (mLc (.n 10) [10] (mSeq (mVar 7)) tsYes (mVar 10)) mNil)) (mVar 8)) (mCmpT opNe (mCall f_least_of (mCons (mLc (.n 10) [10] (mSeq (mVar 7)) tsYes (mVar 10)) mNil)) (mVar 9))) (sRet (mC (.bl false))) sNx)
def l_11 : MS := (sPar false 11 12 (mCons (mCall f_whole_below (mCons (mVar 2) mNil)) (mCons (mCall f_whole_above (mCons (mVar 2) mNil)) mNil)))
def l_12 : MS := (sIf (mOrT (mCmpT (opCmp pGt) (mBin opMul (mVar 11) (mBin opIx (mVar 2) (mC (.int 1)))) (mBin opIx (mVar 2) (mC (.int 0)))) (mOrT (mCmpT (opCmp pLe) (mBin opMul (mBin opAdd (mVar 11) (mC (.int 1))) (mBin opIx (mVar 2) (mC (.int 1)))) (mBin opIx (mVar 2) (mC (.int 0)))) (mOrT (mCmpT (opCmp pLt) (mBin opMul (mVar 12) (mBin opIx (mVar 2) (mC (.int 1)))) (mBin opIx (mVar 2) (mC (.int 0)))) (mCmpT (opCmp pGe) (mBin opMul (mBin opSub (mVar 12) (mC (.int 1))) (mBin opIx (mVar 2) (mC (.int 1)))) (mBin opIx (mVar 2) (mC (.int 0))))))) (sRet (mC (.bl false))) sNx)
def l_13 : MS := (sIf (mOrT (mCmpT opNe (mCall f_is_whole_part (mCons (mVar 2) mNil)) (mBin opEq (mBin opIx (mVar 2) (mC (.int 1))) (mC (.int 1)))) (mOrT (mCmpT (opIs true) (mCall f_is_whole_part (mCons (mTup (mCons (mVar 5) (mCons (mC (.int 1)) mNil))) mNil)) (mC (.bl true))) (mCmpT (opIs true) (mCall f_is_whole_part (mCons (mTup (mCons (mC (.int 1)) (mCons (mC (.int 2)) mNil))) mNil)) (mC (.bl false))))) (sRet (mC (.bl false))) sNx)
def l_14 : MS := (sSet false 13 (mCall f_scaled (mCons (mLc (.n 10) [10] (mSeq (mVar 7)) tsYes (mVar 10)) mNil)))
def l_15 : MS := (sIf (mOrT (mCmpT opNe (mCB bLen (mCons (mVar 13) mNil)) (mCB bLen (mCons (mVar 7) mNil))) (mAndT (mCmpT (opCmp pGt) (mCB bLen (mCons (mVar 7) mNil)) (mC (.int 0))) (mAndT (mCmpT (opCmp pGt) (mCB bMax (mCons (mLc (.n 10) [10] (mSeq (mVar 7)) tsYes (mCB bAbs (mCons (mBin opIx (mVar 10) (mC (.int 0))) mNil))) mNil)) (mC (.int 0))) (mCmpT opNe (mCall f__law_gcd_of (mCons (mVar 13) mNil)) (mC (.int 1)))))) (sRet (mC (.bl false))) sNx)
def l_16 : MS := (sFor (.n 14) (mRng1 (mCons (mCB bLen (mCons (mVar 7) mNil)) mNil)) (sFor (.n 15) (mRng1 (mCons (mCB bLen (mCons (mVar 7) mNil)) mNil)) (sIf (mOrT (mCmpT opNe (mCall f__law_mul (mCons (mTup (mCons (mBin opIx (mVar 13) (mVar 14)) (mCons (mC (.int 1)) mNil))) (mCons (mBin opIx (mVar 7) (mVar 15)) mNil))) (mCall f__law_mul (mCons (mTup (mCons (mBin opIx (mVar 13) (mVar 15)) (mCons (mC (.int 1)) mNil))) (mCons (mBin opIx (mVar 7) (mVar 14)) mNil)))) (mOrT (mCmpT opNe (mBin (opCmp pGt) (mBin opIx (mVar 13) (mVar 14)) (mC (.int 0))) (mBin (opCmp pGt) (mBin opIx (mBin opIx (mVar 7) (mVar 14)) (mC (.int 0))) (mC (.int 0)))) (mCmpT opNe (mBin (opCmp pLt) (mBin opIx (mVar 13) (mVar 14)) (mC (.int 0))) (mBin (opCmp pLt) (mBin opIx (mBin opIx (mVar 7) (mVar 14)) (mC (.int 0))) (mC (.int 0)))))) (sRet (mC (.bl false))) sNx)))
def l_17 : MS := (sSet false 16 (mLc (.n 10) [10] (mSeq (mVar 7)) tsYes (mBin opSub (mCall f__law_take (mCons (mVar 1) (mCons (mC (.int 21)) mNil))) (mC (.int 10)))))
def l_18 : MS := (sSet false 17 (mTup (mCons (mC (.int 0)) (mCons (mC (.int 1)) mNil))))
def l_19 : MS := (sFor (.n 14) (mRng1 (mCons (mCB bLen (mCons (mVar 7) mNil)) mNil)) (sSet false 17 (mCall f__law_add (mCons (mVar 17) (mCons (mCall f__law_mul (mCons (mTup (mCons (mBin opIx (mVar 16) (mVar 14)) (mCons (mC (.int 1)) mNil))) (mCons (mBin opIx (mVar 7) (mVar 14)) mNil))) mNil)))))
def l_20 : MS := (sIf (mCmpT opNe (mCall f_dot (mCons (mLc (.n 10) [10] (mSeq (mVar 16)) tsYes (mVar 10)) (mCons (mLc (.n 10) [10] (mSeq (mVar 7)) tsYes (mVar 10)) mNil))) (mVar 17)) (sRet (mC (.bl false))) sNx)
def l_21 : MS := (sFor (.n 18) (mSeq (mLst (mCons (mVar 2) (mCons (mCB bList (mCons (mVar 2) mNil)) (mCons (mBin opAdd (mVar 2) (mTup (mCons (mC (.int 1)) mNil))) (mCons (mTup (mCons (mBin opIx (mVar 2) (mC (.int 0))) (mCons (mBin opSub (mC (.int 0)) (mBin opIx (mVar 2) (mC (.int 1)))) mNil))) (mCons (mTup (mCons (mBin opAdd (mBin opMul (mC (.int 2)) (mBin opIx (mVar 2) (mC (.int 0)))) (mC (.int 2))) (mCons (mC (.int 2)) mNil))) (mCons (mTup (mCons (mVar 5) (mCons (mC (.int 0)) mNil))) (mCons (mTup (mCons (mC (.bl true)) (mCons (mC (.int 1)) mNil))) (mCons (mTup (mCons (mC (.int 1)) (mCons (mC (.bl true)) mNil))) (mCons (mTup (mCons (mC (.int 0)) (mCons (mC (.int 2)) mNil))) (mCons (mTup (mCons (mC (.int 0)) (mCons (mC (.int 1)) mNil))) (mCons (mC .non) (mCons (mC (.int 3)) (mCons (mTup (mCons (mC (.str (PySem.Str.ofString "1"))) (mCons (mC (.int 2)) mNil))) (mCons (mTup (mCons (mVar 5) (mCons (mC (.int 1)) mNil))) (mCons (mTup mNil) mNil))))))))))))))))) (sIf (mCmpT opNe (mCall f_is_part (mCons (mVar 18) mNil)) (mCall f__law_is (mCons (mVar 18) mNil))) (sRet (mC (.bl false))) sNx))
def l_22 : MS := (sSet false 19 (mCB bTuple (mCons (mVar 7) mNil)))
def l_23 : MS := (sFor (.n 18) (mSeq (mLst (mCons (mVar 19) (mCons (mCB bList (mCons (mVar 19) mNil)) (mCons (mBin opAdd (mVar 19) (mTup (mCons (mC .non) mNil))) (mCons (mBin opAdd (mVar 19) (mTup (mCons (mTup (mCons (mC (.int 2)) (mCons (mC (.int 4)) mNil))) mNil))) (mCons (mBin opAdd (mVar 19) (mTup (mCons (mVar 2) mNil))) (mCons (mC .non) (mCons (mTup mNil) (mCons (mTup (mCons (mVar 2) (mCons (mVar 3) (mCons (mVar 4) mNil)))) mNil)))))))))) (sFor (.n 20) (mSeq (mTup (mCons (mCB bLen (mCons (mVar 19) mNil)) (mCons (mC (.int 3)) mNil)))) (sIf (mCmpT opNe (mCall f_are_parts (mCons (mVar 18) (mCons (mVar 20) mNil))) (mAnd (mIsi "tuple" (mVar 18)) (mAnd (mBin opEq (mCB bLen (mCons (mVar 18) mNil)) (mVar 20)) (mBin opEq (mCB bLen (mCons (mLc (.n 10) [10] (mSeq (mVar 18)) (mNotT (mTru (mCall f__law_is (mCons (mVar 10) mNil)))) (mVar 10)) mNil)) (mC (.int 0)))))) (sRet (mC (.bl false))) sNx)))
def l_24 : MS := (sRet (mC (.bl true)))
def m_law : MS := (sSeq l_1 (sSeq l_2 (sSeq l_3 (sSeq l_4 (sSeq l_5 (sSeq l_6 (sSeq l_7 (sSeq l_8 (sSeq l_9 (sSeq l_10 (sSeq l_11 (sSeq l_12 (sSeq l_13 (sSeq l_14 (sSeq l_15 (sSeq l_16 (sSeq l_17 (sSeq l_18 (sSeq l_19 (sSeq l_20 (sSeq l_21 (sSeq l_22 (sSeq l_23 l_24)))))))))))))))))))))))
end
/-! what stands -/
section
variable {P : Program} {w : World} {K : PySem.W.Frag} {mg : Str → Option Value} {base : Heap} {f0 f1 f2 f3 f4 f5 f6 f7 f8 f9 f10 f11 f12 f13 f14 f15 f16 f17 f18 f19 f20 f21 f22 f23 f24 f25 f26 f27 f28 : Addr} {fd0 fd1 fd2 fd3 fd4 fd5 fd6 fd7 fd8 fd9 fd10 fd11 fd12 fd13 fd14 fd15 fd16 fd17 fd18 fd19 fd20 fd21 fd22 fd23 fd24 fd25 fd26 fd27 fd28 : FuncData}
structure Tx (K : PySem.W.Frag) (mg : Str → Option Value) (f0 f1 f2 f3 f4 f5 f6 f7 f8 f9 f10 f11 f12 f13 f14 f15 f16 f17 f18 f19 f20 f21 f22 f23 f24 f25 f26 f27 f28 : Addr) (fd0 fd1 fd2 fd3 fd4 fd5 fd6 fd7 fd8 fd9 fd10 fd11 fd12 fd13 fd14 fd15 fd16 fd17 fd18 fd19 fd20 fd21 fd22 fd23 fd24 fd25 fd26 fd27 fd28 : FuncData) : Prop where
  F_divisor : Fun K "divisor" "divisor" s_divisor f0 fd0
  m_divisor : mg "divisor" = some (.ref f0)
  b_divisor : Binds K fd0 ["one", "other"] []
  F_part : Fun K "part" "part" s_part f1 fd1
  m_part : mg "part" = some (.ref f1)
  b_part : Binds K fd1 ["above", "below"] []
  F_is_part : Fun K "is_part" "is_part" s_is_part f2 fd2
  m_is_part : mg "is_part" = some (.ref f2)
  b_is_part : Binds K fd2 ["value"] []
  F_plus : Fun K "plus" "plus" s_plus f3 fd3
  m_plus : mg "plus" = some (.ref f3)
  b_plus : Binds K fd3 ["one", "other"] []
  F_minus : Fun K "minus" "minus" s_minus f4 fd4
  m_minus : mg "minus" = some (.ref f4)
  b_minus : Binds K fd4 ["one", "other"] []
  F_times : Fun K "times" "times" s_times f5 fd5
  m_times : mg "times" = some (.ref f5)
  b_times : Binds K fd5 ["one", "other"] []
  F_over : Fun K "over" "over" s_over f6 fd6
  m_over : mg "over" = some (.ref f6)
  b_over : Binds K fd6 ["one", "other"] []
  F_is_less : Fun K "is_less" "is_less" s_is_less f7 fd7
  m_is_less : mg "is_less" = some (.ref f7)
  b_is_less : Binds K fd7 ["one", "other"] []
  F_total : Fun K "total" "total" s_total f8 fd8
  m_total : mg "total" = some (.ref f8)
  b_total : Binds K fd8 ["row"] []
  F_least_of : Fun K "least_of" "least_of" s_least_of f9 fd9
  m_least_of : mg "least_of" = some (.ref f9)
  b_least_of : Binds K fd9 ["row"] []
  F_whole_below : Fun K "whole_below" "whole_below" s_whole_below f10 fd10
  m_whole_below : mg "whole_below" = some (.ref f10)
  b_whole_below : Binds K fd10 ["one"] []
  F_whole_above : Fun K "whole_above" "whole_above" s_whole_above f11 fd11
  m_whole_above : mg "whole_above" = some (.ref f11)
  b_whole_above : Binds K fd11 ["one"] []
  F_is_whole_part : Fun K "is_whole_part" "is_whole_part" s_is_whole_part f12 fd12
  m_is_whole_part : mg "is_whole_part" = some (.ref f12)
  b_is_whole_part : Binds K fd12 ["one"] []
  F_are_parts : Fun K "are_parts" "are_parts" s_are_parts f13 fd13
  m_are_parts : mg "are_parts" = some (.ref f13)
  b_are_parts : Binds K fd13 ["value", "many"] []
  F_scaled : Fun K "scaled" "scaled" s_scaled f14 fd14
  m_scaled : mg "scaled" = some (.ref f14)
  b_scaled : Binds K fd14 ["row"] []
  F_dot : Fun K "dot" "dot" s_dot f15 fd15
  m_dot : mg "dot" = some (.ref f15)
  b_dot : Binds K fd15 ["row", "point"] []
  F__law_state : Fun K "_law_state" "_law_state" s__law_state f16 fd16
  m__law_state : mg "_law_state" = some (.ref f16)
  b__law_state : Binds K fd16 ["script"] []
  F__law_take : Fun K "_law_take" "_law_take" s__law_take f17 fd17
  m__law_take : mg "_law_take" = some (.ref f17)
  b__law_take : Binds K fd17 ["state", "most"] []
  F__law_pick : Fun K "_law_pick" "_law_pick" s__law_pick f18 fd18
  m__law_pick : mg "_law_pick" = some (.ref f18)
  b__law_pick : Binds K fd18 ["state", "row"] []
  F__law_fr : Fun K "_law_fr" "_law_fr" s__law_fr f19 fd19
  m__law_fr : mg "_law_fr" = some (.ref f19)
  b__law_fr : Binds K fd19 ["above", "below"] []
  F__law_add : Fun K "_law_add" "_law_add" s__law_add f20 fd20
  m__law_add : mg "_law_add" = some (.ref f20)
  b__law_add : Binds K fd20 ["one", "other"] []
  F__law_mul : Fun K "_law_mul" "_law_mul" s__law_mul f21 fd21
  m__law_mul : mg "_law_mul" = some (.ref f21)
  b__law_mul : Binds K fd21 ["one", "other"] []
  F__law_sub : Fun K "_law_sub" "_law_sub" s__law_sub f22 fd22
  m__law_sub : mg "_law_sub" = some (.ref f22)
  b__law_sub : Binds K fd22 ["one", "other"] []
  F__law_sign : Fun K "_law_sign" "_law_sign" s__law_sign f23 fd23
  m__law_sign : mg "_law_sign" = some (.ref f23)
  b__law_sign : Binds K fd23 ["one", "other"] []
  F__law_part : Fun K "_law_part" "_law_part" s__law_part f24 fd24
  m__law_part : mg "_law_part" = some (.ref f24)
  b__law_part : Binds K fd24 ["state"] []
  F__law_gcd : Fun K "_law_gcd" "_law_gcd" s__law_gcd f25 fd25
  m__law_gcd : mg "_law_gcd" = some (.ref f25)
  b__law_gcd : Binds K fd25 ["one", "other"] []
  F__law_gcd_of : Fun K "_law_gcd_of" "_law_gcd_of" s__law_gcd_of f26 fd26
  m__law_gcd_of : mg "_law_gcd_of" = some (.ref f26)
  b__law_gcd_of : Binds K fd26 ["row"] []
  F__law_is : Fun K "_law_is" "_law_is" s__law_is f27 fd27
  m__law_is : mg "_law_is" = some (.ref f27)
  b__law_is : Binds K fd27 ["value"] []
  F_law : Fun K "law" "law" s_law f28 fd28
  m_law : mg "law" = some (.ref f28)
  b_law : Binds K fd28 ["script"] []
  z_abs : mg "abs" = none
  z_all : mg "all" = none
  z_bool : mg "bool" = none
  z_int : mg "int" = none
  z_isinstance : mg "isinstance" = none
  z_len : mg "len" = none
  z_list : mg "list" = none
  z_max : mg "max" = none
  z_range : mg "range" = none
  z_tuple : mg "tuple" = none
end
end L2.Mir.W

set_option Elab.async false
set_option linter.all false
set_option maxRecDepth 100000
set_option maxHeartbeats 4000000
namespace L2.Mir.W
open PySem PySem.Spec PyProof.Rows
section
variable {P : Program} {w : World} {K : PySem.W.Frag} {mg : Str → Option Value} {base : Heap} {f0 f1 f2 f3 f4 f5 f6 f7 f8 f9 f10 f11 f12 f13 f14 f15 f16 f17 f18 f19 f20 f21 f22 f23 f24 f25 f26 f27 f28 : Addr} {fd0 fd1 fd2 fd3 fd4 fd5 fd6 fd7 fd8 fd9 fd10 fd11 fd12 fd13 fd14 fd15 fd16 fd17 fd18 fd19 fd20 fd21 fd22 fd23 fd24 fd25 fd26 fd27 fd28 : FuncData}
/-! the walks -/
theorem ok_divisor (T : Tx K mg f0 f1 f2 f3 f4 f5 f6 f7 f8 f9 f10 f11 f12 f13 f14 f15 f16 f17 f18 f19 f20 f21 f22 f23 f24 f25 f26 f27 f28 fd0 fd1 fd2 fd3 fd4 fd5 fd6 fd7 fd8 fd9 fd10 fd11 fd12 fd13 fd14 fd15 fd16 fd17 fd18 fd19 fd20 fd21 fd22 fd23 fd24 fd25 fd26 fd27 fd28) : FnOk P w K mg base CX0 1 f0 fd0 ["one", "other"] (spM K xr0 2 f_divisor) :=
  have nd := sc_divisor.nd
  fn_ok' (m := m_divisor) (N := nm_divisor) (ps := ["one", "other"]) 0 rfl rfl rfl T.F_divisor sc_divisor fun cdv A outer s H E hr => (es_cons (es_par false 0 1 rfl nd (ea_cons (ee_callB call_abs rc_abs T.z_abs (by decide +kernel) (ea_cons (ee_var 0) ea_nil)) (ea_cons (ee_callB call_abs rc_abs T.z_abs (by decide +kernel) (ea_cons (ee_var 1) ea_nil)) ea_nil))) (es_cons (es_while PassesOwn.never (et_cmp (op_neD hr.units) rb_ne (ee_var 1) ee_int) (es_one (es_par false 0 1 rfl nd (ea_cons (ee_var 1) (ea_cons (ee_bin op_mod rb_mod (ee_var 0) (ee_var 1)) ea_nil))))) (es_one (es_ret (ee_var 0)))))
theorem ok_part (T : Tx K mg f0 f1 f2 f3 f4 f5 f6 f7 f8 f9 f10 f11 f12 f13 f14 f15 f16 f17 f18 f19 f20 f21 f22 f23 f24 f25 f26 f27 f28 fd0 fd1 fd2 fd3 fd4 fd5 fd6 fd7 fd8 fd9 fd10 fd11 fd12 fd13 fd14 fd15 fd16 fd17 fd18 fd19 fd20 fd21 fd22 fd23 fd24 fd25 fd26 fd27 fd28) : FnOk P w K mg base CX0 2 f1 fd1 ["above", "below"] (spM K xr0 2 f_part) :=
  have nd := sc_part.nd
  fn_ok' (m := m_part) (N := nm_part) (ps := ["above", "below"]) 1 rfl rfl rfl T.F_part sc_part fun cdv A outer s H E hr => (es_cons (es_if (et_cmp op_lt (rb_cmp (p := pLt)) (ee_var 1) ee_int) (es_one (es_par false 0 1 rfl nd (ea_cons (ee_bin op_sub rb_sub ee_int (ee_var 0)) (ea_cons (ee_bin op_sub rb_sub ee_int (ee_var 1)) ea_nil)))) es_nil) (es_cons (es_set false 2 nd (ee_call (ok_divisor T) (hr.mono (by decide)) T.m_divisor T.F_divisor.kp T.b_divisor rfl (ea_cons (ee_var 0) (ea_cons (ee_var 1) ea_nil)) (lc (lc ln)))) (es_one (es_ret (ee_tup (ea_cons (ee_bin op_fdivW rb_div (ee_var 0) (ee_var 2)) (ea_cons (ee_bin op_fdivW rb_div (ee_var 1) (ee_var 2)) ea_nil)) (lc (lc ln)))))))
theorem ok_is_part (T : Tx K mg f0 f1 f2 f3 f4 f5 f6 f7 f8 f9 f10 f11 f12 f13 f14 f15 f16 f17 f18 f19 f20 f21 f22 f23 f24 f25 f26 f27 f28 fd0 fd1 fd2 fd3 fd4 fd5 fd6 fd7 fd8 fd9 fd10 fd11 fd12 fd13 fd14 fd15 fd16 fd17 fd18 fd19 fd20 fd21 fd22 fd23 fd24 fd25 fd26 fd27 fd28) : FnOk P w K mg base CX0 2 f2 fd2 ["value"] (spM K xr0 1 f_is_part) :=
  have nd := sc_is_part.nd
  fn_ok' (m := m_is_part) (N := nm_is_part) (ps := ["value"]) 1 rfl rfl rfl T.F_is_part sc_is_part fun cdv A outer s H E hr => (es_cons (es_if (et_w (ew_or (et_not (et_val (ee_isi (T := "tuple") rfl (ee_var 0) T.z_isinstance (by decide +kernel) T.z_tuple (by decide +kernel)) rfl)) (ew_or1 (et_cmp (op_neD hr.units) rb_ne (ee_callB call_len rc_len T.z_len PySem.boot_len (ea_cons (ee_var 0) ea_nil)) ee_int)))) (es_one (es_ret ee_bl)) es_nil) (es_cons (es_if (et_not (et_val (ee_callB (cr_all rfl) rc_all T.z_all (by decide +kernel) (ea_cons (ee_lc (own := [("number", 1)]) (p := (.n 1)) rfl nd (ei_seq rfl (ee_var 0)) (blkOk_by (N := nm_is_part) (sc := defScope s_is_part) (by decide +kernel)) (by decide) (fun _ _ _ _ _ => (eg_name nd)) (fun _ _ _ _ _ => ets_nil) (fun _ _ _ _ _ => (ee_and (ee_isi (T := "int") rfl (ee_var 1) T.z_isinstance (by decide +kernel) T.z_int (by decide +kernel)) (ee_one (ee_not (ee_isi (T := "bool") rfl (ee_var 1) T.z_isinstance (by decide +kernel) T.z_bool (by decide +kernel))))))) ea_nil)) rfl)) (es_one (es_ret ee_bl)) es_nil) (es_one (es_ret (ee_and (ee_cmp op_ge (rb_cmp (p := pGe)) (ee_ix rfl (ee_var 0) ee_int) ee_int) (ee_one (ee_cmp (op_eqD hr.units) rb_eq (ee_call (ok_divisor T) (hr.mono (by decide)) T.m_divisor T.F_divisor.kp T.b_divisor rfl (ea_cons (ee_ix rfl (ee_var 0) ee_int) (ea_cons (ee_ix rfl (ee_var 0) ee_int) ea_nil)) (lc (lc ln))) ee_int)))))))
theorem ok_plus (T : Tx K mg f0 f1 f2 f3 f4 f5 f6 f7 f8 f9 f10 f11 f12 f13 f14 f15 f16 f17 f18 f19 f20 f21 f22 f23 f24 f25 f26 f27 f28 fd0 fd1 fd2 fd3 fd4 fd5 fd6 fd7 fd8 fd9 fd10 fd11 fd12 fd13 fd14 fd15 fd16 fd17 fd18 fd19 fd20 fd21 fd22 fd23 fd24 fd25 fd26 fd27 fd28) : FnOk P w K mg base CX0 3 f3 fd3 ["one", "other"] (spM K xr0 2 f_plus) :=
  have nd := sc_plus.nd
  fn_ok' (m := m_plus) (N := nm_plus) (ps := ["one", "other"]) 2 rfl rfl rfl T.F_plus sc_plus fun cdv A outer s H E hr => (es_one (es_ret (ee_call (ok_part T) (hr.mono (by decide)) T.m_part T.F_part.kp T.b_part rfl (ea_cons (ee_bin or_add rb_add (ee_bin or_mul rb_mul (ee_ix rfl (ee_var 0) ee_int) (ee_ix rfl (ee_var 1) ee_int)) (ee_bin or_mul rb_mul (ee_ix rfl (ee_var 1) ee_int) (ee_ix rfl (ee_var 0) ee_int))) (ea_cons (ee_bin or_mul rb_mul (ee_ix rfl (ee_var 0) ee_int) (ee_ix rfl (ee_var 1) ee_int)) ea_nil)) (lc (lc ln)))))
theorem ok_minus (T : Tx K mg f0 f1 f2 f3 f4 f5 f6 f7 f8 f9 f10 f11 f12 f13 f14 f15 f16 f17 f18 f19 f20 f21 f22 f23 f24 f25 f26 f27 f28 fd0 fd1 fd2 fd3 fd4 fd5 fd6 fd7 fd8 fd9 fd10 fd11 fd12 fd13 fd14 fd15 fd16 fd17 fd18 fd19 fd20 fd21 fd22 fd23 fd24 fd25 fd26 fd27 fd28) : FnOk P w K mg base CX0 3 f4 fd4 ["one", "other"] (spM K xr0 2 f_minus) :=
  have nd := sc_minus.nd
  fn_ok' (m := m_minus) (N := nm_minus) (ps := ["one", "other"]) 2 rfl rfl rfl T.F_minus sc_minus fun cdv A outer s H E hr => (es_one (es_ret (ee_call (ok_part T) (hr.mono (by decide)) T.m_part T.F_part.kp T.b_part rfl (ea_cons (ee_bin op_sub rb_sub (ee_bin or_mul rb_mul (ee_ix rfl (ee_var 0) ee_int) (ee_ix rfl (ee_var 1) ee_int)) (ee_bin or_mul rb_mul (ee_ix rfl (ee_var 1) ee_int) (ee_ix rfl (ee_var 0) ee_int))) (ea_cons (ee_bin or_mul rb_mul (ee_ix rfl (ee_var 0) ee_int) (ee_ix rfl (ee_var 1) ee_int)) ea_nil)) (lc (lc ln)))))
theorem ok_times (T : Tx K mg f0 f1 f2 f3 f4 f5 f6 f7 f8 f9 f10 f11 f12 f13 f14 f15 f16 f17 f18 f19 f20 f21 f22 f23 f24 f25 f26 f27 f28 fd0 fd1 fd2 fd3 fd4 fd5 fd6 fd7 fd8 fd9 fd10 fd11 fd12 fd13 fd14 fd15 fd16 fd17 fd18 fd19 fd20 fd21 fd22 fd23 fd24 fd25 fd26 fd27 fd28) : FnOk P w K mg base CX0 3 f5 fd5 ["one", "other"] (spM K xr0 2 f_times) :=
  have nd := sc_times.nd
  fn_ok' (m := m_times) (N := nm_times) (ps := ["one", "other"]) 2 rfl rfl rfl T.F_times sc_times fun cdv A outer s H E hr => (es_one (es_ret (ee_call (ok_part T) (hr.mono (by decide)) T.m_part T.F_part.kp T.b_part rfl (ea_cons (ee_bin or_mul rb_mul (ee_ix rfl (ee_var 0) ee_int) (ee_ix rfl (ee_var 1) ee_int)) (ea_cons (ee_bin or_mul rb_mul (ee_ix rfl (ee_var 0) ee_int) (ee_ix rfl (ee_var 1) ee_int)) ea_nil)) (lc (lc ln)))))
theorem ok_over (T : Tx K mg f0 f1 f2 f3 f4 f5 f6 f7 f8 f9 f10 f11 f12 f13 f14 f15 f16 f17 f18 f19 f20 f21 f22 f23 f24 f25 f26 f27 f28 fd0 fd1 fd2 fd3 fd4 fd5 fd6 fd7 fd8 fd9 fd10 fd11 fd12 fd13 fd14 fd15 fd16 fd17 fd18 fd19 fd20 fd21 fd22 fd23 fd24 fd25 fd26 fd27 fd28) : FnOk P w K mg base CX0 3 f6 fd6 ["one", "other"] (spM K xr0 2 f_over) :=
  have nd := sc_over.nd
  fn_ok' (m := m_over) (N := nm_over) (ps := ["one", "other"]) 2 rfl rfl rfl T.F_over sc_over fun cdv A outer s H E hr => (es_one (es_ret (ee_call (ok_part T) (hr.mono (by decide)) T.m_part T.F_part.kp T.b_part rfl (ea_cons (ee_bin or_mul rb_mul (ee_ix rfl (ee_var 0) ee_int) (ee_ix rfl (ee_var 1) ee_int)) (ea_cons (ee_bin or_mul rb_mul (ee_ix rfl (ee_var 0) ee_int) (ee_ix rfl (ee_var 1) ee_int)) ea_nil)) (lc (lc ln)))))
theorem ok_is_less (T : Tx K mg f0 f1 f2 f3 f4 f5 f6 f7 f8 f9 f10 f11 f12 f13 f14 f15 f16 f17 f18 f19 f20 f21 f22 f23 f24 f25 f26 f27 f28 fd0 fd1 fd2 fd3 fd4 fd5 fd6 fd7 fd8 fd9 fd10 fd11 fd12 fd13 fd14 fd15 fd16 fd17 fd18 fd19 fd20 fd21 fd22 fd23 fd24 fd25 fd26 fd27 fd28) : FnOk P w K mg base CX0 1 f7 fd7 ["one", "other"] (spM K xr0 2 f_is_less) :=
  have nd := sc_is_less.nd
  fn_ok' (m := m_is_less) (N := nm_is_less) (ps := ["one", "other"]) 0 rfl rfl rfl T.F_is_less sc_is_less fun cdv A outer s H E hr => (es_one (es_ret (ee_cmp op_lt (rb_cmp (p := pLt)) (ee_bin or_mul rb_mul (ee_ix rfl (ee_var 0) ee_int) (ee_ix rfl (ee_var 1) ee_int)) (ee_bin or_mul rb_mul (ee_ix rfl (ee_var 1) ee_int) (ee_ix rfl (ee_var 0) ee_int)))))
theorem ok_total (T : Tx K mg f0 f1 f2 f3 f4 f5 f6 f7 f8 f9 f10 f11 f12 f13 f14 f15 f16 f17 f18 f19 f20 f21 f22 f23 f24 f25 f26 f27 f28 fd0 fd1 fd2 fd3 fd4 fd5 fd6 fd7 fd8 fd9 fd10 fd11 fd12 fd13 fd14 fd15 fd16 fd17 fd18 fd19 fd20 fd21 fd22 fd23 fd24 fd25 fd26 fd27 fd28) : FnOk P w K mg base CX0 4 f8 fd8 ["row"] (spM K xr0 1 f_total) :=
  have nd := sc_total.nd
  fn_ok' (m := m_total) (N := nm_total) (ps := ["row"]) 3 rfl rfl rfl T.F_total sc_total fun cdv A outer s H E hr => (es_cons (es_set false 1 nd (ee_tup (ea_cons ee_int (ea_cons ee_int ea_nil)) (lc (lc ln)))) (es_cons (es_for (p := (.n 2)) PassesOwn.never rfl (ei_seq rfl (ee_var 0)) (eg_name nd) (es_one (es_set false 1 nd (ee_call (ok_plus T) (hr.mono (by decide)) T.m_plus T.F_plus.kp T.b_plus rfl (ea_cons (ee_var 1) (ea_cons (ee_var 2) ea_nil)) (lc (lc ln)))))) (es_one (es_ret (ee_var 1)))))
theorem ok_least_of (T : Tx K mg f0 f1 f2 f3 f4 f5 f6 f7 f8 f9 f10 f11 f12 f13 f14 f15 f16 f17 f18 f19 f20 f21 f22 f23 f24 f25 f26 f27 f28 fd0 fd1 fd2 fd3 fd4 fd5 fd6 fd7 fd8 fd9 fd10 fd11 fd12 fd13 fd14 fd15 fd16 fd17 fd18 fd19 fd20 fd21 fd22 fd23 fd24 fd25 fd26 fd27 fd28) : FnOk P w K mg base CX0 2 f9 fd9 ["row"] (spM K xr0 1 f_least_of) :=
  have nd := sc_least_of.nd
  fn_ok' (m := m_least_of) (N := nm_least_of) (ps := ["row"]) 1 rfl rfl rfl T.F_least_of sc_least_of fun cdv A outer s H E hr => (es_cons (es_set false 1 nd ee_non) (es_cons (es_for (p := (.n 2)) PassesOwn.never rfl (ei_seq rfl (ee_var 0)) (eg_name nd) (es_one (es_if (et_w (ew_or (et_cmp or_is rb_is (ee_var 1) ee_non) (ew_or1 (et_val (ee_call (ok_is_less T) (hr.mono (by decide)) T.m_is_less T.F_is_less.kp T.b_is_less rfl (ea_cons (ee_var 2) (ea_cons (ee_var 1) ea_nil)) (lc (lc ln))) rfl)))) (es_one (es_set false 1 nd (ee_var 2))) es_nil))) (es_one (es_ret (ee_var 1)))))
theorem ok_whole_below (T : Tx K mg f0 f1 f2 f3 f4 f5 f6 f7 f8 f9 f10 f11 f12 f13 f14 f15 f16 f17 f18 f19 f20 f21 f22 f23 f24 f25 f26 f27 f28 fd0 fd1 fd2 fd3 fd4 fd5 fd6 fd7 fd8 fd9 fd10 fd11 fd12 fd13 fd14 fd15 fd16 fd17 fd18 fd19 fd20 fd21 fd22 fd23 fd24 fd25 fd26 fd27 fd28) : FnOk P w K mg base CX0 1 f10 fd10 ["one"] (spM K xr0 1 f_whole_below) :=
  have nd := sc_whole_below.nd
  fn_ok' (m := m_whole_below) (N := nm_whole_below) (ps := ["one"]) 0 rfl rfl rfl T.F_whole_below sc_whole_below fun cdv A outer s H E hr => (es_one (es_ret (ee_bin op_fdivW rb_div (ee_ix rfl (ee_var 0) ee_int) (ee_ix rfl (ee_var 0) ee_int))))
theorem ok_whole_above (T : Tx K mg f0 f1 f2 f3 f4 f5 f6 f7 f8 f9 f10 f11 f12 f13 f14 f15 f16 f17 f18 f19 f20 f21 f22 f23 f24 f25 f26 f27 f28 fd0 fd1 fd2 fd3 fd4 fd5 fd6 fd7 fd8 fd9 fd10 fd11 fd12 fd13 fd14 fd15 fd16 fd17 fd18 fd19 fd20 fd21 fd22 fd23 fd24 fd25 fd26 fd27 fd28) : FnOk P w K mg base CX0 1 f11 fd11 ["one"] (spM K xr0 1 f_whole_above) :=
  have nd := sc_whole_above.nd
  fn_ok' (m := m_whole_above) (N := nm_whole_above) (ps := ["one"]) 0 rfl rfl rfl T.F_whole_above sc_whole_above fun cdv A outer s H E hr => (es_one (es_ret (ee_bin op_sub rb_sub ee_int (ee_bin op_fdivW rb_div (ee_bin op_sub rb_sub ee_int (ee_ix rfl (ee_var 0) ee_int)) (ee_ix rfl (ee_var 0) ee_int)))))
theorem ok_is_whole_part (T : Tx K mg f0 f1 f2 f3 f4 f5 f6 f7 f8 f9 f10 f11 f12 f13 f14 f15 f16 f17 f18 f19 f20 f21 f22 f23 f24 f25 f26 f27 f28 fd0 fd1 fd2 fd3 fd4 fd5 fd6 fd7 fd8 fd9 fd10 fd11 fd12 fd13 fd14 fd15 fd16 fd17 fd18 fd19 fd20 fd21 fd22 fd23 fd24 fd25 fd26 fd27 fd28) : FnOk P w K mg base CX0 1 f12 fd12 ["one"] (spM K xr0 1 f_is_whole_part) :=
  have nd := sc_is_whole_part.nd
  fn_ok' (m := m_is_whole_part) (N := nm_is_whole_part) (ps := ["one"]) 0 rfl rfl rfl T.F_is_whole_part sc_is_whole_part fun cdv A outer s H E hr => (es_one (es_ret (ee_cmp (op_eqD hr.units) rb_eq (ee_ix rfl (ee_var 0) ee_int) ee_int)))
theorem ok_are_parts (T : Tx K mg f0 f1 f2 f3 f4 f5 f6 f7 f8 f9 f10 f11 f12 f13 f14 f15 f16 f17 f18 f19 f20 f21 f22 f23 f24 f25 f26 f27 f28 fd0 fd1 fd2 fd3 fd4 fd5 fd6 fd7 fd8 fd9 fd10 fd11 fd12 fd13 fd14 fd15 fd16 fd17 fd18 fd19 fd20 fd21 fd22 fd23 fd24 fd25 fd26 fd27 fd28) : FnOk P w K mg base CX0 3 f13 fd13 ["value", "many"] (spM K xr0 2 f_are_parts) :=
  have nd := sc_are_parts.nd
  fn_ok' (m := m_are_parts) (N := nm_are_parts) (ps := ["value", "many"]) 2 rfl rfl rfl T.F_are_parts sc_are_parts fun cdv A outer s H E hr => (es_one (es_ret (ee_and (ee_isi (T := "tuple") rfl (ee_var 0) T.z_isinstance (by decide +kernel) T.z_tuple (by decide +kernel)) (ee_and (ee_cmp (op_eqD hr.units) rb_eq (ee_callB call_len rc_len T.z_len PySem.boot_len (ea_cons (ee_var 0) ea_nil)) (ee_var 1)) (ee_one (ee_callB (cr_all rfl) rc_all T.z_all (by decide +kernel) (ea_cons (ee_lc (own := [("one", 2)]) (p := (.n 2)) rfl nd (ei_seq rfl (ee_var 0)) (blkOk_by (N := nm_are_parts) (sc := defScope s_are_parts) (by decide +kernel)) (by decide) (fun _ _ _ _ _ => (eg_name nd)) (fun _ _ _ _ _ => ets_nil) (fun _ _ _ _ _ => (ee_call (ok_is_part T) (hr.mono (by decide)) T.m_is_part T.F_is_part.kp T.b_is_part rfl (ea_cons (ee_var 2) ea_nil) (lc ln)))) ea_nil)))))))
theorem ok_scaled (T : Tx K mg f0 f1 f2 f3 f4 f5 f6 f7 f8 f9 f10 f11 f12 f13 f14 f15 f16 f17 f18 f19 f20 f21 f22 f23 f24 f25 f26 f27 f28 fd0 fd1 fd2 fd3 fd4 fd5 fd6 fd7 fd8 fd9 fd10 fd11 fd12 fd13 fd14 fd15 fd16 fd17 fd18 fd19 fd20 fd21 fd22 fd23 fd24 fd25 fd26 fd27 fd28) : FnOk P w K mg base CX0 2 f14 fd14 ["row"] (spM K xr0 1 f_scaled) :=
  have nd := sc_scaled.nd
  fn_ok' (m := m_scaled) (N := nm_scaled) (ps := ["row"]) 1 rfl rfl rfl T.F_scaled sc_scaled fun cdv A outer s H E hr => (es_cons (es_set false 1 nd ee_int) (es_cons (es_for (p := (.n 2)) PassesOwn.never rfl (ei_seq rfl (ee_var 0)) (eg_name nd) (es_one (es_set false 1 nd (ee_bin op_fdivW rb_div (ee_bin or_mul rb_mul (ee_var 1) (ee_ix rfl (ee_var 2) ee_int)) (ee_call (ok_divisor T) (hr.mono (by decide)) T.m_divisor T.F_divisor.kp T.b_divisor rfl (ea_cons (ee_var 1) (ea_cons (ee_ix rfl (ee_var 2) ee_int) ea_nil)) (lc (lc ln))))))) (es_cons (es_setLc (own := [("one", 2)]) (p := (.n 2)) false 3 rfl nd (sw_true rfl rfl rfl (by decide +kernel)) (ei_seq rfl (ee_var 0)) (blkOk_by (N := nm_scaled) (sc := defScope s_scaled) (by decide +kernel)) (by decide) (fun _ _ _ _ _ => (eg_name nd)) (fun _ _ _ _ _ => ets_nil) (fun _ _ _ _ _ => (ee_bin or_mul rb_mul (ee_ix rfl (ee_var 2) ee_int) (ee_bin op_fdivW rb_div (ee_var 1) (ee_ix rfl (ee_var 2) ee_int))))) (es_cons (es_set false 4 nd ee_int) (es_cons (es_for (p := (.n 5)) PassesOwn.never rfl (ei_seq rfl (ee_var 3)) (eg_name nd) (es_one (es_set false 4 nd (ee_call (ok_divisor T) (hr.mono (by decide)) T.m_divisor T.F_divisor.kp T.b_divisor rfl (ea_cons (ee_var 4) (ea_cons (ee_var 5) ea_nil)) (lc (lc ln)))))) (es_one (es_ret (ee_if (et_cmp (op_eqD hr.units) rb_eq (ee_var 4) ee_int) (ee_callTy call_tuple_of rc_tuple T.z_tuple (by decide +kernel) (ea_cons (ee_var 3) ea_nil)) (ee_callTy call_tuple_of rc_tuple T.z_tuple (by decide +kernel) (ea_cons (ee_lc (own := [("number", 5)]) (p := (.n 5)) rfl nd (ei_seq rfl (ee_var 3)) (blkOk_by (N := nm_scaled) (sc := defScope s_scaled) (by decide +kernel)) (by decide) (fun _ _ _ _ _ => (eg_name nd)) (fun _ _ _ _ _ => ets_nil) (fun _ _ _ _ _ => (ee_bin op_fdivW rb_div (ee_var 5) (ee_var 4)))) ea_nil))))))))))
theorem ok_dot (T : Tx K mg f0 f1 f2 f3 f4 f5 f6 f7 f8 f9 f10 f11 f12 f13 f14 f15 f16 f17 f18 f19 f20 f21 f22 f23 f24 f25 f26 f27 f28 fd0 fd1 fd2 fd3 fd4 fd5 fd6 fd7 fd8 fd9 fd10 fd11 fd12 fd13 fd14 fd15 fd16 fd17 fd18 fd19 fd20 fd21 fd22 fd23 fd24 fd25 fd26 fd27 fd28) : FnOk P w K mg base CX0 5 f15 fd15 ["row", "point"] (spM K xr0 2 f_dot) :=
  have nd := sc_dot.nd
  fn_ok' (m := m_dot) (N := nm_dot) (ps := ["row", "point"]) 4 rfl rfl rfl T.F_dot sc_dot fun cdv A outer s H E hr => (es_one (es_ret (ee_call (ok_total T) (hr.mono (by decide)) T.m_total T.F_total.kp T.b_total rfl (ea_cons (ee_lc (own := [("k", 2)]) (p := (.n 2)) rfl nd (ei_rng1 T.z_range (ea_cons (ee_callB call_len rc_len T.z_len PySem.boot_len (ea_cons (ee_var 0) ea_nil)) ea_nil)) (blkOk_by (N := nm_dot) (sc := defScope s_dot) (by decide +kernel)) (by decide) (fun _ _ _ _ _ => (eg_name nd)) (fun _ _ _ _ _ => ets_nil) (fun _ _ _ _ _ => (ee_call (ok_times T) (hr.mono (by decide)) T.m_times T.F_times.kp T.b_times rfl (ea_cons (ee_ix rfl (ee_var 1) (ee_var 2)) (ea_cons (ee_tup (ea_cons (ee_ix rfl (ee_var 0) (ee_var 2)) (ea_cons ee_int ea_nil)) (lc (lc ln))) ea_nil)) (lc (lc ln))))) ea_nil) (lc ln))))
theorem ok__law_state (T : Tx K mg f0 f1 f2 f3 f4 f5 f6 f7 f8 f9 f10 f11 f12 f13 f14 f15 f16 f17 f18 f19 f20 f21 f22 f23 f24 f25 f26 f27 f28 fd0 fd1 fd2 fd3 fd4 fd5 fd6 fd7 fd8 fd9 fd10 fd11 fd12 fd13 fd14 fd15 fd16 fd17 fd18 fd19 fd20 fd21 fd22 fd23 fd24 fd25 fd26 fd27 fd28) : FnOk P w K mg base CX0 1 f16 fd16 ["script"] (spState K) := by
  have nd := sc__law_state.nd
  refine T.F__law_state.ok (k := 0) sc__law_state (fun vs H Q E h => ?_) (fun cdv A outer s H vs Q E hr h => ?_)
  · obtain ⟨a, ns, rfl, _⟩ := h
    rfl
  · obtain ⟨a, ns, rfl, hS, hlen, q⟩ := h
    refine ⟨_, pss_cons (ps_setLc (i := 1) (own := [("cell", 2)]) (g := gName 2) (tt := tYes) rfl nd rfl rfl (sw_true rfl rfl rfl (by decide +kernel)) (pi_list (pe_slice sl_list (pv 0) po_none (po_some pe_int))) (blkOk_by (N := nm__law_state) (sc := defScope s__law_state) (by decide +kernel)) (fun _ _ _ _ _ => pg_name (i := 2) nd rfl (Or.inl rfl)) (fun _ _ _ _ _ => pts_nil) (fun _ _ _ _ _ => pe_callB call_abs (by rfl) T.z_abs (by decide +kernel) (pa_cons (pv 2) pa_nil)))
      (pss_cons (ps_if (pt_cmpR op_eq (pe_callB call_len_seq (by rfl) T.z_len PySem.boot_len (pa_cons (pv 1) pa_nil)) pe_int (nomark _)) (pss_one (ps_set (i := 1) nd rfl (.inl rfl) (pe_lst (pa_cons pe_int pa_nil)))) pss_nil)
      (pss_one (ps_ret (pe_lst (pa_cons pe_int (pa_cons (pv 1) pa_nil)))))), ?_⟩
    refine ⟨_, rfl, 63, rfl, a, ns.map V.int, rfl, hS, fun c nc => ?_⟩
    have hcut : cutV (ns.map V.int) none (some 63) = (ns.take 63).map V.int := by
      unfold cutV
      rw [HT.sIx_none, show HT.sIx (ns.map V.int).length (ns.map V.int).length (some 63) = min 63 (ns.map V.int).length from HT.sIx_nat _ _ 63]
      rw [List.drop_zero, Nat.sub_zero, ← List.map_take, List.length_map]
      congr 1
      by_cases h : 63 ≤ ns.length
      · rw [Nat.min_eq_left h]
      · rw [Nat.min_eq_right (by omega), List.take_of_length_le (Nat.le_refl _), List.take_of_length_le (by omega)]
    rw [hcut]
    let xs := ns.take 63
    have hxl : xs.length ≤ 63 := by show (ns.take 63).length ≤ 63; rw [List.length_take]; omega
    have s1 : Same H (upd H c (.lst (xs.map V.int))) := fun b o e => by rw [upd_ne (ne_of_none e nc)]; exact e
    refine ⟨c, rfl, ⟨_, .inl (.inl upd_same)⟩, fun D hD => ?_⟩
    have hDc : D ≠ c := fun e => by rw [e, upd_same] at hD; cases hD
    have hD0 : H D = none := by rwa [upd_ne hDc] at hD
    let ab : Int → Int := fun i => if i < 0 then -i else i
    refine lc_list (K := K) (a := c) (xs := xs.map V.int) (fun i H' => Same H H' ∧ H' c = some (.lst (xs.map V.int)) ∧ H' D = some (.lst (((xs.take i).map ab).map V.int))) ⟨?_, ?_, ?_⟩ (fun i H' _ p => .inl (.inl p.2.1)) (fun i x H' hx p => ?_) (fun H' p => ?_)
    · exact fun b o e => by rw [upd_ne (fun z => by rw [z, hD0] at e; cases e)]; exact s1 b o e
    · rw [upd_ne hDc.symm]; exact upd_same
    · rw [upd_same]; rfl
    · obtain ⟨p1, p2, p3⟩ := p
      rw [List.getElem?_map] at hx
      cases qx : xs[i]? with
      | none => rw [qx] at hx; cases hx
      | some k =>
        rw [qx] at hx
        cases hx
        have hil : i < xs.length := (List.getElem?_eq_some_iff.mp qx).1
        refine ⟨rfl, _, rfl, k, rfl, _, p3, ?_, ?_, ?_, ?_⟩
        · rw [List.length_map, List.length_map, List.length_take, sizeLine_eq]; omega
        · exact fun b o e => by rw [upd_ne (fun z => by rw [z, hD0] at e; cases e)]; exact p1 b o e
        · rw [upd_ne hDc.symm]; exact p2
        · rw [upd_same, List.take_add_one, qx]
          simp [ab]
    · obtain ⟨p1, p2, p3⟩ := p
      rw [List.length_map, List.take_of_length_le (Nat.le_refl _)] at p3
      refine ⟨_, rfl, D, _, rfl, .inl (SqL.of p3), rfl, _, rfl, ite2 (fun e => ?_) (fun e => ?_)⟩
      · have e0 : ((((xs.map ab).map V.int).length : Nat) : Int) = 0 := V.int.inj (of_decide_eq_true e)
        have hst : stCells ns = [0] := by
          unfold stCells
          simp only []
          have h0 : (xs.map ab).length = 0 := by rw [List.length_map] at e0; omega
          exact if_pos h0
        refine ⟨by show 1 ≤ sizeLine; rw [sizeLine_eq]; decide, fun c2 nc2 => ?_⟩
        refine ⟨_, rfl, by show 2 ≤ sizeLine; rw [sizeLine_eq]; decide, fun p np => ?_⟩
        have npc : p ≠ c2 := fun e => by rw [e, upd_same] at np; cases np
        have hc2 : H c2 = none := by
          cases z : H c2 with
          | none => rfl
          | some o => rw [p1 c2 o z] at nc2; cases nc2
        have hp : H p = none := by
          cases z : H p with
          | none => rfl
          | some o => rw [upd_ne npc, p1 p o z] at np; cases np
        refine q _ p c2 (fun b o z => ?_) hp hc2 npc upd_same ?_
        · rw [upd_ne (fun y => by rw [y, hp] at z; cases z), upd_ne (fun y => by rw [y, hc2] at z; cases z)]
          exact p1 b o z
        · rw [upd_ne npc.symm, upd_same, hst]; rfl
      · have e0 : ¬ ((((xs.map ab).map V.int).length : Nat) : Int) = 0 := fun z => e (decide_eq_true (by rw [z]))
        have hst : stCells ns = xs.map ab := by
          unfold stCells
          simp only []
          rw [if_neg (fun z => e0 (by rw [List.length_map]; have : (xs.map ab).length = 0 := z; omega))]
        refine ⟨_, rfl, by show 2 ≤ sizeLine; rw [sizeLine_eq]; decide, fun p np => ?_⟩
        have npD : p ≠ D := fun e => by rw [e, p3] at np; cases np
        have hp : H p = none := by
          cases z : H p with
          | none => rfl
          | some o => rw [p1 p o z] at np; cases np
        refine q _ p D (fun b o z => ?_) hp hD0 npD upd_same ?_
        · rw [upd_ne (fun y => by rw [y, hp] at z; cases z)]
          exact p1 b o z
        · rw [upd_ne npD.symm, p3, hst]
theorem ok__law_take (T : Tx K mg f0 f1 f2 f3 f4 f5 f6 f7 f8 f9 f10 f11 f12 f13 f14 f15 f16 f17 f18 f19 f20 f21 f22 f23 f24 f25 f26 f27 f28 fd0 fd1 fd2 fd3 fd4 fd5 fd6 fd7 fd8 fd9 fd10 fd11 fd12 fd13 fd14 fd15 fd16 fd17 fd18 fd19 fd20 fd21 fd22 fd23 fd24 fd25 fd26 fd27 fd28) : FnOk P w K mg base CX0 1 f17 fd17 ["state", "most"] (spM K xr0 2 fTake) := by
  refine FnOk.imp ?_ take_imp
  have nd := sc__law_take.nd
  refine T.F__law_take.ok (k := 0) sc__law_take (fun vs H Q E h => ?_) (fun cdv A outer s H vs Q E hr h => ?_)
  · obtain ⟨sa, ca, at', most, cells, rfl, _⟩ := h
    rfl
  · obtain ⟨sa, ca, at', most, cells, rfl, h1, h2, hne, hz, hm, q⟩ := h
    refine ⟨_, (pss_cons (ps_if (pt_cmpR op_lt (pv 1) pe_int (nomark _)) (pss_one (ps_ret pe_int)) pss_nil)
      (pss_cons (ps_set (i := 2) nd rfl (.inl rfl) (pe_ix ix_list (pv 0) pe_int (fun _ _ => rfl)))
      (pss_cons (ps_set (i := 3) nd rfl (.inl rfl) (pe_op op_mod (pe_callTy call_int1 (by rfl) T.z_int (by decide +kernel) (pa_cons (pe_ix ix_list (pv 0) pe_int (fun _ _ => rfl)) pa_nil)) (pe_callB call_len_seq (by rfl) T.z_len PySem.boot_len (pa_cons (pv 2) pa_nil))))
      (pss_cons (ps_set (i := 4) nd rfl (.inl rfl) (pe_ix ix_list (pv 2) (pv 3) (fun _ _ => rfl)))
      (pss_cons (ps_if (pt_cmpR op_ge (pv 4) pe_int (nomark _)) (pss_cons (ps_asg (pe_op op_fdivW (pv 4) (pv 1)) (pg_sub (pv 2) (pv 3) set_list)) (pss_one (ps_ret (pe_op op_mod (pe_callTy call_int1 (by rfl) T.z_int (by decide +kernel) (pa_cons (pv 4) pa_nil)) (pv 1))))) pss_nil)
      (pss_cons (ps_asg (pe_op op_add (pe_ix ix_list (pv 0) pe_int (fun _ _ => rfl)) pe_int) (pg_sub (pv 0) pe_int set_list))
      (pss_cons (ps_set (i := 5) nd rfl (.inl rfl) (pe_op op_mod (pe_callTy call_int1 (by rfl) T.z_int (by decide +kernel) (pa_cons (pe_op op_add (pe_op op_mul (pv 4) pe_int) (pe_op op_mul (pe_ix ix_list (pv 0) pe_int (fun _ _ => rfl)) pe_int)) pa_nil)) pe_int))
      (pss_cons (ps_set (i := 5) nd rfl (.inl rfl) (pe_op op_mod (pe_callTy call_int1 (by rfl) T.z_int (by decide +kernel) (pa_cons (pe_op op_add (pe_op op_mul (pv 5) pe_int) (pe_op op_mul (pe_ix ix_list (pv 0) pe_int (fun _ _ => rfl)) pe_int)) pa_nil)) pe_int))
      (pss_one (ps_ret (pe_op op_mod (pe_callTy call_int1 (by rfl) T.z_int (by decide +kernel) (pa_cons (pe_op op_fdiv (pv 5) pe_int) pa_nil)) (pv 1)))))))))))), ?_⟩
    refine ⟨.int most, rfl, most, 2, rfl, rfl, _, rfl, ite2 (fun e => ?_) (fun e => ?_)⟩
    · have e := of_decide_eq_true e
      have ht : takeC most at' cells = (0, at', cells) := by unfold takeC; rw [if_pos e]
      rw [ht] at q
      exact q H (fun _ _ _ => rfl) h1 h2
    · have e : ¬ most < 2 := fun z => e (decide_eq_true z)
      have hm : most.natAbs.log2 < 9000 := hm.resolve_left e
      have a0 : L2.atI [V.int at', V.ref ca] 0 = some (V.int at') := atI_nat (j := 0) rfl
      have a1 : L2.atI [V.int at', V.ref ca] 1 = some (V.ref ca) := atI_nat (j := 1) rfl
      have hl : (0 : Int) < ((cells.map V.int).length : Nat) := by rw [List.length_map]; omega
      refine ⟨_, rfl, sa, _, 1, _, rfl, rfl, SqL.of h1, a1, ?_⟩
      refine ⟨_, rfl, sa, _, 0, _, rfl, rfl, SqL.of h1, a0, .inl ⟨at', rfl, _, rfl, ca, cells.map V.int, rfl, .inl (SqL.of h2), at', _, rfl, rfl, hl, ?_⟩⟩
      have hi0 : 0 ≤ at' % ((cells.map V.int).length : Nat) := Int.emod_nonneg _ (by omega)
      have hi1 : at' % ((cells.map V.int).length : Nat) < ((cells.map V.int).length : Nat) := Int.emod_lt_of_pos _ hl
      obtain ⟨i, hi⟩ : ∃ i : Nat, at' % ((cells.map V.int).length : Nat) = (i : Int) := ⟨(at' % ((cells.map V.int).length : Nat)).toNat, by omega⟩
      have hic : i < cells.length := by rw [hi, List.length_map] at hi1; omega
      have hi' : (at' % (cells.length : Int)).toNat = i := by rw [List.length_map] at hi; omega
      have ac : L2.atI (cells.map V.int) (at' % ((cells.map V.int).length : Nat)) = some (V.int cells[i]) := by
        rw [hi]
        exact atI_nat (by rw [List.getElem?_map, List.getElem?_eq_getElem hic]; rfl)
      refine ⟨_, rfl, _, rfl, ca, _, _, _, rfl, rfl, SqL.of h2, ac, ?_⟩
      have gd : cells.getD i 0 = cells[i] := by simp [List.getD, List.getElem?_eq_getElem hic]
      refine ⟨_, rfl, _, _, rfl, rfl, _, rfl, ite2 (fun e2 => ?_) (fun e2 => ?_)⟩
      · have e2 := of_decide_eq_true e2
        have ht : takeC most at' cells = (cells[i] % most, at', cells.set i (cells[i] / most)) := by
          unfold takeC
          rw [if_neg e]
          simp only [hi', gd]
          rw [if_pos e2]
        rw [ht] at q
        refine ⟨_, rfl, _, rfl, _, _, rfl, rfl, ⟨by omega, hm⟩, _, rfl, _, rfl, ca, _, _, i, rfl, rfl, h2, ?_, ?_⟩
        · rw [hi]
          unfold ixN
          rw [if_pos (by omega), if_pos (by rw [List.length_map]; omega)]
          rfl
        · refine ⟨_, rfl, .inl ⟨_, rfl, _, rfl, _, _, rfl, rfl, by omega, ?_⟩⟩
          refine q _ (fun a n1 n2 => upd_ne n2) (by rw [upd_ne hne]; exact h1) (by rw [upd_same, List.map_set])
      · have e2 : ¬ 1000000000000000000 ≤ cells[i] := fun z => e2 (decide_eq_true z)
        have ht : takeC most at' cells = ((((cells[i] * 48271 + (at' + 1) * 69621) % 2147483647) * 16807 + (at' + 1) * 7919) % 1000000007 / 7 % most, at' + 1, cells) := by
          unfold takeC
          rw [if_neg e]
          simp only [hi', gd]
          rw [if_neg e2]
        rw [ht] at q
        refine ⟨_, rfl, sa, _, 0, _, rfl, rfl, SqL.of h1, a0, _, _, rfl, rfl, _, rfl, sa, _, 0, 0, rfl, rfl, h1, rfl, ?_⟩
        have h3 : upd H sa (.lst ([V.int at', V.ref ca].set 0 (V.int (at' + 1)))) sa = some (.lst [V.int (at' + 1), V.ref ca]) := upd_same
        have b0 : L2.atI [V.int (at' + 1), V.ref ca] 0 = some (V.int (at' + 1)) := atI_nat (j := 0) rfl
        refine ⟨_, rfl, _, _, rfl, rfl, .inr (by decide), _, rfl, sa, _, 0, _, rfl, rfl, SqL.of h3, b0, _, _, rfl, rfl, .inr (by decide), _, _, rfl, rfl, .inl ⟨_, rfl, _, _, rfl, rfl, by show (0 : Int) < 2147483647; decide, ?_⟩⟩
        refine ⟨_, rfl, _, _, rfl, rfl, .inr (by decide), _, rfl, sa, _, 0, _, rfl, rfl, SqL.of h3, b0, _, _, rfl, rfl, .inr (by decide), _, _, rfl, rfl, .inl ⟨_, rfl, _, _, rfl, rfl, by show (0 : Int) < 1000000007; decide, ?_⟩⟩
        refine ⟨_, rfl, _, _, rfl, rfl, ⟨by decide, by decide⟩, .inl ⟨_, rfl, _, rfl, _, _, rfl, rfl, by omega, ?_⟩⟩
        exact q _ (fun a n1 n2 => upd_ne n1) h3 (by rw [upd_ne hne.symm]; exact h2)
theorem ok__law_pick (T : Tx K mg f0 f1 f2 f3 f4 f5 f6 f7 f8 f9 f10 f11 f12 f13 f14 f15 f16 f17 f18 f19 f20 f21 f22 f23 f24 f25 f26 f27 f28 fd0 fd1 fd2 fd3 fd4 fd5 fd6 fd7 fd8 fd9 fd10 fd11 fd12 fd13 fd14 fd15 fd16 fd17 fd18 fd19 fd20 fd21 fd22 fd23 fd24 fd25 fd26 fd27 fd28) : FnOk P w K mg base CX0 2 f18 fd18 ["state", "row"] (spM K xr0 2 f__law_pick) :=
  have nd := sc__law_pick.nd
  fn_ok' (m := m__law_pick) (N := nm__law_pick) (ps := ["state", "row"]) 1 rfl rfl rfl T.F__law_pick sc__law_pick fun cdv A outer s H E hr => (es_one (es_ret (ee_ix rfl (ee_var 1) (ee_call (ok__law_take T) (hr.mono (by decide)) T.m__law_take T.F__law_take.kp T.b__law_take rfl (ea_cons (ee_var 0) (ea_cons (ee_callB call_len rc_len T.z_len PySem.boot_len (ea_cons (ee_var 1) ea_nil)) ea_nil)) (lc (lc ln))))))
theorem ok__law_fr (T : Tx K mg f0 f1 f2 f3 f4 f5 f6 f7 f8 f9 f10 f11 f12 f13 f14 f15 f16 f17 f18 f19 f20 f21 f22 f23 f24 f25 f26 f27 f28 fd0 fd1 fd2 fd3 fd4 fd5 fd6 fd7 fd8 fd9 fd10 fd11 fd12 fd13 fd14 fd15 fd16 fd17 fd18 fd19 fd20 fd21 fd22 fd23 fd24 fd25 fd26 fd27 fd28) : FnOk P w K mg base CX0 1 f19 fd19 ["above", "below"] (spM K xr0 2 f__law_fr) :=
  have nd := sc__law_fr.nd
  fn_ok' (m := m__law_fr) (N := nm__law_fr) (ps := ["above", "below"]) 0 rfl rfl rfl T.F__law_fr sc__law_fr fun cdv A outer s H E hr => (es_cons (es_if (et_cmp op_lt (rb_cmp (p := pLt)) (ee_var 1) ee_int) (es_one (es_par false 0 1 rfl nd (ea_cons (ee_bin op_sub rb_sub ee_int (ee_var 0)) (ea_cons (ee_bin op_sub rb_sub ee_int (ee_var 1)) ea_nil)))) es_nil) (es_cons (es_par false 2 3 rfl nd (ea_cons (ee_callB call_abs rc_abs T.z_abs (by decide +kernel) (ea_cons (ee_var 0) ea_nil)) (ea_cons (ee_var 1) ea_nil))) (es_cons (es_for (p := (.n 4)) PassesOwn.never rfl (ei_rng1 T.z_range (ea_cons ee_int ea_nil)) (eg_name nd) (es_cons (es_if (et_cmp (op_eqD hr.units) rb_eq (ee_var 3) ee_int) (es_one es_break) es_nil) (es_one (es_par false 2 3 rfl nd (ea_cons (ee_var 3) (ea_cons (ee_bin op_mod rb_mod (ee_callTy call_int1 rc_int T.z_int (by decide +kernel) (ea_cons (ee_var 2) ea_nil)) (ee_var 3)) ea_nil)))))) (es_one (es_ret (ee_tup (ea_cons (ee_bin op_fdivW rb_div (ee_var 0) (ee_var 2)) (ea_cons (ee_bin op_fdivW rb_div (ee_var 1) (ee_var 2)) ea_nil)) (lc (lc ln))))))))
theorem ok__law_add (T : Tx K mg f0 f1 f2 f3 f4 f5 f6 f7 f8 f9 f10 f11 f12 f13 f14 f15 f16 f17 f18 f19 f20 f21 f22 f23 f24 f25 f26 f27 f28 fd0 fd1 fd2 fd3 fd4 fd5 fd6 fd7 fd8 fd9 fd10 fd11 fd12 fd13 fd14 fd15 fd16 fd17 fd18 fd19 fd20 fd21 fd22 fd23 fd24 fd25 fd26 fd27 fd28) : FnOk P w K mg base CX0 2 f20 fd20 ["one", "other"] (spM K xr0 2 f__law_add) :=
  have nd := sc__law_add.nd
  fn_ok' (m := m__law_add) (N := nm__law_add) (ps := ["one", "other"]) 1 rfl rfl rfl T.F__law_add sc__law_add fun cdv A outer s H E hr => (es_one (es_ret (ee_call (ok__law_fr T) (hr.mono (by decide)) T.m__law_fr T.F__law_fr.kp T.b__law_fr rfl (ea_cons (ee_bin or_add rb_add (ee_bin or_mul rb_mul (ee_ix rfl (ee_var 0) ee_int) (ee_ix rfl (ee_var 1) ee_int)) (ee_bin or_mul rb_mul (ee_ix rfl (ee_var 1) ee_int) (ee_ix rfl (ee_var 0) ee_int))) (ea_cons (ee_bin or_mul rb_mul (ee_ix rfl (ee_var 0) ee_int) (ee_ix rfl (ee_var 1) ee_int)) ea_nil)) (lc (lc ln)))))
theorem ok__law_mul (T : Tx K mg f0 f1 f2 f3 f4 f5 f6 f7 f8 f9 f10 f11 f12 f13 f14 f15 f16 f17 f18 f19 f20 f21 f22 f23 f24 f25 f26 f27 f28 fd0 fd1 fd2 fd3 fd4 fd5 fd6 fd7 fd8 fd9 fd10 fd11 fd12 fd13 fd14 fd15 fd16 fd17 fd18 fd19 fd20 fd21 fd22 fd23 fd24 fd25 fd26 fd27 fd28) : FnOk P w K mg base CX0 2 f21 fd21 ["one", "other"] (spM K xr0 2 f__law_mul) :=
  have nd := sc__law_mul.nd
  fn_ok' (m := m__law_mul) (N := nm__law_mul) (ps := ["one", "other"]) 1 rfl rfl rfl T.F__law_mul sc__law_mul fun cdv A outer s H E hr => (es_one (es_ret (ee_call (ok__law_fr T) (hr.mono (by decide)) T.m__law_fr T.F__law_fr.kp T.b__law_fr rfl (ea_cons (ee_bin or_mul rb_mul (ee_ix rfl (ee_var 0) ee_int) (ee_ix rfl (ee_var 1) ee_int)) (ea_cons (ee_bin or_mul rb_mul (ee_ix rfl (ee_var 0) ee_int) (ee_ix rfl (ee_var 1) ee_int)) ea_nil)) (lc (lc ln)))))
theorem ok__law_sub (T : Tx K mg f0 f1 f2 f3 f4 f5 f6 f7 f8 f9 f10 f11 f12 f13 f14 f15 f16 f17 f18 f19 f20 f21 f22 f23 f24 f25 f26 f27 f28 fd0 fd1 fd2 fd3 fd4 fd5 fd6 fd7 fd8 fd9 fd10 fd11 fd12 fd13 fd14 fd15 fd16 fd17 fd18 fd19 fd20 fd21 fd22 fd23 fd24 fd25 fd26 fd27 fd28) : FnOk P w K mg base CX0 3 f22 fd22 ["one", "other"] (spM K xr0 2 f__law_sub) :=
  have nd := sc__law_sub.nd
  fn_ok' (m := m__law_sub) (N := nm__law_sub) (ps := ["one", "other"]) 2 rfl rfl rfl T.F__law_sub sc__law_sub fun cdv A outer s H E hr => (es_one (es_ret (ee_call (ok__law_add T) (hr.mono (by decide)) T.m__law_add T.F__law_add.kp T.b__law_add rfl (ea_cons (ee_var 0) (ea_cons (ee_tup (ea_cons (ee_bin op_sub rb_sub ee_int (ee_ix rfl (ee_var 1) ee_int)) (ea_cons (ee_ix rfl (ee_var 1) ee_int) ea_nil)) (lc (lc ln))) ea_nil)) (lc (lc ln)))))
theorem ok__law_sign (T : Tx K mg f0 f1 f2 f3 f4 f5 f6 f7 f8 f9 f10 f11 f12 f13 f14 f15 f16 f17 f18 f19 f20 f21 f22 f23 f24 f25 f26 f27 f28 fd0 fd1 fd2 fd3 fd4 fd5 fd6 fd7 fd8 fd9 fd10 fd11 fd12 fd13 fd14 fd15 fd16 fd17 fd18 fd19 fd20 fd21 fd22 fd23 fd24 fd25 fd26 fd27 fd28) : FnOk P w K mg base CX0 1 f23 fd23 ["one", "other"] (spM K xr0 2 f__law_sign) :=
  have nd := sc__law_sign.nd
  fn_ok' (m := m__law_sign) (N := nm__law_sign) (ps := ["one", "other"]) 0 rfl rfl rfl T.F__law_sign sc__law_sign fun cdv A outer s H E hr => (es_cons (es_set false 2 nd (ee_bin op_sub rb_sub (ee_bin or_mul rb_mul (ee_ix rfl (ee_var 0) ee_int) (ee_ix rfl (ee_var 1) ee_int)) (ee_bin or_mul rb_mul (ee_ix rfl (ee_var 1) ee_int) (ee_ix rfl (ee_var 0) ee_int)))) (es_one (es_ret (ee_if (et_cmp (op_eqD hr.units) rb_eq (ee_var 2) ee_int) ee_int (ee_if (et_cmp op_gt (rb_cmp (p := pGt)) (ee_var 2) ee_int) ee_int (ee_neg ee_int))))))
theorem ok__law_part (T : Tx K mg f0 f1 f2 f3 f4 f5 f6 f7 f8 f9 f10 f11 f12 f13 f14 f15 f16 f17 f18 f19 f20 f21 f22 f23 f24 f25 f26 f27 f28 fd0 fd1 fd2 fd3 fd4 fd5 fd6 fd7 fd8 fd9 fd10 fd11 fd12 fd13 fd14 fd15 fd16 fd17 fd18 fd19 fd20 fd21 fd22 fd23 fd24 fd25 fd26 fd27 fd28) : FnOk P w K mg base CX0 3 f24 fd24 ["state"] (spM K xr0 1 f__law_part) :=
  have nd := sc__law_part.nd
  fn_ok' (m := m__law_part) (N := nm__law_part) (ps := ["state"]) 2 rfl rfl rfl T.F__law_part sc__law_part fun cdv A outer s H E hr => (es_cons (es_set false 1 nd (ee_call (ok__law_pick T) (hr.mono (by decide)) T.m__law_pick T.F__law_pick.kp T.b__law_pick rfl (ea_cons (ee_var 0) (ea_cons (ee_lst (ea_cons ee_int (ea_cons ee_int (ea_cons ee_int (ea_cons ee_int ea_nil)))) (lc (lc (lc (lc ln))))) ea_nil)) (lc (lc ln)))) (es_one (es_ret (ee_call (ok__law_fr T) (hr.mono (by decide)) T.m__law_fr T.F__law_fr.kp T.b__law_fr rfl (ea_cons (ee_bin op_sub rb_sub (ee_call (ok__law_take T) (hr.mono (by decide)) T.m__law_take T.F__law_take.kp T.b__law_take rfl (ea_cons (ee_var 0) (ea_cons (ee_bin or_add rb_add (ee_bin or_mul rb_mul ee_int (ee_var 1)) ee_int) ea_nil)) (lc (lc ln))) (ee_var 1)) (ea_cons (ee_bin or_add rb_add ee_int (ee_call (ok__law_take T) (hr.mono (by decide)) T.m__law_take T.F__law_take.kp T.b__law_take rfl (ea_cons (ee_var 0) (ea_cons (ee_call (ok__law_pick T) (hr.mono (by decide)) T.m__law_pick T.F__law_pick.kp T.b__law_pick rfl (ea_cons (ee_var 0) (ea_cons (ee_lst (ea_cons ee_int (ea_cons ee_int (ea_cons ee_int ea_nil))) (lc (lc (lc ln)))) ea_nil)) (lc (lc ln))) ea_nil)) (lc (lc ln)))) ea_nil)) (lc (lc ln))))))
theorem ok__law_gcd (T : Tx K mg f0 f1 f2 f3 f4 f5 f6 f7 f8 f9 f10 f11 f12 f13 f14 f15 f16 f17 f18 f19 f20 f21 f22 f23 f24 f25 f26 f27 f28 fd0 fd1 fd2 fd3 fd4 fd5 fd6 fd7 fd8 fd9 fd10 fd11 fd12 fd13 fd14 fd15 fd16 fd17 fd18 fd19 fd20 fd21 fd22 fd23 fd24 fd25 fd26 fd27 fd28) : FnOk P w K mg base CX0 1 f25 fd25 ["one", "other"] (spM K xr0 2 f__law_gcd) :=
  have nd := sc__law_gcd.nd
  fn_ok' (m := m__law_gcd) (N := nm__law_gcd) (ps := ["one", "other"]) 0 rfl rfl rfl T.F__law_gcd sc__law_gcd fun cdv A outer s H E hr => (es_cons (es_par false 0 1 rfl nd (ea_cons (ee_callB call_abs rc_abs T.z_abs (by decide +kernel) (ea_cons (ee_var 0) ea_nil)) (ea_cons (ee_callB call_abs rc_abs T.z_abs (by decide +kernel) (ea_cons (ee_var 1) ea_nil)) ea_nil))) (es_cons (es_for (p := (.n 2)) PassesOwn.never rfl (ei_rng1 T.z_range (ea_cons ee_int ea_nil)) (eg_name nd) (es_cons (es_if (et_cmp (op_eqD hr.units) rb_eq (ee_var 1) ee_int) (es_one es_break) es_nil) (es_one (es_par false 0 1 rfl nd (ea_cons (ee_var 1) (ea_cons (ee_bin op_mod rb_mod (ee_callTy call_int1 rc_int T.z_int (by decide +kernel) (ea_cons (ee_var 0) ea_nil)) (ee_var 1)) ea_nil)))))) (es_one (es_ret (ee_var 0)))))
theorem ok__law_gcd_of (T : Tx K mg f0 f1 f2 f3 f4 f5 f6 f7 f8 f9 f10 f11 f12 f13 f14 f15 f16 f17 f18 f19 f20 f21 f22 f23 f24 f25 f26 f27 f28 fd0 fd1 fd2 fd3 fd4 fd5 fd6 fd7 fd8 fd9 fd10 fd11 fd12 fd13 fd14 fd15 fd16 fd17 fd18 fd19 fd20 fd21 fd22 fd23 fd24 fd25 fd26 fd27 fd28) : FnOk P w K mg base CX0 2 f26 fd26 ["row"] (spM K xr0 1 f__law_gcd_of) :=
  have nd := sc__law_gcd_of.nd
  fn_ok' (m := m__law_gcd_of) (N := nm__law_gcd_of) (ps := ["row"]) 1 rfl rfl rfl T.F__law_gcd_of sc__law_gcd_of fun cdv A outer s H E hr => (es_cons (es_set false 1 nd ee_int) (es_cons (es_for (p := (.n 2)) PassesOwn.never rfl (ei_seq rfl (ee_var 0)) (eg_name nd) (es_one (es_set false 1 nd (ee_call (ok__law_gcd T) (hr.mono (by decide)) T.m__law_gcd T.F__law_gcd.kp T.b__law_gcd rfl (ea_cons (ee_var 1) (ea_cons (ee_var 2) ea_nil)) (lc (lc ln)))))) (es_one (es_ret (ee_var 1)))))
theorem ok__law_is (T : Tx K mg f0 f1 f2 f3 f4 f5 f6 f7 f8 f9 f10 f11 f12 f13 f14 f15 f16 f17 f18 f19 f20 f21 f22 f23 f24 f25 f26 f27 f28 fd0 fd1 fd2 fd3 fd4 fd5 fd6 fd7 fd8 fd9 fd10 fd11 fd12 fd13 fd14 fd15 fd16 fd17 fd18 fd19 fd20 fd21 fd22 fd23 fd24 fd25 fd26 fd27 fd28) : FnOk P w K mg base CX0 2 f27 fd27 ["value"] (spM K xr0 1 f__law_is) :=
  have nd := sc__law_is.nd
  fn_ok' (m := m__law_is) (N := nm__law_is) (ps := ["value"]) 1 rfl rfl rfl T.F__law_is sc__law_is fun cdv A outer s H E hr => (es_cons (es_if (et_w (ew_or (et_not (et_val (ee_isi (T := "tuple") rfl (ee_var 0) T.z_isinstance (by decide +kernel) T.z_tuple (by decide +kernel)) rfl)) (ew_or1 (et_cmp (op_neD hr.units) rb_ne (ee_callB call_len rc_len T.z_len PySem.boot_len (ea_cons (ee_var 0) ea_nil)) ee_int)))) (es_one (es_ret ee_bl)) es_nil) (es_cons (es_if (et_cmp op_gt (rb_cmp (p := pGt)) (ee_callB call_len rc_len T.z_len PySem.boot_len (ea_cons (ee_lc (own := [("n", 1)]) (p := (.n 1)) rfl nd (ei_seq rfl (ee_var 0)) (blkOk_by (N := nm__law_is) (sc := defScope s__law_is) (by decide +kernel)) (by decide) (fun _ _ _ _ _ => (eg_name nd)) (fun _ _ _ _ _ => (ets_one (et_w (ew_or (et_not (et_val (ee_isi (T := "int") rfl (ee_var 1) T.z_isinstance (by decide +kernel) T.z_int (by decide +kernel)) rfl)) (ew_or1 (et_val (ee_isi (T := "bool") rfl (ee_var 1) T.z_isinstance (by decide +kernel) T.z_bool (by decide +kernel)) rfl)))))) (fun _ _ _ _ _ => (ee_var 1))) ea_nil)) ee_int) (es_one (es_ret ee_bl)) es_nil) (es_one (es_ret (ee_and (ee_cmp op_gt (rb_cmp (p := pGt)) (ee_ix rfl (ee_var 0) ee_int) ee_int) (ee_one (ee_cmp (op_eqD hr.units) rb_eq (ee_call (ok__law_gcd T) (hr.mono (by decide)) T.m__law_gcd T.F__law_gcd.kp T.b__law_gcd rfl (ea_cons (ee_ix rfl (ee_var 0) ee_int) (ea_cons (ee_ix rfl (ee_var 0) ee_int) ea_nil)) (lc (lc ln))) ee_int)))))))
theorem ok_law (T : Tx K mg f0 f1 f2 f3 f4 f5 f6 f7 f8 f9 f10 f11 f12 f13 f14 f15 f16 f17 f18 f19 f20 f21 f22 f23 f24 f25 f26 f27 f28 fd0 fd1 fd2 fd3 fd4 fd5 fd6 fd7 fd8 fd9 fd10 fd11 fd12 fd13 fd14 fd15 fd16 fd17 fd18 fd19 fd20 fd21 fd22 fd23 fd24 fd25 fd26 fd27 fd28) (hl : lawOk 21 1 m_law) : FnOk P w K mg base CX0 6 f28 fd28 ["script"] (spLaw K) := by
  refine T.F_law.ok sc_law (fun vs H Q E h => ?_) (fun cdv A outer s H vs Q E hr h => ?_)
  · obtain ⟨a, ns, rfl, _⟩ := h
    rfl
  · obtain ⟨a, ns, rfl, hS, hlen, q⟩ := h
    have nd := sc_law.nd
    refine ⟨_, pss_cons (ps_set (i := 1) nd rfl (.inr rfl) (pe_call (ok__law_state T) (hr.mono (by decide)) (by rfl) T.m__law_state T.F__law_state.kp T.b__law_state .nil pass0 (pa_cons (pv 0) pa_nil))) (show ESs _ ⟨K, xr0, E⟩ _ m_law from (es_cons (es_par3 false 2 3 4 rfl nd (ea_cons (ee_call (ok__law_part T) (hr.mono (by decide)) T.m__law_part T.F__law_part.kp T.b__law_part rfl (ea_cons (ee_var 1) ea_nil) (lc ln)) (ea_cons (ee_call (ok__law_part T) (hr.mono (by decide)) T.m__law_part T.F__law_part.kp T.b__law_part rfl (ea_cons (ee_var 1) ea_nil) (lc ln)) (ea_cons (ee_call (ok__law_part T) (hr.mono (by decide)) T.m__law_part T.F__law_part.kp T.b__law_part rfl (ea_cons (ee_var 1) ea_nil) (lc ln)) ea_nil)))) (es_cons (es_par false 5 6 rfl nd (ea_cons (ee_bin op_sub rb_sub (ee_call (ok__law_take T) (hr.mono (by decide)) T.m__law_take T.F__law_take.kp T.b__law_take rfl (ea_cons (ee_var 1) (ea_cons ee_int ea_nil)) (lc (lc ln))) ee_int) (ea_cons (ee_bin op_sub rb_sub (ee_call (ok__law_take T) (hr.mono (by decide)) T.m__law_take T.F__law_take.kp T.b__law_take rfl (ea_cons (ee_var 1) (ea_cons ee_int ea_nil)) (lc (lc ln))) ee_int) ea_nil))) (es_cons (es_if (et_w (ew_or (et_cmp (op_neD hr.units) rb_ne (ee_call (ok_divisor T) (hr.mono (by decide)) T.m_divisor T.F_divisor.kp T.b_divisor rfl (ea_cons (ee_var 5) (ea_cons (ee_var 6) ea_nil)) (lc (lc ln))) (ee_call (ok__law_gcd T) (hr.mono (by decide)) T.m__law_gcd T.F__law_gcd.kp T.b__law_gcd rfl (ea_cons (ee_var 5) (ea_cons (ee_var 6) ea_nil)) (lc (lc ln)))) (ew_or (et_cmp (op_neD hr.units) rb_ne (ee_call (ok_divisor T) (hr.mono (by decide)) T.m_divisor T.F_divisor.kp T.b_divisor rfl (ea_cons ee_int (ea_cons ee_int ea_nil)) (lc (lc ln))) ee_int) (ew_or (et_w (ew_and (et_cmp (op_neD hr.units) rb_ne (ee_var 6) ee_int) (ew_and1 (et_cmp (op_neD hr.units) rb_ne (ee_call (ok_part T) (hr.mono (by decide)) T.m_part T.F_part.kp T.b_part rfl (ea_cons (ee_var 5) (ea_cons (ee_var 6) ea_nil)) (lc (lc ln))) (ee_call (ok__law_fr T) (hr.mono (by decide)) T.m__law_fr T.F__law_fr.kp T.b__law_fr rfl (ea_cons (ee_var 5) (ea_cons (ee_var 6) ea_nil)) (lc (lc ln))))))) (ew_or1 (et_cmp (op_neD hr.units) rb_ne (ee_call (ok_part T) (hr.mono (by decide)) T.m_part T.F_part.kp T.b_part rfl (ea_cons ee_int (ea_cons ee_int ea_nil)) (lc (lc ln))) (ee_tup (ea_cons ee_int (ea_cons ee_int ea_nil)) (lc (lc ln))))))))) (es_one (es_ret ee_bl)) es_nil) (es_cons (es_if (et_w (ew_or (et_cmp (op_neD hr.units) rb_ne (ee_call (ok_plus T) (hr.mono (by decide)) T.m_plus T.F_plus.kp T.b_plus rfl (ea_cons (ee_var 2) (ea_cons (ee_var 3) ea_nil)) (lc (lc ln))) (ee_call (ok__law_add T) (hr.mono (by decide)) T.m__law_add T.F__law_add.kp T.b__law_add rfl (ea_cons (ee_var 2) (ea_cons (ee_var 3) ea_nil)) (lc (lc ln)))) (ew_or (et_cmp (op_neD hr.units) rb_ne (ee_call (ok_minus T) (hr.mono (by decide)) T.m_minus T.F_minus.kp T.b_minus rfl (ea_cons (ee_var 2) (ea_cons (ee_var 3) ea_nil)) (lc (lc ln))) (ee_call (ok__law_sub T) (hr.mono (by decide)) T.m__law_sub T.F__law_sub.kp T.b__law_sub rfl (ea_cons (ee_var 2) (ea_cons (ee_var 3) ea_nil)) (lc (lc ln)))) (ew_or1 (et_cmp (op_neD hr.units) rb_ne (ee_call (ok_times T) (hr.mono (by decide)) T.m_times T.F_times.kp T.b_times rfl (ea_cons (ee_var 2) (ea_cons (ee_var 3) ea_nil)) (lc (lc ln))) (ee_call (ok__law_mul T) (hr.mono (by decide)) T.m__law_mul T.F__law_mul.kp T.b__law_mul rfl (ea_cons (ee_var 2) (ea_cons (ee_var 3) ea_nil)) (lc (lc ln)))))))) (es_one (es_ret ee_bl)) es_nil) (es_cons (es_if (et_w (ew_and (et_cmp (op_neD hr.units) rb_ne (ee_ix rfl (ee_var 3) ee_int) ee_int) (ew_and1 (et_cmp (op_neD hr.units) rb_ne (ee_call (ok_over T) (hr.mono (by decide)) T.m_over T.F_over.kp T.b_over rfl (ea_cons (ee_var 2) (ea_cons (ee_var 3) ea_nil)) (lc (lc ln))) (ee_call (ok__law_mul T) (hr.mono (by decide)) T.m__law_mul T.F__law_mul.kp T.b__law_mul rfl (ea_cons (ee_var 2) (ea_cons (ee_call (ok__law_fr T) (hr.mono (by decide)) T.m__law_fr T.F__law_fr.kp T.b__law_fr rfl (ea_cons (ee_ix rfl (ee_var 3) ee_int) (ea_cons (ee_ix rfl (ee_var 3) ee_int) ea_nil)) (lc (lc ln))) ea_nil)) (lc (lc ln))))))) (es_one (es_ret ee_bl)) es_nil) (es_cons (es_if (et_w (ew_or (et_cmp (op_neD hr.units) rb_ne (ee_call (ok_is_less T) (hr.mono (by decide)) T.m_is_less T.F_is_less.kp T.b_is_less rfl (ea_cons (ee_var 2) (ea_cons (ee_var 3) ea_nil)) (lc (lc ln))) (ee_cmp op_lt (rb_cmp (p := pLt)) (ee_call (ok__law_sign T) (hr.mono (by decide)) T.m__law_sign T.F__law_sign.kp T.b__law_sign rfl (ea_cons (ee_var 2) (ea_cons (ee_var 3) ea_nil)) (lc (lc ln))) ee_int)) (ew_or (et_cmp or_isnot rb_isnot (ee_call (ok_is_less T) (hr.mono (by decide)) T.m_is_less T.F_is_less.kp T.b_is_less rfl (ea_cons (ee_var 2) (ea_cons (ee_var 2) ea_nil)) (lc (lc ln))) ee_bl) (ew_or1 (et_cmp or_isnot rb_isnot (ee_call (ok_is_less T) (hr.mono (by decide)) T.m_is_less T.F_is_less.kp T.b_is_less rfl (ea_cons (ee_var 2) (ea_cons (ee_call (ok__law_add T) (hr.mono (by decide)) T.m__law_add T.F__law_add.kp T.b__law_add rfl (ea_cons (ee_var 2) (ea_cons (ee_tup (ea_cons ee_int (ea_cons ee_int ea_nil)) (lc (lc ln))) ea_nil)) (lc (lc ln))) ea_nil)) (lc (lc ln))) ee_bl))))) (es_one (es_ret ee_bl)) es_nil) (es_cons (es_setLc (own := [("k", 14)]) (p := (.n 14)) false 7 rfl nd (sw_true rfl rfl rfl (by decide +kernel)) (ei_rng1 T.z_range (ea_cons (ee_call (ok__law_take T) (hr.mono (by decide)) T.m__law_take T.F__law_take.kp T.b__law_take rfl (ea_cons (ee_var 1) (ea_cons ee_int ea_nil)) (lc (lc ln))) ea_nil)) (blkOk_by (N := nm_law) (sc := defScope s_law) (by decide +kernel)) (by decide) (fun _ _ _ _ _ => (eg_name nd)) (fun _ _ _ _ _ => ets_nil) (fun _ _ _ _ _ => (ee_call (ok__law_part T) (hr.mono (by decide)) T.m__law_part T.F__law_part.kp T.b__law_part rfl (ea_cons (ee_var 1) ea_nil) (lc ln)))) (es_cons (es_asg false (ee_tup (ea_cons (ee_tup (ea_cons ee_int (ea_cons ee_int ea_nil)) (lc (lc ln))) (ea_cons ee_non ea_nil)) (lc (lc ln))) (eg_tup rfl rfl (egs_cons (eg_name nd) (egs_cons (eg_name nd) egs_nil)))) (es_cons (es_for (p := (.n 10)) PassesOwn.never rfl (ei_seq rfl (ee_var 7)) (eg_name nd) (es_cons (es_set false 8 nd (ee_call (ok__law_add T) (hr.mono (by decide)) T.m__law_add T.F__law_add.kp T.b__law_add rfl (ea_cons (ee_var 8) (ea_cons (ee_var 10) ea_nil)) (lc (lc ln)))) (es_one (es_set false 9 nd (ee_if (et_w (ew_or (et_cmp or_is rb_is (ee_var 9) ee_non) (ew_or1 (et_cmp op_lt (rb_cmp (p := pLt)) (ee_call (ok__law_sign T) (hr.mono (by decide)) T.m__law_sign T.F__law_sign.kp T.b__law_sign rfl (ea_cons (ee_var 10) (ea_cons (ee_var 9) ea_nil)) (lc (lc ln))) ee_int)))) (ee_var 10) (ee_var 9)))))) (es_cons (es_if (et_w (ew_or (et_cmp (op_neD hr.units) rb_ne (ee_call (ok_total T) (hr.mono (by decide)) T.m_total T.F_total.kp T.b_total rfl (ea_cons (ee_lc (own := [("n", 10)]) (p := (.n 10)) rfl nd (ei_seq rfl (ee_var 7)) (blkOk_by (N := nm_law) (sc := defScope s_law) (by decide +kernel)) (by decide) (fun _ _ _ _ _ => (eg_name nd)) (fun _ _ _ _ _ => ets_nil) (fun _ _ _ _ _ => (ee_var 10))) ea_nil) (lc ln)) (ee_var 8)) (ew_or1 (et_cmp (op_neD hr.units) rb_ne (ee_call (ok_least_of T) (hr.mono (by decide)) T.m_least_of T.F_least_of.kp T.b_least_of rfl (ea_cons (ee_lc (own := [("n", 10)]) (p := (.n 10)) rfl nd (ei_seq rfl (ee_var 7)) (blkOk_by (N := nm_law) (sc := defScope s_law) (by decide +kernel)) (by decide) (fun _ _ _ _ _ => (eg_name nd)) (fun _ _ _ _ _ => ets_nil) (fun _ _ _ _ _ => (ee_var 10))) ea_nil) (lc ln)) (ee_var 9))))) (es_one (es_ret ee_bl)) es_nil) (es_cons (es_par false 11 12 rfl nd (ea_cons (ee_call (ok_whole_below T) (hr.mono (by decide)) T.m_whole_below T.F_whole_below.kp T.b_whole_below rfl (ea_cons (ee_var 2) ea_nil) (lc ln)) (ea_cons (ee_call (ok_whole_above T) (hr.mono (by decide)) T.m_whole_above T.F_whole_above.kp T.b_whole_above rfl (ea_cons (ee_var 2) ea_nil) (lc ln)) ea_nil))) (es_cons (es_if (et_w (ew_or (et_cmp op_gt (rb_cmp (p := pGt)) (ee_bin or_mul rb_mul (ee_var 11) (ee_ix rfl (ee_var 2) ee_int)) (ee_ix rfl (ee_var 2) ee_int)) (ew_or (et_cmp op_le (rb_cmp (p := pLe)) (ee_bin or_mul rb_mul (ee_bin or_add rb_add (ee_var 11) ee_int) (ee_ix rfl (ee_var 2) ee_int)) (ee_ix rfl (ee_var 2) ee_int)) (ew_or (et_cmp op_lt (rb_cmp (p := pLt)) (ee_bin or_mul rb_mul (ee_var 12) (ee_ix rfl (ee_var 2) ee_int)) (ee_ix rfl (ee_var 2) ee_int)) (ew_or1 (et_cmp op_ge (rb_cmp (p := pGe)) (ee_bin or_mul rb_mul (ee_bin op_sub rb_sub (ee_var 12) ee_int) (ee_ix rfl (ee_var 2) ee_int)) (ee_ix rfl (ee_var 2) ee_int))))))) (es_one (es_ret ee_bl)) es_nil) (es_cons (es_if (et_w (ew_or (et_cmp (op_neD hr.units) rb_ne (ee_call (ok_is_whole_part T) (hr.mono (by decide)) T.m_is_whole_part T.F_is_whole_part.kp T.b_is_whole_part rfl (ea_cons (ee_var 2) ea_nil) (lc ln)) (ee_cmp (op_eqD hr.units) rb_eq (ee_ix rfl (ee_var 2) ee_int) ee_int)) (ew_or (et_cmp or_isnot rb_isnot (ee_call (ok_is_whole_part T) (hr.mono (by decide)) T.m_is_whole_part T.F_is_whole_part.kp T.b_is_whole_part rfl (ea_cons (ee_tup (ea_cons (ee_var 5) (ea_cons ee_int ea_nil)) (lc (lc ln))) ea_nil) (lc ln)) ee_bl) (ew_or1 (et_cmp or_isnot rb_isnot (ee_call (ok_is_whole_part T) (hr.mono (by decide)) T.m_is_whole_part T.F_is_whole_part.kp T.b_is_whole_part rfl (ea_cons (ee_tup (ea_cons ee_int (ea_cons ee_int ea_nil)) (lc (lc ln))) ea_nil) (lc ln)) ee_bl))))) (es_one (es_ret ee_bl)) es_nil) (es_cons (es_set false 13 nd (ee_call (ok_scaled T) (hr.mono (by decide)) T.m_scaled T.F_scaled.kp T.b_scaled rfl (ea_cons (ee_lc (own := [("n", 10)]) (p := (.n 10)) rfl nd (ei_seq rfl (ee_var 7)) (blkOk_by (N := nm_law) (sc := defScope s_law) (by decide +kernel)) (by decide) (fun _ _ _ _ _ => (eg_name nd)) (fun _ _ _ _ _ => ets_nil) (fun _ _ _ _ _ => (ee_var 10))) ea_nil) (lc ln))) (es_cons (es_if (et_w (ew_or (et_cmp (op_neD hr.units) rb_ne (ee_callB call_len rc_len T.z_len PySem.boot_len (ea_cons (ee_var 13) ea_nil)) (ee_callB call_len rc_len T.z_len PySem.boot_len (ea_cons (ee_var 7) ea_nil))) (ew_or1 (et_w (ew_and (et_cmp op_gt (rb_cmp (p := pGt)) (ee_callB call_len rc_len T.z_len PySem.boot_len (ea_cons (ee_var 7) ea_nil)) ee_int) (ew_and (et_cmp op_gt (rb_cmp (p := pGt)) (ee_callB (cr_maxAll rfl) rc_max T.z_max (by decide +kernel) (ea_cons (ee_lc (own := [("n", 10)]) (p := (.n 10)) rfl nd (ei_seq rfl (ee_var 7)) (blkOk_by (N := nm_law) (sc := defScope s_law) (by decide +kernel)) (by decide) (fun _ _ _ _ _ => (eg_name nd)) (fun _ _ _ _ _ => ets_nil) (fun _ _ _ _ _ => (ee_callB call_abs rc_abs T.z_abs (by decide +kernel) (ea_cons (ee_ix rfl (ee_var 10) ee_int) ea_nil)))) ea_nil)) ee_int) (ew_and1 (et_cmp (op_neD hr.units) rb_ne (ee_call (ok__law_gcd_of T) (hr.mono (by decide)) T.m__law_gcd_of T.F__law_gcd_of.kp T.b__law_gcd_of rfl (ea_cons (ee_var 13) ea_nil) (lc ln)) ee_int)))))))) (es_one (es_ret ee_bl)) es_nil) (es_cons (es_for (p := (.n 14)) PassesOwn.never rfl (ei_rng1 T.z_range (ea_cons (ee_callB call_len rc_len T.z_len PySem.boot_len (ea_cons (ee_var 7) ea_nil)) ea_nil)) (eg_name nd) (es_one (es_for (p := (.n 15)) PassesOwn.never rfl (ei_rng1 T.z_range (ea_cons (ee_callB call_len rc_len T.z_len PySem.boot_len (ea_cons (ee_var 7) ea_nil)) ea_nil)) (eg_name nd) (es_one (es_if (et_w (ew_or (et_cmp (op_neD hr.units) rb_ne (ee_call (ok__law_mul T) (hr.mono (by decide)) T.m__law_mul T.F__law_mul.kp T.b__law_mul rfl (ea_cons (ee_tup (ea_cons (ee_ix rfl (ee_var 13) (ee_var 14)) (ea_cons ee_int ea_nil)) (lc (lc ln))) (ea_cons (ee_ix rfl (ee_var 7) (ee_var 15)) ea_nil)) (lc (lc ln))) (ee_call (ok__law_mul T) (hr.mono (by decide)) T.m__law_mul T.F__law_mul.kp T.b__law_mul rfl (ea_cons (ee_tup (ea_cons (ee_ix rfl (ee_var 13) (ee_var 15)) (ea_cons ee_int ea_nil)) (lc (lc ln))) (ea_cons (ee_ix rfl (ee_var 7) (ee_var 14)) ea_nil)) (lc (lc ln)))) (ew_or (et_cmp (op_neD hr.units) rb_ne (ee_cmp op_gt (rb_cmp (p := pGt)) (ee_ix rfl (ee_var 13) (ee_var 14)) ee_int) (ee_cmp op_gt (rb_cmp (p := pGt)) (ee_ix rfl (ee_ix rfl (ee_var 7) (ee_var 14)) ee_int) ee_int)) (ew_or1 (et_cmp (op_neD hr.units) rb_ne (ee_cmp op_lt (rb_cmp (p := pLt)) (ee_ix rfl (ee_var 13) (ee_var 14)) ee_int) (ee_cmp op_lt (rb_cmp (p := pLt)) (ee_ix rfl (ee_ix rfl (ee_var 7) (ee_var 14)) ee_int) ee_int)))))) (es_one (es_ret ee_bl)) es_nil))))) (es_cons (es_setLc (own := [("n", 10)]) (p := (.n 10)) false 16 rfl nd (sw_true rfl rfl rfl (by decide +kernel)) (ei_seq rfl (ee_var 7)) (blkOk_by (N := nm_law) (sc := defScope s_law) (by decide +kernel)) (by decide) (fun _ _ _ _ _ => (eg_name nd)) (fun _ _ _ _ _ => ets_nil) (fun _ _ _ _ _ => (ee_bin op_sub rb_sub (ee_call (ok__law_take T) (hr.mono (by decide)) T.m__law_take T.F__law_take.kp T.b__law_take rfl (ea_cons (ee_var 1) (ea_cons ee_int ea_nil)) (lc (lc ln))) ee_int))) (es_cons (es_set false 17 nd (ee_tup (ea_cons ee_int (ea_cons ee_int ea_nil)) (lc (lc ln)))) (es_cons (es_for (p := (.n 14)) PassesOwn.never rfl (ei_rng1 T.z_range (ea_cons (ee_callB call_len rc_len T.z_len PySem.boot_len (ea_cons (ee_var 7) ea_nil)) ea_nil)) (eg_name nd) (es_one (es_set false 17 nd (ee_call (ok__law_add T) (hr.mono (by decide)) T.m__law_add T.F__law_add.kp T.b__law_add rfl (ea_cons (ee_var 17) (ea_cons (ee_call (ok__law_mul T) (hr.mono (by decide)) T.m__law_mul T.F__law_mul.kp T.b__law_mul rfl (ea_cons (ee_tup (ea_cons (ee_ix rfl (ee_var 16) (ee_var 14)) (ea_cons ee_int ea_nil)) (lc (lc ln))) (ea_cons (ee_ix rfl (ee_var 7) (ee_var 14)) ea_nil)) (lc (lc ln))) ea_nil)) (lc (lc ln)))))) (es_cons (es_if (et_cmp (op_neD hr.units) rb_ne (ee_call (ok_dot T) (hr.mono (by decide)) T.m_dot T.F_dot.kp T.b_dot rfl (ea_cons (ee_lc (own := [("n", 10)]) (p := (.n 10)) rfl nd (ei_seq rfl (ee_var 16)) (blkOk_by (N := nm_law) (sc := defScope s_law) (by decide +kernel)) (by decide) (fun _ _ _ _ _ => (eg_name nd)) (fun _ _ _ _ _ => ets_nil) (fun _ _ _ _ _ => (ee_var 10))) (ea_cons (ee_lc (own := [("n", 10)]) (p := (.n 10)) rfl nd (ei_seq rfl (ee_var 7)) (blkOk_by (N := nm_law) (sc := defScope s_law) (by decide +kernel)) (by decide) (fun _ _ _ _ _ => (eg_name nd)) (fun _ _ _ _ _ => ets_nil) (fun _ _ _ _ _ => (ee_var 10))) ea_nil)) (lc (lc ln))) (ee_var 17)) (es_one (es_ret ee_bl)) es_nil) (es_cons (es_for (p := (.n 18)) PassesOwn.never rfl (ei_seq rfl (ee_lst (ea_cons (ee_var 2) (ea_cons (ee_callTy call_list_of rc_list T.z_list (by decide +kernel) (ea_cons (ee_var 2) ea_nil)) (ea_cons (ee_bin or_add rb_add (ee_var 2) (ee_tup (ea_cons ee_int ea_nil) (lc ln))) (ea_cons (ee_tup (ea_cons (ee_ix rfl (ee_var 2) ee_int) (ea_cons (ee_bin op_sub rb_sub ee_int (ee_ix rfl (ee_var 2) ee_int)) ea_nil)) (lc (lc ln))) (ea_cons (ee_tup (ea_cons (ee_bin or_add rb_add (ee_bin or_mul rb_mul ee_int (ee_ix rfl (ee_var 2) ee_int)) ee_int) (ea_cons ee_int ea_nil)) (lc (lc ln))) (ea_cons (ee_tup (ea_cons (ee_var 5) (ea_cons ee_int ea_nil)) (lc (lc ln))) (ea_cons (ee_tup (ea_cons ee_bl (ea_cons ee_int ea_nil)) (lc (lc ln))) (ea_cons (ee_tup (ea_cons ee_int (ea_cons ee_bl ea_nil)) (lc (lc ln))) (ea_cons (ee_tup (ea_cons ee_int (ea_cons ee_int ea_nil)) (lc (lc ln))) (ea_cons (ee_tup (ea_cons ee_int (ea_cons ee_int ea_nil)) (lc (lc ln))) (ea_cons ee_non (ea_cons ee_int (ea_cons (ee_tup (ea_cons ee_str (ea_cons ee_int ea_nil)) (lc (lc ln))) (ea_cons (ee_tup (ea_cons (ee_var 5) (ea_cons ee_int ea_nil)) (lc (lc ln))) (ea_cons (ee_tup ea_nil ln) ea_nil))))))))))))))) (lc (lc (lc (lc (lc (lc (lc (lc (lc (lc (lc (lc (lc (lc (lc ln))))))))))))))))) (eg_name nd) (es_one (es_if (et_cmp (op_neD hr.units) rb_ne (ee_call (ok_is_part T) (hr.mono (by decide)) T.m_is_part T.F_is_part.kp T.b_is_part rfl (ea_cons (ee_var 18) ea_nil) (lc ln)) (ee_call (ok__law_is T) (hr.mono (by decide)) T.m__law_is T.F__law_is.kp T.b__law_is rfl (ea_cons (ee_var 18) ea_nil) (lc ln))) (es_one (es_ret ee_bl)) es_nil))) (es_cons (es_set false 19 nd (ee_callTy call_tuple_of rc_tuple T.z_tuple (by decide +kernel) (ea_cons (ee_var 7) ea_nil))) (es_cons (es_for (p := (.n 18)) PassesOwn.never rfl (ei_seq rfl (ee_lst (ea_cons (ee_var 19) (ea_cons (ee_callTy call_list_of rc_list T.z_list (by decide +kernel) (ea_cons (ee_var 19) ea_nil)) (ea_cons (ee_bin or_add rb_add (ee_var 19) (ee_tup (ea_cons ee_non ea_nil) (lc ln))) (ea_cons (ee_bin or_add rb_add (ee_var 19) (ee_tup (ea_cons (ee_tup (ea_cons ee_int (ea_cons ee_int ea_nil)) (lc (lc ln))) ea_nil) (lc ln))) (ea_cons (ee_bin or_add rb_add (ee_var 19) (ee_tup (ea_cons (ee_var 2) ea_nil) (lc ln))) (ea_cons ee_non (ea_cons (ee_tup ea_nil ln) (ea_cons (ee_tup (ea_cons (ee_var 2) (ea_cons (ee_var 3) (ea_cons (ee_var 4) ea_nil))) (lc (lc (lc ln)))) ea_nil)))))))) (lc (lc (lc (lc (lc (lc (lc (lc ln)))))))))) (eg_name nd) (es_one (es_for (p := (.n 20)) PassesOwn.never rfl (ei_seq rfl (ee_tup (ea_cons (ee_callB call_len rc_len T.z_len PySem.boot_len (ea_cons (ee_var 19) ea_nil)) (ea_cons ee_int ea_nil)) (lc (lc ln)))) (eg_name nd) (es_one (es_if (et_cmp (op_neD hr.units) rb_ne (ee_call (ok_are_parts T) (hr.mono (by decide)) T.m_are_parts T.F_are_parts.kp T.b_are_parts rfl (ea_cons (ee_var 18) (ea_cons (ee_var 20) ea_nil)) (lc (lc ln))) (ee_and (ee_isi (T := "tuple") rfl (ee_var 18) T.z_isinstance (by decide +kernel) T.z_tuple (by decide +kernel)) (ee_and (ee_cmp (op_eqD hr.units) rb_eq (ee_callB call_len rc_len T.z_len PySem.boot_len (ea_cons (ee_var 18) ea_nil)) (ee_var 20)) (ee_one (ee_cmp (op_eqD hr.units) rb_eq (ee_callB call_len rc_len T.z_len PySem.boot_len (ea_cons (ee_lc (own := [("n", 10)]) (p := (.n 10)) rfl nd (ei_seq rfl (ee_var 18)) (blkOk_by (N := nm_law) (sc := defScope s_law) (by decide +kernel)) (by decide) (fun _ _ _ _ _ => (eg_name nd)) (fun _ _ _ _ _ => (ets_one (et_not (et_val (ee_call (ok__law_is T) (hr.mono (by decide)) T.m__law_is T.F__law_is.kp T.b__law_is rfl (ea_cons (ee_var 10) ea_nil) (lc ln)) rfl)))) (fun _ _ _ _ _ => (ee_var 10))) ea_nil)) ee_int))))) (es_one (es_ret ee_bl)) es_nil))))) (es_one (es_ret ee_bl)))))))))))))))))))))))))), ?_⟩
    exact ⟨.ref a, rfl, a, ns, rfl, hS, hlen, fun H' p c _ _ _ hpc e1 e2 => law_read hl hlen q (by rfl) hpc e1 e2⟩
end
/-! what the top has written -/
theorem all_mk {l : PySem.W.OpenLaw} {w : World} {K : PySem.W.Frag} {h : Heap} {mg : Str → Option Value} {fa f0 f1 f2 f3 f4 f5 f6 f7 f8 f9 f10 f11 f12 f13 f14 f15 f16 f17 f18 f19 f20 f21 f22 f23 f24 f25 f26 f27 f28 : Addr} (X : K.In h) (G : h.Ns mainGlobals mg) (hfa : mg "law" = some (.ref fa))
    {od0 an0 : Option Addr} {sl0 : Array (Option Value)} {oc0 kV0 dc0 pm0 cd0 ct0 : Value}
    {od1 an1 : Option Addr} {sl1 : Array (Option Value)} {oc1 kV1 dc1 pm1 cd1 ct1 : Value}
    {od2 an2 : Option Addr} {sl2 : Array (Option Value)} {oc2 kV2 dc2 pm2 cd2 ct2 : Value}
    {od3 an3 : Option Addr} {sl3 : Array (Option Value)} {oc3 kV3 dc3 pm3 cd3 ct3 : Value}
    {od4 an4 : Option Addr} {sl4 : Array (Option Value)} {oc4 kV4 dc4 pm4 cd4 ct4 : Value}
    {od5 an5 : Option Addr} {sl5 : Array (Option Value)} {oc5 kV5 dc5 pm5 cd5 ct5 : Value}
    {od6 an6 : Option Addr} {sl6 : Array (Option Value)} {oc6 kV6 dc6 pm6 cd6 ct6 : Value}
    {od7 an7 : Option Addr} {sl7 : Array (Option Value)} {oc7 kV7 dc7 pm7 cd7 ct7 : Value}
    {od8 an8 : Option Addr} {sl8 : Array (Option Value)} {oc8 kV8 dc8 pm8 cd8 ct8 : Value}
    {od9 an9 : Option Addr} {sl9 : Array (Option Value)} {oc9 kV9 dc9 pm9 cd9 ct9 : Value}
    {od10 an10 : Option Addr} {sl10 : Array (Option Value)} {oc10 kV10 dc10 pm10 cd10 ct10 : Value}
    {od11 an11 : Option Addr} {sl11 : Array (Option Value)} {oc11 kV11 dc11 pm11 cd11 ct11 : Value}
    {od12 an12 : Option Addr} {sl12 : Array (Option Value)} {oc12 kV12 dc12 pm12 cd12 ct12 : Value}
    {od13 an13 : Option Addr} {sl13 : Array (Option Value)} {oc13 kV13 dc13 pm13 cd13 ct13 : Value}
    {od14 an14 : Option Addr} {sl14 : Array (Option Value)} {oc14 kV14 dc14 pm14 cd14 ct14 : Value}
    {od15 an15 : Option Addr} {sl15 : Array (Option Value)} {oc15 kV15 dc15 pm15 cd15 ct15 : Value}
    {od16 an16 : Option Addr} {sl16 : Array (Option Value)} {oc16 kV16 dc16 pm16 cd16 ct16 : Value}
    {od17 an17 : Option Addr} {sl17 : Array (Option Value)} {oc17 kV17 dc17 pm17 cd17 ct17 : Value}
    {od18 an18 : Option Addr} {sl18 : Array (Option Value)} {oc18 kV18 dc18 pm18 cd18 ct18 : Value}
    {od19 an19 : Option Addr} {sl19 : Array (Option Value)} {oc19 kV19 dc19 pm19 cd19 ct19 : Value}
    {od20 an20 : Option Addr} {sl20 : Array (Option Value)} {oc20 kV20 dc20 pm20 cd20 ct20 : Value}
    {od21 an21 : Option Addr} {sl21 : Array (Option Value)} {oc21 kV21 dc21 pm21 cd21 ct21 : Value}
    {od22 an22 : Option Addr} {sl22 : Array (Option Value)} {oc22 kV22 dc22 pm22 cd22 ct22 : Value}
    {od23 an23 : Option Addr} {sl23 : Array (Option Value)} {oc23 kV23 dc23 pm23 cd23 ct23 : Value}
    {od24 an24 : Option Addr} {sl24 : Array (Option Value)} {oc24 kV24 dc24 pm24 cd24 ct24 : Value}
    {od25 an25 : Option Addr} {sl25 : Array (Option Value)} {oc25 kV25 dc25 pm25 cd25 ct25 : Value}
    {od26 an26 : Option Addr} {sl26 : Array (Option Value)} {oc26 kV26 dc26 pm26 cd26 ct26 : Value}
    {od27 an27 : Option Addr} {sl27 : Array (Option Value)} {oc27 kV27 dc27 pm27 cd27 ct27 : Value}
    {od28 an28 : Option Addr} {sl28 : Array (Option Value)} {oc28 kV28 dc28 pm28 cd28 ct28 : Value}
    (a0 : PySem.W.nsIn K mainGlobals "divisor" = some (some (.ref f0))) (l0 : K.lookup f0 = some ⟨oc0, od0, .func (PySem.W.fnOf "divisor" "divisor" (defArgs s_divisor) (defBody s_divisor) (defScope s_divisor) .none kV0 dc0 pm0 an0 cd0 ct0), sl0⟩) (c0 : PySem.W.codeIn K cd0 "divisor" = true) (k0 : PySem.W.keepIn K (.ref f0) = true)
    (a1 : PySem.W.nsIn K mainGlobals "part" = some (some (.ref f1))) (l1 : K.lookup f1 = some ⟨oc1, od1, .func (PySem.W.fnOf "part" "part" (defArgs s_part) (defBody s_part) (defScope s_part) .none kV1 dc1 pm1 an1 cd1 ct1), sl1⟩) (c1 : PySem.W.codeIn K cd1 "part" = true) (k1 : PySem.W.keepIn K (.ref f1) = true)
    (a2 : PySem.W.nsIn K mainGlobals "is_part" = some (some (.ref f2))) (l2 : K.lookup f2 = some ⟨oc2, od2, .func (PySem.W.fnOf "is_part" "is_part" (defArgs s_is_part) (defBody s_is_part) (defScope s_is_part) .none kV2 dc2 pm2 an2 cd2 ct2), sl2⟩) (c2 : PySem.W.codeIn K cd2 "is_part" = true) (k2 : PySem.W.keepIn K (.ref f2) = true)
    (a3 : PySem.W.nsIn K mainGlobals "plus" = some (some (.ref f3))) (l3 : K.lookup f3 = some ⟨oc3, od3, .func (PySem.W.fnOf "plus" "plus" (defArgs s_plus) (defBody s_plus) (defScope s_plus) .none kV3 dc3 pm3 an3 cd3 ct3), sl3⟩) (c3 : PySem.W.codeIn K cd3 "plus" = true) (k3 : PySem.W.keepIn K (.ref f3) = true)
    (a4 : PySem.W.nsIn K mainGlobals "minus" = some (some (.ref f4))) (l4 : K.lookup f4 = some ⟨oc4, od4, .func (PySem.W.fnOf "minus" "minus" (defArgs s_minus) (defBody s_minus) (defScope s_minus) .none kV4 dc4 pm4 an4 cd4 ct4), sl4⟩) (c4 : PySem.W.codeIn K cd4 "minus" = true) (k4 : PySem.W.keepIn K (.ref f4) = true)
    (a5 : PySem.W.nsIn K mainGlobals "times" = some (some (.ref f5))) (l5 : K.lookup f5 = some ⟨oc5, od5, .func (PySem.W.fnOf "times" "times" (defArgs s_times) (defBody s_times) (defScope s_times) .none kV5 dc5 pm5 an5 cd5 ct5), sl5⟩) (c5 : PySem.W.codeIn K cd5 "times" = true) (k5 : PySem.W.keepIn K (.ref f5) = true)
    (a6 : PySem.W.nsIn K mainGlobals "over" = some (some (.ref f6))) (l6 : K.lookup f6 = some ⟨oc6, od6, .func (PySem.W.fnOf "over" "over" (defArgs s_over) (defBody s_over) (defScope s_over) .none kV6 dc6 pm6 an6 cd6 ct6), sl6⟩) (c6 : PySem.W.codeIn K cd6 "over" = true) (k6 : PySem.W.keepIn K (.ref f6) = true)
    (a7 : PySem.W.nsIn K mainGlobals "is_less" = some (some (.ref f7))) (l7 : K.lookup f7 = some ⟨oc7, od7, .func (PySem.W.fnOf "is_less" "is_less" (defArgs s_is_less) (defBody s_is_less) (defScope s_is_less) .none kV7 dc7 pm7 an7 cd7 ct7), sl7⟩) (c7 : PySem.W.codeIn K cd7 "is_less" = true) (k7 : PySem.W.keepIn K (.ref f7) = true)
    (a8 : PySem.W.nsIn K mainGlobals "total" = some (some (.ref f8))) (l8 : K.lookup f8 = some ⟨oc8, od8, .func (PySem.W.fnOf "total" "total" (defArgs s_total) (defBody s_total) (defScope s_total) .none kV8 dc8 pm8 an8 cd8 ct8), sl8⟩) (c8 : PySem.W.codeIn K cd8 "total" = true) (k8 : PySem.W.keepIn K (.ref f8) = true)
    (a9 : PySem.W.nsIn K mainGlobals "least_of" = some (some (.ref f9))) (l9 : K.lookup f9 = some ⟨oc9, od9, .func (PySem.W.fnOf "least_of" "least_of" (defArgs s_least_of) (defBody s_least_of) (defScope s_least_of) .none kV9 dc9 pm9 an9 cd9 ct9), sl9⟩) (c9 : PySem.W.codeIn K cd9 "least_of" = true) (k9 : PySem.W.keepIn K (.ref f9) = true)
    (a10 : PySem.W.nsIn K mainGlobals "whole_below" = some (some (.ref f10))) (l10 : K.lookup f10 = some ⟨oc10, od10, .func (PySem.W.fnOf "whole_below" "whole_below" (defArgs s_whole_below) (defBody s_whole_below) (defScope s_whole_below) .none kV10 dc10 pm10 an10 cd10 ct10), sl10⟩) (c10 : PySem.W.codeIn K cd10 "whole_below" = true) (k10 : PySem.W.keepIn K (.ref f10) = true)
    (a11 : PySem.W.nsIn K mainGlobals "whole_above" = some (some (.ref f11))) (l11 : K.lookup f11 = some ⟨oc11, od11, .func (PySem.W.fnOf "whole_above" "whole_above" (defArgs s_whole_above) (defBody s_whole_above) (defScope s_whole_above) .none kV11 dc11 pm11 an11 cd11 ct11), sl11⟩) (c11 : PySem.W.codeIn K cd11 "whole_above" = true) (k11 : PySem.W.keepIn K (.ref f11) = true)
    (a12 : PySem.W.nsIn K mainGlobals "is_whole_part" = some (some (.ref f12))) (l12 : K.lookup f12 = some ⟨oc12, od12, .func (PySem.W.fnOf "is_whole_part" "is_whole_part" (defArgs s_is_whole_part) (defBody s_is_whole_part) (defScope s_is_whole_part) .none kV12 dc12 pm12 an12 cd12 ct12), sl12⟩) (c12 : PySem.W.codeIn K cd12 "is_whole_part" = true) (k12 : PySem.W.keepIn K (.ref f12) = true)
    (a13 : PySem.W.nsIn K mainGlobals "are_parts" = some (some (.ref f13))) (l13 : K.lookup f13 = some ⟨oc13, od13, .func (PySem.W.fnOf "are_parts" "are_parts" (defArgs s_are_parts) (defBody s_are_parts) (defScope s_are_parts) .none kV13 dc13 pm13 an13 cd13 ct13), sl13⟩) (c13 : PySem.W.codeIn K cd13 "are_parts" = true) (k13 : PySem.W.keepIn K (.ref f13) = true)
    (a14 : PySem.W.nsIn K mainGlobals "scaled" = some (some (.ref f14))) (l14 : K.lookup f14 = some ⟨oc14, od14, .func (PySem.W.fnOf "scaled" "scaled" (defArgs s_scaled) (defBody s_scaled) (defScope s_scaled) .none kV14 dc14 pm14 an14 cd14 ct14), sl14⟩) (c14 : PySem.W.codeIn K cd14 "scaled" = true) (k14 : PySem.W.keepIn K (.ref f14) = true)
    (a15 : PySem.W.nsIn K mainGlobals "dot" = some (some (.ref f15))) (l15 : K.lookup f15 = some ⟨oc15, od15, .func (PySem.W.fnOf "dot" "dot" (defArgs s_dot) (defBody s_dot) (defScope s_dot) .none kV15 dc15 pm15 an15 cd15 ct15), sl15⟩) (c15 : PySem.W.codeIn K cd15 "dot" = true) (k15 : PySem.W.keepIn K (.ref f15) = true)
    (a16 : PySem.W.nsIn K mainGlobals "_law_state" = some (some (.ref f16))) (l16 : K.lookup f16 = some ⟨oc16, od16, .func (PySem.W.fnOf "_law_state" "_law_state" (defArgs s__law_state) (defBody s__law_state) (defScope s__law_state) .none kV16 dc16 pm16 an16 cd16 ct16), sl16⟩) (c16 : PySem.W.codeIn K cd16 "_law_state" = true) (k16 : PySem.W.keepIn K (.ref f16) = true)
    (a17 : PySem.W.nsIn K mainGlobals "_law_take" = some (some (.ref f17))) (l17 : K.lookup f17 = some ⟨oc17, od17, .func (PySem.W.fnOf "_law_take" "_law_take" (defArgs s__law_take) (defBody s__law_take) (defScope s__law_take) .none kV17 dc17 pm17 an17 cd17 ct17), sl17⟩) (c17 : PySem.W.codeIn K cd17 "_law_take" = true) (k17 : PySem.W.keepIn K (.ref f17) = true)
    (a18 : PySem.W.nsIn K mainGlobals "_law_pick" = some (some (.ref f18))) (l18 : K.lookup f18 = some ⟨oc18, od18, .func (PySem.W.fnOf "_law_pick" "_law_pick" (defArgs s__law_pick) (defBody s__law_pick) (defScope s__law_pick) .none kV18 dc18 pm18 an18 cd18 ct18), sl18⟩) (c18 : PySem.W.codeIn K cd18 "_law_pick" = true) (k18 : PySem.W.keepIn K (.ref f18) = true)
    (a19 : PySem.W.nsIn K mainGlobals "_law_fr" = some (some (.ref f19))) (l19 : K.lookup f19 = some ⟨oc19, od19, .func (PySem.W.fnOf "_law_fr" "_law_fr" (defArgs s__law_fr) (defBody s__law_fr) (defScope s__law_fr) .none kV19 dc19 pm19 an19 cd19 ct19), sl19⟩) (c19 : PySem.W.codeIn K cd19 "_law_fr" = true) (k19 : PySem.W.keepIn K (.ref f19) = true)
    (a20 : PySem.W.nsIn K mainGlobals "_law_add" = some (some (.ref f20))) (l20 : K.lookup f20 = some ⟨oc20, od20, .func (PySem.W.fnOf "_law_add" "_law_add" (defArgs s__law_add) (defBody s__law_add) (defScope s__law_add) .none kV20 dc20 pm20 an20 cd20 ct20), sl20⟩) (c20 : PySem.W.codeIn K cd20 "_law_add" = true) (k20 : PySem.W.keepIn K (.ref f20) = true)
    (a21 : PySem.W.nsIn K mainGlobals "_law_mul" = some (some (.ref f21))) (l21 : K.lookup f21 = some ⟨oc21, od21, .func (PySem.W.fnOf "_law_mul" "_law_mul" (defArgs s__law_mul) (defBody s__law_mul) (defScope s__law_mul) .none kV21 dc21 pm21 an21 cd21 ct21), sl21⟩) (c21 : PySem.W.codeIn K cd21 "_law_mul" = true) (k21 : PySem.W.keepIn K (.ref f21) = true)
    (a22 : PySem.W.nsIn K mainGlobals "_law_sub" = some (some (.ref f22))) (l22 : K.lookup f22 = some ⟨oc22, od22, .func (PySem.W.fnOf "_law_sub" "_law_sub" (defArgs s__law_sub) (defBody s__law_sub) (defScope s__law_sub) .none kV22 dc22 pm22 an22 cd22 ct22), sl22⟩) (c22 : PySem.W.codeIn K cd22 "_law_sub" = true) (k22 : PySem.W.keepIn K (.ref f22) = true)
    (a23 : PySem.W.nsIn K mainGlobals "_law_sign" = some (some (.ref f23))) (l23 : K.lookup f23 = some ⟨oc23, od23, .func (PySem.W.fnOf "_law_sign" "_law_sign" (defArgs s__law_sign) (defBody s__law_sign) (defScope s__law_sign) .none kV23 dc23 pm23 an23 cd23 ct23), sl23⟩) (c23 : PySem.W.codeIn K cd23 "_law_sign" = true) (k23 : PySem.W.keepIn K (.ref f23) = true)
    (a24 : PySem.W.nsIn K mainGlobals "_law_part" = some (some (.ref f24))) (l24 : K.lookup f24 = some ⟨oc24, od24, .func (PySem.W.fnOf "_law_part" "_law_part" (defArgs s__law_part) (defBody s__law_part) (defScope s__law_part) .none kV24 dc24 pm24 an24 cd24 ct24), sl24⟩) (c24 : PySem.W.codeIn K cd24 "_law_part" = true) (k24 : PySem.W.keepIn K (.ref f24) = true)
    (a25 : PySem.W.nsIn K mainGlobals "_law_gcd" = some (some (.ref f25))) (l25 : K.lookup f25 = some ⟨oc25, od25, .func (PySem.W.fnOf "_law_gcd" "_law_gcd" (defArgs s__law_gcd) (defBody s__law_gcd) (defScope s__law_gcd) .none kV25 dc25 pm25 an25 cd25 ct25), sl25⟩) (c25 : PySem.W.codeIn K cd25 "_law_gcd" = true) (k25 : PySem.W.keepIn K (.ref f25) = true)
    (a26 : PySem.W.nsIn K mainGlobals "_law_gcd_of" = some (some (.ref f26))) (l26 : K.lookup f26 = some ⟨oc26, od26, .func (PySem.W.fnOf "_law_gcd_of" "_law_gcd_of" (defArgs s__law_gcd_of) (defBody s__law_gcd_of) (defScope s__law_gcd_of) .none kV26 dc26 pm26 an26 cd26 ct26), sl26⟩) (c26 : PySem.W.codeIn K cd26 "_law_gcd_of" = true) (k26 : PySem.W.keepIn K (.ref f26) = true)
    (a27 : PySem.W.nsIn K mainGlobals "_law_is" = some (some (.ref f27))) (l27 : K.lookup f27 = some ⟨oc27, od27, .func (PySem.W.fnOf "_law_is" "_law_is" (defArgs s__law_is) (defBody s__law_is) (defScope s__law_is) .none kV27 dc27 pm27 an27 cd27 ct27), sl27⟩) (c27 : PySem.W.codeIn K cd27 "_law_is" = true) (k27 : PySem.W.keepIn K (.ref f27) = true)
    (a28 : PySem.W.nsIn K mainGlobals "law" = some (some (.ref f28))) (l28 : K.lookup f28 = some ⟨oc28, od28, .func (PySem.W.fnOf "law" "law" (defArgs s_law) (defBody s_law) (defScope s_law) .none kV28 dc28 pm28 an28 cd28 ct28), sl28⟩) (c28 : PySem.W.codeIn K cd28 "law" = true) (k28 : PySem.W.keepIn K (.ref f28) = true)
    (z_abs : PySem.W.nsIn K mainGlobals "abs" = some none)
    (z_all : PySem.W.nsIn K mainGlobals "all" = some none)
    (z_bool : PySem.W.nsIn K mainGlobals "bool" = some none)
    (z_int : PySem.W.nsIn K mainGlobals "int" = some none)
    (z_isinstance : PySem.W.nsIn K mainGlobals "isinstance" = some none)
    (z_len : PySem.W.nsIn K mainGlobals "len" = some none)
    (z_list : PySem.W.nsIn K mainGlobals "list" = some none)
    (z_max : PySem.W.nsIn K mainGlobals "max" = some none)
    (z_range : PySem.W.nsIn K mainGlobals "range" = some none)
    (z_tuple : PySem.W.nsIn K mainGlobals "tuple" = some none)
    (hl : lawOk 21 1 m_law) :
    ∃ fd : FuncData, (∀ (s : Shared) (v : Value), BindsTo s fd ⟨[v], []⟩ [("script", v)]) ∧ ∀ base : Heap, K.In base → base.Ns mainGlobals mg → FnOk l.prog w K mg base CX0 6 fa fd ["script"] (spLaw K) := by
  have e := hfa.symm.trans (PySem.W.mg_of X G a28)
  cases e
  have F0 := fun_mk (st := s_divisor) l0 c0 k0
  have b0 := F0.binds (ps := ["one", "other"]) fun _ _ _ _ _ _ us hl => match us, hl with | [_, _], _ => rfl
  have F1 := fun_mk (st := s_part) l1 c1 k1
  have b1 := F1.binds (ps := ["above", "below"]) fun _ _ _ _ _ _ us hl => match us, hl with | [_, _], _ => rfl
  have F2 := fun_mk (st := s_is_part) l2 c2 k2
  have b2 := F2.binds (ps := ["value"]) fun _ _ _ _ _ _ us hl => match us, hl with | [_], _ => rfl
  have F3 := fun_mk (st := s_plus) l3 c3 k3
  have b3 := F3.binds (ps := ["one", "other"]) fun _ _ _ _ _ _ us hl => match us, hl with | [_, _], _ => rfl
  have F4 := fun_mk (st := s_minus) l4 c4 k4
  have b4 := F4.binds (ps := ["one", "other"]) fun _ _ _ _ _ _ us hl => match us, hl with | [_, _], _ => rfl
  have F5 := fun_mk (st := s_times) l5 c5 k5
  have b5 := F5.binds (ps := ["one", "other"]) fun _ _ _ _ _ _ us hl => match us, hl with | [_, _], _ => rfl
  have F6 := fun_mk (st := s_over) l6 c6 k6
  have b6 := F6.binds (ps := ["one", "other"]) fun _ _ _ _ _ _ us hl => match us, hl with | [_, _], _ => rfl
  have F7 := fun_mk (st := s_is_less) l7 c7 k7
  have b7 := F7.binds (ps := ["one", "other"]) fun _ _ _ _ _ _ us hl => match us, hl with | [_, _], _ => rfl
  have F8 := fun_mk (st := s_total) l8 c8 k8
  have b8 := F8.binds (ps := ["row"]) fun _ _ _ _ _ _ us hl => match us, hl with | [_], _ => rfl
  have F9 := fun_mk (st := s_least_of) l9 c9 k9
  have b9 := F9.binds (ps := ["row"]) fun _ _ _ _ _ _ us hl => match us, hl with | [_], _ => rfl
  have F10 := fun_mk (st := s_whole_below) l10 c10 k10
  have b10 := F10.binds (ps := ["one"]) fun _ _ _ _ _ _ us hl => match us, hl with | [_], _ => rfl
  have F11 := fun_mk (st := s_whole_above) l11 c11 k11
  have b11 := F11.binds (ps := ["one"]) fun _ _ _ _ _ _ us hl => match us, hl with | [_], _ => rfl
  have F12 := fun_mk (st := s_is_whole_part) l12 c12 k12
  have b12 := F12.binds (ps := ["one"]) fun _ _ _ _ _ _ us hl => match us, hl with | [_], _ => rfl
  have F13 := fun_mk (st := s_are_parts) l13 c13 k13
  have b13 := F13.binds (ps := ["value", "many"]) fun _ _ _ _ _ _ us hl => match us, hl with | [_, _], _ => rfl
  have F14 := fun_mk (st := s_scaled) l14 c14 k14
  have b14 := F14.binds (ps := ["row"]) fun _ _ _ _ _ _ us hl => match us, hl with | [_], _ => rfl
  have F15 := fun_mk (st := s_dot) l15 c15 k15
  have b15 := F15.binds (ps := ["row", "point"]) fun _ _ _ _ _ _ us hl => match us, hl with | [_, _], _ => rfl
  have F16 := fun_mk (st := s__law_state) l16 c16 k16
  have b16 := F16.binds (ps := ["script"]) fun _ _ _ _ _ _ us hl => match us, hl with | [_], _ => rfl
  have F17 := fun_mk (st := s__law_take) l17 c17 k17
  have b17 := F17.binds (ps := ["state", "most"]) fun _ _ _ _ _ _ us hl => match us, hl with | [_, _], _ => rfl
  have F18 := fun_mk (st := s__law_pick) l18 c18 k18
  have b18 := F18.binds (ps := ["state", "row"]) fun _ _ _ _ _ _ us hl => match us, hl with | [_, _], _ => rfl
  have F19 := fun_mk (st := s__law_fr) l19 c19 k19
  have b19 := F19.binds (ps := ["above", "below"]) fun _ _ _ _ _ _ us hl => match us, hl with | [_, _], _ => rfl
  have F20 := fun_mk (st := s__law_add) l20 c20 k20
  have b20 := F20.binds (ps := ["one", "other"]) fun _ _ _ _ _ _ us hl => match us, hl with | [_, _], _ => rfl
  have F21 := fun_mk (st := s__law_mul) l21 c21 k21
  have b21 := F21.binds (ps := ["one", "other"]) fun _ _ _ _ _ _ us hl => match us, hl with | [_, _], _ => rfl
  have F22 := fun_mk (st := s__law_sub) l22 c22 k22
  have b22 := F22.binds (ps := ["one", "other"]) fun _ _ _ _ _ _ us hl => match us, hl with | [_, _], _ => rfl
  have F23 := fun_mk (st := s__law_sign) l23 c23 k23
  have b23 := F23.binds (ps := ["one", "other"]) fun _ _ _ _ _ _ us hl => match us, hl with | [_, _], _ => rfl
  have F24 := fun_mk (st := s__law_part) l24 c24 k24
  have b24 := F24.binds (ps := ["state"]) fun _ _ _ _ _ _ us hl => match us, hl with | [_], _ => rfl
  have F25 := fun_mk (st := s__law_gcd) l25 c25 k25
  have b25 := F25.binds (ps := ["one", "other"]) fun _ _ _ _ _ _ us hl => match us, hl with | [_, _], _ => rfl
  have F26 := fun_mk (st := s__law_gcd_of) l26 c26 k26
  have b26 := F26.binds (ps := ["row"]) fun _ _ _ _ _ _ us hl => match us, hl with | [_], _ => rfl
  have F27 := fun_mk (st := s__law_is) l27 c27 k27
  have b27 := F27.binds (ps := ["value"]) fun _ _ _ _ _ _ us hl => match us, hl with | [_], _ => rfl
  have F28 := fun_mk (st := s_law) l28 c28 k28
  have b28 := F28.binds (ps := ["script"]) fun _ _ _ _ _ _ us hl => match us, hl with | [_], _ => rfl
  have T : Tx K mg f0 f1 f2 f3 f4 f5 f6 f7 f8 f9 f10 f11 f12 f13 f14 f15 f16 f17 f18 f19 f20 f21 f22 f23 f24 f25 f26 f27 fa _ _ _ _ _ _ _ _ _ _ _ _ _ _ _ _ _ _ _ _ _ _ _ _ _ _ _ _ _ := ⟨F0, PySem.W.mg_of X G a0, b0, F1, PySem.W.mg_of X G a1, b1, F2, PySem.W.mg_of X G a2, b2, F3, PySem.W.mg_of X G a3, b3, F4, PySem.W.mg_of X G a4, b4, F5, PySem.W.mg_of X G a5, b5, F6, PySem.W.mg_of X G a6, b6, F7, PySem.W.mg_of X G a7, b7, F8, PySem.W.mg_of X G a8, b8, F9, PySem.W.mg_of X G a9, b9, F10, PySem.W.mg_of X G a10, b10, F11, PySem.W.mg_of X G a11, b11, F12, PySem.W.mg_of X G a12, b12, F13, PySem.W.mg_of X G a13, b13, F14, PySem.W.mg_of X G a14, b14, F15, PySem.W.mg_of X G a15, b15, F16, PySem.W.mg_of X G a16, b16, F17, PySem.W.mg_of X G a17, b17, F18, PySem.W.mg_of X G a18, b18, F19, PySem.W.mg_of X G a19, b19, F20, PySem.W.mg_of X G a20, b20, F21, PySem.W.mg_of X G a21, b21, F22, PySem.W.mg_of X G a22, b22, F23, PySem.W.mg_of X G a23, b23, F24, PySem.W.mg_of X G a24, b24, F25, PySem.W.mg_of X G a25, b25, F26, PySem.W.mg_of X G a26, b26, F27, PySem.W.mg_of X G a27, b27, F28, PySem.W.mg_of X G a28, b28, PySem.W.mg_none_of X G z_abs, PySem.W.mg_none_of X G z_all, PySem.W.mg_none_of X G z_bool, PySem.W.mg_none_of X G z_int, PySem.W.mg_none_of X G z_isinstance, PySem.W.mg_none_of X G z_len, PySem.W.mg_none_of X G z_list, PySem.W.mg_none_of X G z_max, PySem.W.mg_none_of X G z_range, PySem.W.mg_none_of X G z_tuple⟩
  exact ⟨_, fun s v => .of_eq rfl, fun base _ _ => ok_law T hl⟩
end L2.Mir.W

set_option Elab.async false
set_option linter.all false
set_option maxRecDepth 100000
namespace L2.Mir.W
open PySem PySem.Spec PyProof.Rows

theorem gcd_loop (s : DS) : ∀ (n : Nat) (a b : Int), 0 ≤ a → 0 ≤ b → b.toNat < n →
    whileGo (mCmpT opNe (mVar 1) (mC (.int 0))) (sPar false 0 1 (mCons (mVar 1) (mCons (mBin opMod (mVar 0) (mVar 1)) mNil))) n [.val (.int a), .val (.int b)] s = .ok (.nx [.val (.int (Int.gcd a b)), .val (.int 0)]) s
  | 0, a, b, _, _, h => by omega
  | n + 1, a, b, ha, hb, h => by
    by_cases hb0 : b = 0
    · subst hb0
      simp [whileGo, ha, Int.natAbs_of_nonneg]
    · have hp : 0 < b := by omega
      have ih := gcd_loop s n b (a % b) hb (Int.emod_nonneg _ hb0) (by have := Int.emod_lt_of_pos a hp; omega)
      rw [gcd_step] at ih
      simp only [whileGo]
      simp [hb0, hp, ih]
theorem f_divisor_ok (a b : Int) (s : DS) : f_divisor [.int a, .int b] s = .ok (.int (Int.gcd a b)) s := by
  have h := gcd_loop s (measE [.val (.int (absI a)), .val (.int (absI b))]) (absI a) (absI b) (absI_nonneg a) (absI_nonneg b) (by have := absI_nonneg b; simp [measE, slMeas, dMeas]; omega)
  simp only [gcd_absI_l, gcd_absI_r] at h
  simp [f_divisor, m_divisor, sWhile, h]
theorem gcd_div {a b : Int} (hb : b ≠ 0) {k : Nat} (hk : b.natAbs < 2 ^ k) (h9 : k ≤ 9000) : DivOk (Int.gcd a b : Nat) := by
  have h1 := Int.gcd_pos_of_ne_zero_right a hb
  have h2 := Int.gcd_le_natAbs_right a hb
  exact DivOk.of (by omega) (by rw [Int.natAbs_natCast]; exact Nat.lt_of_le_of_lt h2 hk) h9
theorem f_part_ok {a b : Int} {k : Nat} (hb : b ≠ 0) (hk : b.natAbs < 2 ^ k) (h9 : k ≤ 9000) (s : DS) : f_part [.int a, .int b] s = .ok (qD (Rat.divInt a b)) s := by
  by_cases h : b < 0
  · have g := gcd_div (a := -a) (b := -b) (by omega) (k := k) (by omega) h9
    have e : Rat.divInt a b = Rat.divInt (-a) (-b) := by rw [← Rat.neg_divInt_neg]
    have d := f_divisor_ok (-a) (-b) s
    rw [e, qD_divInt _ _ (by omega)]
    generalize ((Int.gcd (-a) (-b) : Nat) : Int) = g1 at *
    simp [f_part, m_part, h, d, g]
  · have g := gcd_div (a := a) hb hk h9
    have d := f_divisor_ok a b s
    rw [qD_divInt _ _ (by omega)]
    generalize ((Int.gcd a b : Nat) : Int) = g1 at *
    simp [f_part, m_part, h, d, g]
theorem den_mul_lt {x y : Rat} {i j : Nat} (hx : szQ i x) (hy : szQ j y) : (x.den * y.den : Int).natAbs < 2 ^ (i + j) := by
  rw [Int.natAbs_mul, Int.natAbs_natCast, Int.natAbs_natCast]; exact pow_lt_mul hx.2 hy.2
theorem mulOk_nd {x y : Rat} {i j : Nat} (hx : szQ i x) (hy : szQ j y) (h : i + j ≤ 9000) : mulOk x.num y.den = true := mulOk_of hx.1 (by simpa using hy.2) (by omega)
theorem mulOk_nn {x y : Rat} {i j : Nat} (hx : szQ i x) (hy : szQ j y) (h : i + j ≤ 9000) : mulOk x.num y.num = true := mulOk_of hx.1 hy.1 (by omega)
theorem mulOk_dd {x y : Rat} {i j : Nat} (hx : szQ i x) (hy : szQ j y) (h : i + j ≤ 9000) : mulOk x.den y.den = true := mulOk_of (by simpa using hx.2) (by simpa using hy.2) (by omega)
theorem mulOk_dn {x y : Rat} {i j : Nat} (hx : szQ i x) (hy : szQ j y) (h : i + j ≤ 9000) : mulOk x.den y.num = true := mulOk_of (by simpa using hx.2) hy.1 (by omega)
theorem f_plus_ok {x y : Rat} {i j : Nat} (hx : szQ i x) (hy : szQ j y) (h : i + j ≤ 8999) (s : DS) : f_plus [qD x, qD y] s = .ok (qD (x + y)) s := by
  have h4 := f_part_ok (a := x.num * y.den + y.num * x.den) (b := x.den * y.den) (by simp [x.den_nz, y.den_nz]) (den_mul_lt hx hy) (by omega) s
  rw [add_divInt] at h4
  simp [f_plus, m_plus, qD, mulOk_nd hx hy (by omega), mulOk_nd hy hx (by omega), mulOk_dd hx hy (by omega)]
  rw [h4]
  simp [qD]
theorem f_minus_ok {x y : Rat} {i j : Nat} (hx : szQ i x) (hy : szQ j y) (h : i + j ≤ 8999) (s : DS) : f_minus [qD x, qD y] s = .ok (qD (x - y)) s := by
  have h4 := f_part_ok (a := x.num * y.den - y.num * x.den) (b := x.den * y.den) (by simp [x.den_nz, y.den_nz]) (den_mul_lt hx hy) (by omega) s
  rw [sub_divInt] at h4
  simp [f_minus, m_minus, qD, mulOk_nd hx hy (by omega), mulOk_nd hy hx (by omega), mulOk_dd hx hy (by omega)]
  rw [h4]
  simp [qD]
theorem f_times_ok {x y : Rat} {i j : Nat} (hx : szQ i x) (hy : szQ j y) (h : i + j ≤ 8999) (s : DS) : f_times [qD x, qD y] s = .ok (qD (x * y)) s := by
  have h4 := f_part_ok (a := x.num * y.num) (b := x.den * y.den) (by simp [x.den_nz, y.den_nz]) (den_mul_lt hx hy) (by omega) s
  rw [mul_divInt] at h4
  simp [f_times, m_times, qD, mulOk_nn hx hy (by omega), mulOk_dd hx hy (by omega)]
  rw [h4]
  simp [qD]
theorem num_ne {y : Rat} (h : y ≠ 0) : y.num ≠ 0 := fun e => h (Rat.num_eq_zero.mp e)
theorem f_over_ok {x y : Rat} {i j : Nat} (hx : szQ i x) (hy : szQ j y) (h : i + j ≤ 8999) (hy0 : y ≠ 0) (s : DS) : f_over [qD x, qD y] s = .ok (qD (x / y)) s := by
  have h4 := f_part_ok (a := x.num * y.den) (b := x.den * y.num) (k := i + j) (by simp [x.den_nz, num_ne hy0]) (by rw [Int.natAbs_mul, Int.natAbs_natCast]; exact pow_lt_mul hx.2 hy.1) (by omega) s
  rw [div_divInt] at h4
  simp [f_over, m_over, qD, mulOk_nd hx hy (by omega), mulOk_dn hx hy (by omega)]
  rw [h4]
  simp [qD]
theorem f_is_less_ok {x y : Rat} {i j : Nat} (hx : szQ i x) (hy : szQ j y) (h : i + j ≤ 8999) (s : DS) : f_is_less [qD x, qD y] s = .ok (.bl (decide (x < y))) s := by
  simp [f_is_less, m_is_less, qD, mulOk_nd hx hy (by omega), mulOk_nd hy hx (by omega), Rat.lt_iff]
theorem f_whole_below_ok {x : Rat} {i : Nat} (hx : szQ i x) (h : i ≤ 8999) (s : DS) : f_whole_below [qD x] s = .ok (.int (x.num / x.den)) s := by
  have := DivOk.of (j := (x.den : Int)) (by have := x.den_pos; omega) (by simpa using hx.2) (by omega)
  simp [f_whole_below, m_whole_below, qD, this]
theorem f_whole_above_ok {x : Rat} {i : Nat} (hx : szQ i x) (h : i ≤ 8999) (s : DS) : f_whole_above [qD x] s = .ok (.int (-(-x.num / x.den))) s := by
  have := DivOk.of (j := (x.den : Int)) (by have := x.den_pos; omega) (by simpa using hx.2) (by omega)
  simp [f_whole_above, m_whole_above, qD, this]
theorem f_is_whole_part_ok {a b : Int} (s : DS) : f_is_whole_part [.tup [.int a, .int b]] s = .ok (.bl (decide (b = 1))) s := by
  simp [f_is_whole_part, m_is_whole_part]

/-! ### lists of parts -/
def rowD (l : List Rat) : D := .lst (l.map qD)
/-- sizes of a row's sums: each so great, all together -/
theorem total_go {i : Nat} (s : DS) : ∀ (l : List Rat) (a : Rat) (n : Nat) (t : Sl) (row : Sl), szQ n a → (∀ q ∈ l, szQ i q) → n + l.length * (i + 1) + i ≤ 8999 →
    ∃ t', forGo (.n 2) (sSet false 1 (mCall f_plus (mCons (mVar 1) (mCons (mVar 2) mNil)))) (l.map qD) [row, .val (qD a), t] s = .ok (.nx [row, .val (qD (l.foldl (· + ·) a)), t']) s
  | [], a, n, t, row, _, _, _ => ⟨t, by simp [forGo]⟩
  | q :: l, a, n, t, row, ha, hl, hn => by
    simp only [List.length_cons, Nat.add_mul] at hn
    have hq := hl q List.mem_cons_self
    have hp := f_plus_ok ha hq (by omega) s
    obtain ⟨t', h⟩ := total_go s l (a + q) (n + i + 1) (.val (qD q)) row (ha.add hq) (fun x hx => hl x (List.mem_cons_of_mem _ hx)) (by omega)
    exact ⟨t', by simp [forGo, hp, h]⟩
theorem qD_zero : D.tup [.int 0, .int 1] = qD 0 := rfl
theorem f_total_ok {i : Nat} {l : List Rat} (hl : ∀ q ∈ l, szQ i q) (hn : 1 + l.length * (i + 1) + i ≤ 8999) (s : DS) : f_total [rowD l] s = .ok (qD (l.foldl (· + ·) 0)) s := by
  obtain ⟨t', h⟩ := total_go s l 0 1 .no (.val (rowD l)) ⟨by decide, by decide⟩ hl hn
  simp only [rowD] at h
  simp [f_total, m_total, rowD, qD_zero, h]
/-- the least -/
def leastR : List Rat → Option Rat → Option Rat
  | [], b => b
  | q :: l, none => leastR l (some q)
  | q :: l, some b => leastR l (some (if q < b then q else b))
def optD : Option Rat → D
  | none => .non
  | some q => qD q
@[simp] theorem optD_n : optD none = .non := rfl
@[simp] theorem optD_s (q : Rat) : optD (some q) = qD q := rfl
theorem least_go {i : Nat} (s : DS) : ∀ (l : List Rat) (b : Option Rat) (t : Sl) (row : Sl), (∀ q, b = some q → szQ i q) → (∀ q ∈ l, szQ i q) → i + i ≤ 8999 →
    ∃ t', forGo (.n 2) (sIf (mOrT (mCmpT (opIs false) (mVar 1) (mC .non)) (mTru (mCall f_is_less (mCons (mVar 2) (mCons (mVar 1) mNil))))) (sSet false 1 (mVar 2)) sNx) (l.map qD) [row, .val (optD b), t] s = .ok (.nx [row, .val (optD (leastR l b)), t']) s
  | [], b, t, row, _, _, _ => ⟨t, by simp [forGo, leastR]⟩
  | q :: l, none, t, row, hb, hl, hi => by
    obtain ⟨t', h⟩ := least_go s l (some q) (.val (qD q)) row (fun x hx => by cases hx; exact hl _ List.mem_cons_self) (fun x hx => hl x (List.mem_cons_of_mem _ hx)) hi
    exact ⟨t', by simp [forGo, leastR] at h ⊢; exact h⟩
  | q :: l, some b, t, row, hb, hl, hi => by
    have hq := hl q List.mem_cons_self
    have hb' := hb b rfl
    have hp := f_is_less_ok hq hb' hi s
    obtain ⟨t', h⟩ := least_go s l (some (if q < b then q else b)) (.val (qD q)) row (fun x hx => by cases hx; split; exact hq; exact hb') (fun x hx => hl x (List.mem_cons_of_mem _ hx)) hi
    refine ⟨t', ?_⟩
    by_cases c : q < b
    · rw [if_pos c] at h
      simp [forGo, leastR, isNonD_q, hp, c] at h ⊢; exact h
    · rw [if_neg c] at h
      simp [forGo, leastR, isNonD_q, hp, c] at h ⊢; exact h
theorem f_least_of_ok {i : Nat} {l : List Rat} (hl : ∀ q ∈ l, szQ i q) (hi : i + i ≤ 8999) (s : DS) : f_least_of [rowD l] s = .ok (optD (leastR l none)) s := by
  obtain ⟨t', h⟩ := least_go s l none .no (.val (rowD l)) (fun _ h => by cases h) hl hi
  simp only [rowD, optD_n] at h
  simp [f_least_of, m_least_of, rowD, h]
end L2.Mir.W

set_option Elab.async false
set_option linter.all false
set_option maxRecDepth 100000
namespace L2.Mir.W
open PySem PySem.Spec PyProof.Rows


/-! ### the law's own numbers -/
theorem lt_pow {b : Int} {k : Nat} (h0 : 0 ≤ b) (hk : b.natAbs < 2 ^ k) : b < 2 ^ k := by
  have : ((b.natAbs : Nat) : Int) < ((2 ^ k : Nat) : Int) := by exact_mod_cast hk
  rw [Int.natAbs_of_nonneg h0] at this
  simpa using this
theorem fr_loop {a b x : Int} {k : Nat} (hx : 0 ≤ x) (hb : 0 ≤ b) (hk : b.natAbs < 2 ^ k) (h9 : k ≤ 1900) (x0 x1 : Sl) (s : DS) :
    ∃ t', forGo (.n 4) (sSeq (sIf (mCmpT opEq (mVar 3) (mC (.int 0))) sBk sNx) (sPar false 2 3 (mCons (mVar 3) (mCons (mBin opMod (mCB bInt (mCons (mVar 2) mNil)) (mVar 3)) mNil)))) (rngD 0 4000) [x0, x1, .val (.int x), .val (.int b), .no] s = .ok (.nx [x0, x1, .val (.int (Int.gcd x b)), .val (.int 0), t']) s :=
  gcd_turns (i := 4) (p := .n 4) (B := sSeq (sIf (mCmpT opEq (mVar 3) (mC (.int 0))) sBk sNx) (sPar false 2 3 (mCons (mVar 3) (mCons (mBin opMod (mCB bInt (mCons (mVar 2) mNil)) (mVar 3)) mNil)))) (E := fun x y t => [x0, x1, .val (.int x), .val (.int y), t]) rfl (fun x t s => by simp) (fun x y t s hy => by simp [hy, show ¬ y = 0 by omega]) (fun x y t d => by simp) s k x b .no (rngD 0 4000) hx hb (lt_pow hb hk) (by rw [rngD_len]; show 2 * k + 1 ≤ 4000; omega)
theorem f__law_fr_ok {a b : Int} {k : Nat} (hb : b ≠ 0) (hk : b.natAbs < 2 ^ k) (h9 : k ≤ 1900) (s : DS) : f__law_fr [.int a, .int b] s = .ok (qD (Rat.divInt a b)) s := by
  by_cases h : b < 0
  · have g := gcd_div (a := -a) (b := -b) (by omega) (k := k) (by omega) (by omega)
    have e : Rat.divInt a b = Rat.divInt (-a) (-b) := by rw [← Rat.neg_divInt_neg]
    obtain ⟨t', d⟩ := fr_loop (a := a) (x := absI (-a)) (b := -b) (absI_nonneg _) (by omega) (k := k) (by omega) h9 (.val (.int (-a))) (.val (.int (-b))) s
    simp only [gcd_absI_l] at d
    rw [e, qD_divInt _ _ (by omega)]
    generalize ((Int.gcd (-a) (-b) : Nat) : Int) = g1 at *
    simp [f__law_fr, m__law_fr, h, d, g]
  · have g := gcd_div (a := a) hb hk (by omega)
    obtain ⟨t', d⟩ := fr_loop (a := a) (x := absI a) (b := b) (absI_nonneg _) (by omega) hk h9 (.val (.int a)) (.val (.int b)) s
    simp only [gcd_absI_l] at d
    rw [qD_divInt _ _ (by omega)]
    generalize ((Int.gcd a b : Nat) : Int) = g1 at *
    simp [f__law_fr, m__law_fr, h, d, g]
theorem f__law_add_ok {x y : Rat} {i j : Nat} (hx : szQ i x) (hy : szQ j y) (h : i + j ≤ 1900) (s : DS) : f__law_add [qD x, qD y] s = .ok (qD (x + y)) s := by
  have h4 := f__law_fr_ok (a := x.num * y.den + y.num * x.den) (b := x.den * y.den) (by simp [x.den_nz, y.den_nz]) (den_mul_lt hx hy) (by omega) s
  rw [add_divInt] at h4
  simp [f__law_add, m__law_add, qD, mulOk_nd hx hy (by omega), mulOk_nd hy hx (by omega), mulOk_dd hx hy (by omega)]
  rw [h4]
  simp [qD]
theorem f__law_mul_ok {x y : Rat} {i j : Nat} (hx : szQ i x) (hy : szQ j y) (h : i + j ≤ 1900) (s : DS) : f__law_mul [qD x, qD y] s = .ok (qD (x * y)) s := by
  have h4 := f__law_fr_ok (a := x.num * y.num) (b := x.den * y.den) (by simp [x.den_nz, y.den_nz]) (den_mul_lt hx hy) (by omega) s
  rw [mul_divInt] at h4
  simp [f__law_mul, m__law_mul, qD, mulOk_nn hx hy (by omega), mulOk_dd hx hy (by omega)]
  rw [h4]
  simp [qD]
theorem qD_neg (x : Rat) : qD (-x) = .tup [.int (-x.num), .int x.den] := rfl
theorem f__law_sub_ok {x y : Rat} {i j : Nat} (hx : szQ i x) (hy : szQ j y) (h : i + j ≤ 1900) (s : DS) : f__law_sub [qD x, qD y] s = .ok (qD (x - y)) s := by
  have h4 := f__law_add_ok hx hy.neg h s
  rw [← Rat.sub_eq_add_neg] at h4
  simp only [qD_neg] at h4
  simp only [qD] at h4
  simp [f__law_sub, m__law_sub, qD, h4]
theorem f__law_sign_ok {x y : Rat} {i j : Nat} (hx : szQ i x) (hy : szQ j y) (h : i + j ≤ 1900) (s : DS) : f__law_sign [qD x, qD y] s = .ok (.int (if x = y then 0 else if y < x then 1 else -1)) s := by
  have e1 : (x = y) ↔ x.num * y.den - y.num * x.den = 0 := by rw [Rat.eq_iff_mul_eq_mul]; omega
  have e2 : (y < x) ↔ 0 < x.num * y.den - y.num * x.den := by rw [Rat.lt_iff]; omega
  simp only [e1, e2]
  generalize hg : x.num * y.den - y.num * x.den = g
  have h1 := mulOk_nd hx hy (by omega)
  have h2 := mulOk_nd hy hx (by omega)
  simp [f__law_sign, m__law_sign, qD, h1, h2, hg]
  by_cases c : g = 0
  · simp [c]
  · by_cases c2 : 0 < g
    · simp [c, c2]
    · simp [c, c2]
theorem gcd_loop3 {x b : Int} {k : Nat} (hx : 0 ≤ x) (hb : 0 ≤ b) (hk : b.natAbs < 2 ^ k) (h9 : k ≤ 199) (s : DS) :
    ∃ t', forGo (.n 2) (sSeq (sIf (mCmpT opEq (mVar 1) (mC (.int 0))) sBk sNx) (sPar false 0 1 (mCons (mVar 1) (mCons (mBin opMod (mCB bInt (mCons (mVar 0) mNil)) (mVar 1)) mNil)))) (rngD 0 400) [.val (.int x), .val (.int b), .no] s = .ok (.nx [.val (.int (Int.gcd x b)), .val (.int 0), t']) s :=
  gcd_turns (i := 2) (p := .n 2) (B := sSeq (sIf (mCmpT opEq (mVar 1) (mC (.int 0))) sBk sNx) (sPar false 0 1 (mCons (mVar 1) (mCons (mBin opMod (mCB bInt (mCons (mVar 0) mNil)) (mVar 1)) mNil)))) (E := fun x y t => [.val (.int x), .val (.int y), t]) rfl (fun x t s => by simp) (fun x y t s hy => by simp [hy, show ¬ y = 0 by omega]) (fun x y t d => by simp) s k x b .no (rngD 0 400) hx hb (lt_pow hb hk) (by rw [rngD_len]; show 2 * k + 1 ≤ 400; omega)
theorem f__law_gcd_ok {a b : Int} {k : Nat} (hk : b.natAbs < 2 ^ k) (h9 : k ≤ 199) (s : DS) : f__law_gcd [.int a, .int b] s = .ok (.int (Int.gcd a b)) s := by
  obtain ⟨t', d⟩ := gcd_loop3 (x := absI a) (b := absI b) (absI_nonneg _) (absI_nonneg _) (k := k) (by rw [absI_natAbs]; exact hk) h9 s
  simp only [gcd_absI_l, gcd_absI_r] at d
  simp [f__law_gcd, m__law_gcd, d]
end L2.Mir.W

set_option Elab.async false
set_option linter.all false
set_option maxRecDepth 100000
namespace L2.Mir.W
open PySem PySem.Spec PyProof.Rows

/-! ### what is a part -/
def isPartD : D → Bool
  | .tup [.int a, .int b] => decide (1 ≤ b) && decide (Int.gcd a b = 1)
  | _ => false
theorem isPart_int (a b : Int) (s : DS) : f_is_part [.tup [.int a, .int b]] s = .ok (.bl (isPartD (.tup [.int a, .int b]))) s := by
  have d := f_divisor_ok a b s
  have e : ((Int.gcd a b : Nat) : Int) = 1 ↔ Int.gcd a b = 1 := by omega
  by_cases h : 1 ≤ b
  · simp [f_is_part, m_is_part, lcGo, d, h, isPartD]
    exact e
  · simp [f_is_part, m_is_part, lcGo, d, h, isPartD]
theorem lawIs_int {a b : Int} {k : Nat} (hk : b.natAbs < 2 ^ k) (h9 : k ≤ 199) (s : DS) : f__law_is [.tup [.int a, .int b]] s = .ok (.bl (isPartD (.tup [.int a, .int b]))) s := by
  have d := f__law_gcd_ok (a := a) hk h9 s
  have e : ((Int.gcd a b : Nat) : Int) = 1 ↔ Int.gcd a b = 1 := by omega
  have e2 : 0 < b ↔ 1 ≤ b := by omega
  by_cases h : 1 ≤ b
  · simp [f__law_is, m__law_is, lcGo, d, e2, h, isPartD]
    exact e
  · simp [f__law_is, m__law_is, lcGo, d, e2, h, isPartD]
/-- both looks agree at a value -/
def Looks (d : D) : Prop := ∀ s, f_is_part [d] s = .ok (.bl (isPartD d)) s ∧ f__law_is [d] s = .ok (.bl (isPartD d)) s
theorem looks_int {a b : Int} {k : Nat} (hk : b.natAbs < 2 ^ k) (h9 : k ≤ 199) : Looks (.tup [.int a, .int b]) := fun s => ⟨isPart_int a b s, lawIs_int hk h9 s⟩
theorem looks_lst (xs : List D) : Looks (.lst xs) := fun s => by simp [f_is_part, m_is_part, f__law_is, m__law_is, isPartD]
theorem looks_3 (a b c : D) : Looks (.tup [a, b, c]) := fun s => by simp [f_is_part, m_is_part, f__law_is, m__law_is, isPartD]
theorem looks_bi (b : Bool) (i : Int) : Looks (.tup [.bl b, .int i]) := fun s => by simp [f_is_part, m_is_part, f__law_is, m__law_is, isPartD, lcGo]
theorem looks_ib (b : Bool) (i : Int) : Looks (.tup [.int i, .bl b]) := fun s => by simp [f_is_part, m_is_part, f__law_is, m__law_is, isPartD, lcGo]
theorem looks_si (b : Str) (i : Int) : Looks (.tup [.str b, .int i]) := fun s => by simp [f_is_part, m_is_part, f__law_is, m__law_is, isPartD, lcGo]
theorem looks_non : Looks .non := fun s => by simp [f_is_part, m_is_part, f__law_is, m__law_is, isPartD]
theorem looks_i (i : Int) : Looks (.int i) := fun s => by simp [f_is_part, m_is_part, f__law_is, m__law_is, isPartD]
theorem looks_nil : Looks (.tup []) := fun s => by simp [f_is_part, m_is_part, f__law_is, m__law_is, isPartD]
theorem looks_q {q : Rat} {k : Nat} (hk : szQ k q) (h9 : k ≤ 199) : Looks (qD q) := looks_int (by simpa using hk.2) h9

theorem all_isPart {ds : List D} (h : ∀ d ∈ ds, Looks d) (hz : ds.length ≤ 16777216) (x0 x1 : Option D) (s : DS) : lcGo (lcF (.n 2) tsYes (mCall f_is_part (mCons (mVar 2) mNil)) [x0, x1, none]) ds s = .ok (ds.map fun d => .bl (isPartD d)) s :=
  lcGo_map fun d hd => by simp [(h d hd s).1]
theorem boolsD_map {α : Type} (f : α → Bool) : ∀ l : List α, boolsD (l.map fun d => D.bl (f d)) = some (l.map f)
  | [] => rfl
  | a :: l => by simp [boolsD_map f l]
theorem all_map {α : Type} (f : α → Bool) (l : List α) : (l.map f).all id = l.all f := by simp [List.all_map]
theorem areParts_tup {ds : List D} (h : ∀ d ∈ ds, Looks d) (hz : ds.length ≤ 16777216) (m : Int) (s : DS) : f_are_parts [.tup ds, .int m] s = .ok (.bl (decide ((ds.length : Int) = m) && ds.all isPartD)) s := by
  have h1 := all_isPart h hz (some (.tup ds)) (some (.int m)) s
  have h2 := boolsD_map isPartD ds
  by_cases c : (ds.length : Int) = m
  · simp [f_are_parts, m_are_parts, c, h1, hz, h2, List.all_map]
  · simp [f_are_parts, m_are_parts, c]
theorem areParts_lst (ds : List D) (m : Int) (s : DS) : f_are_parts [.lst ds, .int m] s = .ok (.bl false) s := by simp [f_are_parts, m_are_parts]
theorem areParts_non (m : Int) (s : DS) : f_are_parts [.non, .int m] s = .ok (.bl false) s := by simp [f_are_parts, m_are_parts]
end L2.Mir.W

set_option Elab.async false
set_option linter.all false
set_option maxRecDepth 100000
namespace L2.Mir.W
open PySem PySem.Spec PyProof.Rows

/-- the sizes of a drawn part -/
def PartOk (q : Rat) : Prop := q.num.natAbs < 2 ^ 41 ∧ q.den < 2 ^ 13
theorem PartOk.sz {q : Rat} (h : PartOk q) : szQ 41 q := ⟨h.1, Nat.lt_trans h.2 (by decide)⟩

/-! ### rows made whole -/
def lcmL : List Rat → Int → Int
  | [], c => c
  | q :: l, c => lcmL l (c * q.den / (Int.gcd c q.den : Nat))
theorem lcm_step {c : Int} (hc : 0 < c) (q : Rat) : 0 < c * q.den / (Int.gcd c q.den : Nat) ∧ c ∣ c * q.den / (Int.gcd c q.den : Nat) ∧ (q.den : Int) ∣ c * q.den / (Int.gcd c q.den : Nat) ∧ c * q.den / (Int.gcd c q.den : Nat) ≤ c * q.den := by
  have hd : (0 : Int) < q.den := by have := q.den_pos; omega
  have g0 : 0 < Int.gcd c q.den := Int.gcd_pos_of_ne_zero_left _ (by omega)
  obtain ⟨u, hu⟩ : ((Int.gcd c q.den : Nat) : Int) ∣ c := Int.gcd_dvd_left ..
  obtain ⟨v, hv⟩ : ((Int.gcd c q.den : Nat) : Int) ∣ q.den := Int.gcd_dvd_right ..
  generalize Int.gcd c q.den = g at *
  have e1 : c * q.den / (g : Int) = u * q.den := by
    rw [hu, Int.mul_assoc, Int.mul_ediv_cancel_left _ (by omega)]
  have e2 : c * q.den / (g : Int) = c * v := by
    rw [hv, ← Int.mul_assoc, Int.mul_comm c g, Int.mul_assoc, Int.mul_ediv_cancel_left _ (by omega)]
  have u0 : 0 < u := by
    rcases Int.lt_or_le 0 u with h | h
    · exact h
    · have : (g : Int) * u ≤ 0 := Int.mul_nonpos_of_nonneg_of_nonpos (by omega) h
      omega
  refine ⟨by rw [e1]; exact Int.mul_pos u0 hd, ⟨v, e2⟩, ⟨u, by rw [e1, Int.mul_comm]⟩, ?_⟩
  exact Int.ediv_le_self _ (Int.mul_nonneg (by omega) (by omega))
theorem lcmL_ok : ∀ (l : List Rat) (c : Int), 0 < c → 0 < lcmL l c ∧ c ∣ lcmL l c ∧ ∀ q ∈ l, (q.den : Int) ∣ lcmL l c
  | [], c, h => ⟨h, Int.dvd_refl _, by simp⟩
  | q :: l, c, h => by
    obtain ⟨h1, h2, h3, _⟩ := lcm_step h q
    obtain ⟨g1, g2, g3⟩ := lcmL_ok l _ h1
    refine ⟨g1, Int.dvd_trans h2 g2, fun x hx => ?_⟩
    rcases List.mem_cons.mp hx with rfl | hx
    · exact Int.dvd_trans h3 g2
    · exact g3 x hx
theorem natAbs_le_of {a b : Int} (h0 : 0 ≤ a) (h : a ≤ b) : a.natAbs ≤ b.natAbs := by omega
theorem lcm_go (s : DS) : ∀ (l : List Rat) (c : Int) (n : Nat) (t row : Sl) (x3 x4 x5 : Sl), 0 < c → c.natAbs < 2 ^ n → (∀ q ∈ l, PartOk q) → n + l.length * 13 ≤ 1000 →
    (lcmL l c).natAbs < 2 ^ (n + l.length * 13) ∧ ∃ t', forGo (.n 2) (sSet false 1 (mBin opDiv (mBin opMul (mVar 1) (mBin opIx (mVar 2) (mC (.int 1)))) (mCall f_divisor (mCons (mVar 1) (mCons (mBin opIx (mVar 2) (mC (.int 1))) mNil))))) (l.map qD) [row, .val (.int c), t, x3, x4, x5] s = .ok (.nx [row, .val (.int (lcmL l c)), t', x3, x4, x5]) s
  | [], c, n, t, row, x3, x4, x5, hc, hn, _, _ => ⟨by simpa [lcmL] using hn, t, by simp [forGo, lcmL]⟩
  | q :: l, c, n, t, row, x3, x4, x5, hc, hn, hl, hz => by
    simp only [List.length_cons, Nat.add_mul] at hz
    have hq := hl q List.mem_cons_self
    obtain ⟨h1, h2, h3, h4⟩ := lcm_step hc q
    have hcd : (c * q.den : Int).natAbs < 2 ^ (n + 13) := by rw [Int.natAbs_mul, Int.natAbs_natCast]; exact pow_lt_mul hn hq.2
    have hb : (c * q.den / (Int.gcd c q.den : Nat) : Int).natAbs < 2 ^ (n + 13) := Nat.lt_of_le_of_lt (natAbs_le_of (by omega) h4) hcd
    have g1 := gcd_div (a := c) (b := q.den) (by have := q.den_pos; omega) (k := 13) (by simpa using hq.2) (by omega)
    have m1 := mulOk_of (i := c) (j := q.den) (b := 13) hn (by simpa using hq.2) (by omega)
    have d1 := f_divisor_ok c q.den s
    obtain ⟨b, t', h⟩ := lcm_go s l _ (n + 13) (.val (qD q)) row x3 x4 x5 h1 hb (fun x hx => hl x (List.mem_cons_of_mem _ hx)) (by omega)
    refine ⟨by simp only [List.length_cons, Nat.add_mul, lcmL]; rw [show n + (l.length * 13 + 1 * 13) = n + 13 + l.length * 13 by omega]; exact b, t', ?_⟩
    simp only [lcmL]
    generalize ((Int.gcd c q.den : Nat) : Int) = g at *
    simp [forGo, qD, m1, d1, g1]
    simp only [qD] at h
    exact h
/-- one number times a common lower one -/
def upN (L : Int) (q : Rat) : Int := q.num * (L / q.den)
def gcdL : List Int → Int → Int
  | [], g => g
  | n :: l, g => gcdL l (Int.gcd g n : Nat)
theorem gcdL_nonneg : ∀ (l : List Int) (g : Int), 0 ≤ g → 0 ≤ gcdL l g
  | [], g, h => h
  | n :: l, g, h => gcdL_nonneg l _ (by omega)
theorem gcdL_dvd : ∀ (l : List Int) (g : Int), gcdL l g ∣ g ∧ ∀ n ∈ l, gcdL l g ∣ n
  | [], g => ⟨Int.dvd_refl _, by simp⟩
  | n :: l, g => by
    obtain ⟨h1, h2⟩ := gcdL_dvd l (Int.gcd g n : Nat)
    simp only [gcdL]
    refine ⟨Int.dvd_trans h1 (Int.gcd_dvd_left ..), fun m hm => ?_⟩
    rcases List.mem_cons.mp hm with rfl | hm
    · exact Int.dvd_trans h1 (Int.gcd_dvd_right ..)
    · exact h2 m hm
theorem gcdL_mul (k : Int) (hk : 0 ≤ k) : ∀ (l : List Int) (g : Int), 0 ≤ g → gcdL (l.map (k * ·)) (k * g) = k * gcdL l g
  | [], g, _ => rfl
  | n :: l, g, hg => by
    simp only [List.map_cons, gcdL]
    rw [Int.gcd_mul_left]
    have : ((k.natAbs * Int.gcd g n : Nat) : Int) = k * (Int.gcd g n : Nat) := by
      rw [Int.natCast_mul, Int.natAbs_of_nonneg hk]
    rw [this]
    exact gcdL_mul k hk l _ (by omega)
theorem gcd_go (s : DS) : ∀ (l : List Int) (g : Int) (t : Sl) (x0 x1 x2 x3 : Sl),
    ∃ t', forGo (.n 5) (sSet false 4 (mCall f_divisor (mCons (mVar 4) (mCons (mVar 5) mNil)))) (l.map D.int) [x0, x1, x2, x3, .val (.int g), t] s = .ok (.nx [x0, x1, x2, x3, .val (.int (gcdL l g)), t']) s
  | [], g, t, x0, x1, x2, x3 => ⟨t, by simp [forGo, gcdL]⟩
  | n :: l, g, t, x0, x1, x2, x3 => by
    have d := f_divisor_ok g n s
    obtain ⟨t', h⟩ := gcd_go s l (Int.gcd g n : Nat) (.val (.int n)) x0 x1 x2 x3
    exact ⟨t', by simp only [gcdL]; generalize ((Int.gcd g n : Nat) : Int) = e at *; simp [forGo, d, h]⟩
theorem gcdof_go {k : Nat} (hk : k ≤ 199) (s : DS) : ∀ (l : List Int) (g : Int) (t : Sl) (x0 : Sl), (∀ n ∈ l, n.natAbs < 2 ^ k) →
    ∃ t', forGo (.n 2) (sSet false 1 (mCall f__law_gcd (mCons (mVar 1) (mCons (mVar 2) mNil)))) (l.map D.int) [x0, .val (.int g), t] s = .ok (.nx [x0, .val (.int (gcdL l g)), t']) s
  | [], g, t, x0, _ => ⟨t, by simp [forGo, gcdL]⟩
  | n :: l, g, t, x0, hl => by
    have d := f__law_gcd_ok (a := g) (hl n List.mem_cons_self) hk s
    obtain ⟨t', h⟩ := gcdof_go hk s l (Int.gcd g n : Nat) (.val (.int n)) x0 (fun x hx => hl x (List.mem_cons_of_mem _ hx))
    exact ⟨t', by simp only [gcdL]; generalize ((Int.gcd g n : Nat) : Int) = e at *; simp [forGo, d, h]⟩
theorem f__law_gcd_of_ok {k : Nat} (hk : k ≤ 199) {l : List Int} (hl : ∀ n ∈ l, n.natAbs < 2 ^ k) (s : DS) : f__law_gcd_of [.tup (l.map D.int)] s = .ok (.int (gcdL l 0)) s := by
  obtain ⟨t', h⟩ := gcdof_go hk s l 0 .no (.val (.tup (l.map D.int))) hl
  simp [f__law_gcd_of, m__law_gcd_of, h]
/-- what scaled tells -/
def scaledL (l : List Rat) : List Int :=
  let f := l.map (upN (lcmL l 1))
  let g := gcdL f 0
  if g = 0 then f else f.map (· / g)
theorem upN_lt {L : Int} {q : Rat} {n : Nat} (hL : 0 < L) (hn : L.natAbs < 2 ^ n) (hq : PartOk q) : (upN L q).natAbs < 2 ^ (41 + n) := by
  unfold upN
  rw [Int.natAbs_mul]
  refine pow_lt_mul hq.1 (Nat.lt_of_le_of_lt (natAbs_le_of ?_ ?_) hn)
  · exact Int.ediv_nonneg (by omega) (by omega)
  · exact Int.ediv_le_self _ (by omega)
theorem f_scaled_ok {l : List Rat} (hl : ∀ q ∈ l, PartOk q) (hz : l.length ≤ 63) (s : DS) : f_scaled [rowD l] s = .ok (.tup ((scaledL l).map D.int)) s := by
  obtain ⟨hL, t1, h1⟩ := lcm_go s l 1 1 .no (.val (rowD l)) .no .no .no (by omega) (by decide) hl (by omega)
  obtain ⟨L0, _, L1⟩ := lcmL_ok l 1 (by decide)
  obtain ⟨t2, h2⟩ := gcd_go s (l.map (upN (lcmL l 1))) 0 .no (.val (rowD l)) (.val (.int (lcmL l 1))) t1 (.val (.lst ((l.map (upN (lcmL l 1))).map D.int)))
  have c1 : ∀ x0 x3 x4 x5, lcGo (lcF (.n 2) tsYes (mBin opMul (mBin opIx (mVar 2) (mC (.int 0))) (mBin opDiv (mVar 1) (mBin opIx (mVar 2) (mC (.int 1))))) [x0, some (.int (lcmL l 1)), none, x3, x4, x5]) (l.map qD) s = .ok (l.map fun q => D.int (upN (lcmL l 1) q)) s := by
    intro x0 x3 x4 x5
    refine lcGo_mapE fun q hq => ?_
    have d := DivOk.of (j := (q.den : Int)) (k := 13) (by have := q.den_pos; omega) (by simpa using (hl q hq).2) (by omega)
    have m := mulOk_of (i := q.num) (j := lcmL l 1 / q.den) (hl q hq).1 (b := 1 + l.length * 13) (Nat.lt_of_le_of_lt (natAbs_le_of (Int.ediv_nonneg (by omega) (by omega)) (Int.ediv_le_self _ (by omega))) hL) (by omega)
    simp [qD, d, m, upN]
  simp only [List.map_map, Function.comp_def] at h2
  have hlen : LenOk l.length := LenOk.small (by omega)
  unfold scaledL
  simp only []
  generalize hg : gcdL (l.map (upN (lcmL l 1))) 0 = g at *
  have g0 : 0 ≤ g := by rw [← hg]; exact gcdL_nonneg _ _ (by omega)
  simp only [rowD] at h1 h2
  by_cases c : g = 0
  · subst c
    simp [f_scaled, m_scaled, rowD, h1, c1, hlen, h2, Function.comp_def]
  · have gd : DivOk g := by
      have : l ≠ [] := fun e => by subst e; simp [gcdL] at hg; omega
      obtain ⟨dd0, dd⟩ := gcdL_dvd (l.map (upN (lcmL l 1))) 0
      rw [hg] at dd
      by_cases z : ∀ n ∈ l.map (upN (lcmL l 1)), n = 0
      · exfalso
        have : ∀ (m : List Int), (∀ n ∈ m, n = 0) → gcdL m 0 = 0 := by
          intro m
          induction m with
          | nil => intro _; rfl
          | cons a m ih =>
            intro hm
            have := hm a List.mem_cons_self
            subst this
            simp only [gcdL]
            exact ih fun n hn => hm n (List.mem_cons_of_mem _ hn)
        rw [this _ z] at hg
        omega
      · simp only [Classical.not_forall] at z
        obtain ⟨n, hn, hn0⟩ := z
        have hdv := dd n hn
        obtain ⟨q, hq, rfl⟩ := List.mem_map.mp hn
        have b1 := upN_lt L0 hL (hl q hq)
        have b2 : g.natAbs ≤ (upN (lcmL l 1) q).natAbs := Nat.le_of_dvd (by omega) (Int.natAbs_dvd_natAbs.mpr hdv)
        exact DivOk.of (by omega) (Nat.lt_of_le_of_lt b2 b1) (by omega)
    have c2 : ∀ x0 x1 x2 x3, lcGo (lcF (.n 5) tsYes (mBin opDiv (mVar 5) (mVar 4)) [x0, x1, x2, x3, some (.int g), none]) (l.map fun q => D.int (upN (lcmL l 1) q)) s = .ok (l.map fun q => D.int (upN (lcmL l 1) q / g)) s := by
      intro x0 x1 x2 x3
      refine lcGo_mapE (e := fun q => D.int (upN (lcmL l 1) q)) fun q hq => ?_
      simp [gd]
    simp [f_scaled, m_scaled, rowD, h1, c1, hlen, h2, c, c2, Function.comp_def]
end L2.Mir.W

set_option Elab.async false
set_option linter.all false
set_option maxRecDepth 100000
namespace L2.Mir.W
open PySem PySem.Spec PyProof.Rows

/-! ### draws -/
theorem f__law_pick_ok {s : DS} (hs : StateOk s) {ds : List D} (h0 : 2 ≤ ds.length) (h1 : ds.length ≤ 1000) : ∃ d s', f__law_pick [.st, .lst ds] s = .ok d s' ∧ StateOk s' ∧ d ∈ ds := by
  obtain ⟨r, s', e1, e2, e3, e4⟩ := fTake_ok hs (ds.length : Int) (TakeOk.small (by omega))
  have hr : r < ds.length := by omega
  obtain ⟨i, rfl⟩ : ∃ i : Nat, r = i := ⟨r.toNat, by omega⟩
  have hi : i < ds.length := by omega
  refine ⟨ds[i], s', ?_, e2, List.getElem_mem hi⟩
  have a := atI_getElem hi
  unfold f__law_take at *
  simp [f__law_pick, m__law_pick, e1, a]
theorem f__law_part_ok {s : DS} (hs : StateOk s) : ∃ q s', f__law_part [.st] s = .ok (qD q) s' ∧ StateOk s' ∧ PartOk q := by
  obtain ⟨d, s1, e1, hs1, hd⟩ := f__law_pick_ok hs (ds := [.int 3, .int 30, .int 10000, .int 1000000000000]) (by simp) (by simp)
  obtain ⟨top, rfl, ht0, ht1⟩ : ∃ top : Int, d = .int top ∧ 0 ≤ top ∧ top ≤ 1000000000000 := by
    simp only [List.mem_cons, List.not_mem_nil, or_false] at hd
    rcases hd with rfl | rfl | rfl | rfl <;> exact ⟨_, rfl, by decide, by decide⟩
  obtain ⟨r, s2, e2, hs2, hr0, hr1⟩ := fTake_ok hs1 (2 * top + 1) (TakeOk.small (by omega))
  obtain ⟨d', s3, e3, hs3, hd'⟩ := f__law_pick_ok hs2 (ds := [.int 1, .int 6, .int 5000]) (by simp) (by simp)
  obtain ⟨m, rfl, hm0, hm1⟩ : ∃ m : Int, d' = .int m ∧ 0 ≤ m ∧ m ≤ 5000 := by
    simp only [List.mem_cons, List.not_mem_nil, or_false] at hd'
    rcases hd' with rfl | rfl | rfl <;> exact ⟨_, rfl, by decide, by decide⟩
  obtain ⟨r', s4, e4, hs4, hr0', hr1'⟩ := fTake_ok hs3 m (TakeOk.small (by omega))
  have f := f__law_fr_ok (a := r - top) (b := 1 + r') (k := 13) (by omega) (by omega) (by omega) s4
  refine ⟨Rat.divInt (r - top) (1 + r'), s4, ?_, hs4, ?_⟩
  · simp [f__law_part, m__law_part, e1, e2, e3, e4, f, f__law_take]
  · have a1 := divInt_sz (a := r - top) (b := 1 + r') (k := 41) (by omega) (by omega) (by omega)
    refine ⟨a1.1, ?_⟩
    rw [Rat.den_divInt, if_neg (by omega)]
    exact Nat.lt_of_le_of_lt (Nat.div_le_self _ _) (by omega)

/-! ### dot -/
def dotL (ns : List Int) (l : List Rat) : Rat := (List.zipWith (fun (n : Int) (q : Rat) => q * (n : Rat)) ns l).foldl (· + ·) 0
theorem qD_int (n : Int) : D.tup [.int n, .int 1] = qD (n : Rat) := rfl
theorem szQ_int {n : Int} {k : Nat} (h : n.natAbs < 2 ^ k) (hk : 0 < k) : szQ k (n : Rat) := ⟨h, by
  show 1 < 2 ^ k
  exact Nat.one_lt_pow (by omega) (by decide)⟩
theorem range_map_zip (ns : List Int) (l : List Rat) (h : ns.length = l.length) (f : Int → Rat → D) (g : Nat → D) (hg : ∀ i (h1 : i < ns.length) (h2 : i < l.length), g i = f ns[i] l[i]) : (List.range ns.length).map g = List.zipWith f ns l := by
  apply List.ext_getElem
  · simp [h]
  · intro i h1 h2
    simp only [List.length_map, List.length_range] at h1
    rw [List.getElem_map, List.getElem_zipWith, List.getElem_range]
    exact hg i h1 (by omega)
theorem f_dot_ok {ns : List Int} {l : List Rat} (h : ns.length = l.length) (hn : ∀ n ∈ ns, n.natAbs < 2 ^ 10) (hl : ∀ q ∈ l, PartOk q) (hz : l.length ≤ 63) (s : DS) : f_dot [.lst (ns.map D.int), rowD l] s = .ok (qD (dotL ns l)) s := by
  have c : ∀ x0, lcGo (lcF (.n 2) tsYes (mCall f_times (mCons (mBin opIx (mVar 1) (mVar 2)) (mCons (mTup (mCons (mBin opIx (mVar 0) (mVar 2)) (mCons (mC (.int 1)) mNil))) mNil))) [some (.lst (ns.map D.int)), some (rowD l), x0]) (rngD 0 ns.length) s = .ok ((List.zipWith (fun (n : Int) (q : Rat) => q * (n : Rat)) ns l).map qD) s := by
    intro x0
    rw [rngD_nat]
    have : (List.zipWith (fun (n : Int) (q : Rat) => q * (n : Rat)) ns l).map qD = (List.range ns.length).map fun i => if h1 : i < ns.length then (if h2 : i < l.length then qD (l[i] * (ns[i] : Rat)) else .non) else .non := by
      rw [range_map_zip ns l h (fun n q => qD (q * (n : Rat)))]
      · rw [List.map_zipWith]
      · intro i h1 h2
        rw [dif_pos h1, dif_pos h2]
    rw [this]
    refine lcGo_mapE (e := fun (i : Nat) => D.int i) fun i hi => ?_
    have h1 : i < ns.length := List.mem_range.mp hi
    have h2 : i < l.length := by omega
    rw [dif_pos h1, dif_pos h2]
    have t := f_times_ok (hl _ (List.getElem_mem h2)).sz (szQ_int (hn _ (List.getElem_mem h1)) (by omega)) (by omega) s
    have a1 := atI_getElem (xs := ns.map D.int) (i := i) (by simpa using h1)
    have a2 := atI_getElem (xs := l.map qD) (i := i) (by simpa using h2)
    simp only [List.getElem_map] at a1 a2
    simp [rowD, a1, a2, qD_int, t]
  have tt := f_total_ok (l := List.zipWith (fun (n : Int) (q : Rat) => q * (n : Rat)) ns l) (i := 51) (fun q hq => ?_) (by simp; omega) s
  · have hlen : LenOk ns.length := LenOk.small (by omega)
    have hr : RngOk (ns.length : Int) := RngOk.len (by omega)
    simp only [rowD, List.map_zipWith] at tt
    simp [f_dot, m_dot, hr, c, rngD_len, hlen, tt, dotL]
  · obtain ⟨i, hi, rfl⟩ := List.getElem_of_mem hq
    rw [List.getElem_zipWith]
    simp only [List.length_zipWith] at hi
    exact (hl _ (List.getElem_mem (by omega))).sz.mul (szQ_int (hn _ (List.getElem_mem (by omega))) (by omega))
end L2.Mir.W

set_option Elab.async false
set_option linter.all false
set_option maxRecDepth 100000
namespace L2.Mir.W
open PySem PySem.Spec PyProof.Rows

/-! ### the law, row by row -/
def EV (x2 x3 x4 x5 x6 x7 x8 x9 x10 x11 x12 x13 x14 x15 x16 x17 x18 x19 x20 : Sl) : SE := [.no, .val .st, x2, x3, x4, x5, x6, x7, x8, x9, x10, x11, x12, x13, x14, x15, x16, x17, x18, x19, x20]
section
variable {x2 x3 x4 x5 x6 x7 x8 x9 x10 x11 x12 x13 x14 x15 x16 x17 x18 x19 x20 : Sl} {s : DS}
theorem st_1 (hs : StateOk s) : ∃ p q r s', l_1 (EV x2 x3 x4 x5 x6 x7 x8 x9 x10 x11 x12 x13 x14 x15 x16 x17 x18 x19 x20) s = .ok (.nx (EV (.val (qD p)) (.val (qD q)) (.val (qD r)) x5 x6 x7 x8 x9 x10 x11 x12 x13 x14 x15 x16 x17 x18 x19 x20)) s' ∧ StateOk s' ∧ PartOk p ∧ PartOk q ∧ PartOk r := by
  obtain ⟨p, s1, e1, h1, p1⟩ := f__law_part_ok hs
  obtain ⟨q, s2, e2, h2, p2⟩ := f__law_part_ok h1
  obtain ⟨r, s3, e3, h3, p3⟩ := f__law_part_ok h2
  exact ⟨p, q, r, s3, by simp [l_1, EV, e1, e2, e3], h3, p1, p2, p3⟩
theorem st_2 (hs : StateOk s) : ∃ a b s', l_2 (EV x2 x3 x4 x5 x6 x7 x8 x9 x10 x11 x12 x13 x14 x15 x16 x17 x18 x19 x20) s = .ok (.nx (EV x2 x3 x4 (.val (.int a)) (.val (.int b)) x7 x8 x9 x10 x11 x12 x13 x14 x15 x16 x17 x18 x19 x20)) s' ∧ StateOk s' ∧ a.natAbs ≤ 1000 ∧ b.natAbs ≤ 1000 := by
  obtain ⟨r, s1, e1, h1, p1, p2⟩ := fTake_ok hs 2001 (TakeOk.small (by omega))
  obtain ⟨t, s2, e2, h2, q1, q2⟩ := fTake_ok h1 2001 (TakeOk.small (by omega))
  exact ⟨r - 1000, t - 1000, s2, by simp [l_2, EV, e1, e2, f__law_take], h2, by omega, by omega⟩
theorem st_3 {a b : Int} (ha : a.natAbs ≤ 1000) (hb : b.natAbs ≤ 1000) : l_3 (EV x2 x3 x4 (.val (.int a)) (.val (.int b)) x7 x8 x9 x10 x11 x12 x13 x14 x15 x16 x17 x18 x19 x20) s = .ok (.nx (EV x2 x3 x4 (.val (.int a)) (.val (.int b)) x7 x8 x9 x10 x11 x12 x13 x14 x15 x16 x17 x18 x19 x20)) s := by
  have hb' : b.natAbs < 2 ^ 10 := by omega
  have d1 := f_divisor_ok a b s
  have d2 := f__law_gcd_ok (a := a) hb' (by omega) s
  have d3 := f_divisor_ok 0 0 s
  have d4 := f_part_ok (a := 0) (b := 7) (k := 10) (by omega) (by omega) (by omega) s
  have e : qD (Rat.divInt 0 7) = .tup [.int 0, .int 1] := rfl
  rw [e] at d4
  by_cases c : b = 0
  · subst c
    simp [l_3, EV, d1, d2, d3, d4]
  · have d5 := f_part_ok (a := a) c hb' (by omega) s
    have d6 := f__law_fr_ok (a := a) c hb' (by omega) s
    simp [l_3, EV, d1, d2, d3, d4, d5, d6, c]
theorem st_4 {p q : Rat} (hp : PartOk p) (hq : PartOk q) : l_4 (EV (.val (qD p)) (.val (qD q)) x4 x5 x6 x7 x8 x9 x10 x11 x12 x13 x14 x15 x16 x17 x18 x19 x20) s = .ok (.nx (EV (.val (qD p)) (.val (qD q)) x4 x5 x6 x7 x8 x9 x10 x11 x12 x13 x14 x15 x16 x17 x18 x19 x20)) s := by
  have d1 := f_plus_ok hp.sz hq.sz (by omega) s
  have d2 := f__law_add_ok hp.sz hq.sz (by omega) s
  have d3 := f_minus_ok hp.sz hq.sz (by omega) s
  have d4 := f__law_sub_ok hp.sz hq.sz (by omega) s
  have d5 := f_times_ok hp.sz hq.sz (by omega) s
  have d6 := f__law_mul_ok hp.sz hq.sz (by omega) s
  simp [l_4, EV, d1, d2, d3, d4, d5, d6]
theorem ix_q0 (q : Rat) (s : DS) : opIx (qD q) (.int 0) s = .ok (.int q.num) s := by simp [qD]
theorem ix_q1 (q : Rat) (s : DS) : opIx (qD q) (.int 1) s = .ok (.int q.den) s := by simp [qD]
theorem st_5 {p q : Rat} (hp : PartOk p) (hq : PartOk q) : l_5 (EV (.val (qD p)) (.val (qD q)) x4 x5 x6 x7 x8 x9 x10 x11 x12 x13 x14 x15 x16 x17 x18 x19 x20) s = .ok (.nx (EV (.val (qD p)) (.val (qD q)) x4 x5 x6 x7 x8 x9 x10 x11 x12 x13 x14 x15 x16 x17 x18 x19 x20)) s := by
  by_cases c : q = 0
  · subst c
    simp [l_5, EV, ix_q0, ix_q1, -opIx]
  · have hn := num_ne c
    have d1 := f_over_ok hp.sz hq.sz (by omega) c s
    have d2 := f__law_fr_ok (a := q.den) (b := q.num) hn hq.1 (by omega) s
    have sz : szQ 41 (Rat.divInt q.den q.num) := divInt_sz (by simpa using hq.sz.2) hq.1 hn
    have d3 := f__law_mul_ok hp.sz sz (by omega) s
    have e : p * Rat.divInt q.den q.num = p / q := by rw [Rat.div_def, Rat.inv_def]
    rw [e] at d3
    simp [l_5, EV, ix_q0, ix_q1, -opIx, hn, d1, d2, d3]
theorem st_6 {p q : Rat} (hp : PartOk p) (hq : PartOk q) : l_6 (EV (.val (qD p)) (.val (qD q)) x4 x5 x6 x7 x8 x9 x10 x11 x12 x13 x14 x15 x16 x17 x18 x19 x20) s = .ok (.nx (EV (.val (qD p)) (.val (qD q)) x4 x5 x6 x7 x8 x9 x10 x11 x12 x13 x14 x15 x16 x17 x18 x19 x20)) s := by
  let e : Rat := ⟨1, 1000000, by decide, by decide⟩
  have he : qD e = .tup [.int 1, .int 1000000] := rfl
  have hz : szQ 41 e := ⟨by decide, by decide⟩
  have e0 : (0 : Rat) < e := by rw [Rat.lt_iff]; decide
  have d1 := f_is_less_ok hp.sz hq.sz (by omega) s
  have d2 := f__law_sign_ok hp.sz hq.sz (by omega) s
  have d3 := f_is_less_ok hp.sz hp.sz (by omega) s
  have d4 := f__law_add_ok hp.sz hz (by omega) s
  have d5 := f_is_less_ok hp.sz (hp.sz.add hz) (by omega) s
  rw [he] at d4
  have g : p < p + e := by grind
  have g0 : ¬ p < p := by grind
  rw [decide_eq_true g] at d5
  rw [decide_eq_false g0] at d3
  have g1 : (if p = q then (0 : Int) else if q < p then 1 else -1) < 0 ↔ p < q := by
    split
    · grind
    · split <;> grind
  generalize (if p = q then (0 : Int) else if q < p then 1 else -1) = z at *
  by_cases c : p < q
  · simp [l_6, EV, d1, d2, d3, d4, d5, g1, c]
  · simp [l_6, EV, d1, d2, d3, d4, d5, g1, c]
theorem rows_of {ys : List D} (h : ∀ y ∈ ys, ∃ q, y = qD q ∧ PartOk q) : ∃ l : List Rat, ys = l.map qD ∧ ∀ q ∈ l, PartOk q := by
  induction ys with
  | nil => exact ⟨[], rfl, by simp⟩
  | cons y ys ih =>
    obtain ⟨q, rfl, hq⟩ := h y List.mem_cons_self
    obtain ⟨l, rfl, hl⟩ := ih fun z hz => h z (List.mem_cons_of_mem _ hz)
    exact ⟨q :: l, rfl, by simpa using ⟨hq, hl⟩⟩
theorem st_7 (hs : StateOk s) : ∃ l s', l_7 (EV x2 x3 x4 x5 x6 x7 x8 x9 x10 x11 x12 x13 x14 x15 x16 x17 x18 x19 x20) s = .ok (.nx (EV x2 x3 x4 x5 x6 (.val (rowD l)) x8 x9 x10 x11 x12 x13 x14 x15 x16 x17 x18 x19 x20)) s' ∧ StateOk s' ∧ l.length ≤ 5 ∧ ∀ q ∈ l, PartOk q := by
  obtain ⟨r, s1, e1, h1, p1, p2⟩ := fTake_ok hs 6 (TakeOk.small (by omega))
  have hd := lcGo_draw (f := lcF (.n 14) tsYes (mCall f__law_part (mCons (mVar 1) mNil)) (wipeE (hideE (EV x2 x3 x4 x5 x6 x7 x8 x9 x10 x11 x12 x13 x14 x15 x16 x17 x18 x19 x20)) [14])) (P := fun y => ∃ q, y = qD q ∧ PartOk q) (fun d s hs => by
    obtain ⟨q, s1, e1, h1, p1⟩ := f__law_part_ok hs
    exact ⟨qD q, s1, by simp [EV, e1], h1, q, rfl, p1⟩) (rngD 0 r) s1 h1
  obtain ⟨ys, s2, e2, h2, h3, h4⟩ := hd
  obtain ⟨l, rfl, hl⟩ := rows_of h4
  simp only [List.length_map, rngD_len] at h3
  refine ⟨l, s2, ?_, h2, by omega, hl⟩
  have c1 : RngOk r := RngOk.small (by omega) (by omega)
  have c2 : LenOk r.toNat := LenOk.small (by omega)
  simp [EV] at e2
  simp [l_7, EV, e1, f__law_take, c1, rngD_len, c2, e2, rowD]
theorem st_8 : l_8 (EV x2 x3 x4 x5 x6 x7 x8 x9 x10 x11 x12 x13 x14 x15 x16 x17 x18 x19 x20) s = .ok (.nx (EV x2 x3 x4 x5 x6 x7 (.val (qD 0)) (.val .non) x10 x11 x12 x13 x14 x15 x16 x17 x18 x19 x20)) s := by
  simp [l_8, EV, qD_zero]
end
end L2.Mir.W

set_option Elab.async false
set_option linter.all false
set_option maxRecDepth 100000
namespace L2.Mir.W
open PySem PySem.Spec PyProof.Rows
section
variable {x2 x3 x4 x5 x6 x7 x8 x9 x10 x11 x12 x13 x14 x15 x16 x17 x18 x19 x20 : Sl} {s : DS}
noncomputable def bd_9 : MS := (sSeq (sSet false 8 (mCall f__law_add (mCons (mVar 8) (mCons (mVar 10) mNil)))) (sSet false 9 (mIf (mOrT (mCmpT (opIs false) (mVar 9) (mC .non)) (mCmpT (opCmp pLt) (mCall f__law_sign (mCons (mVar 10) (mCons (mVar 9) mNil))) (mC (.int 0)))) (mVar 10) (mVar 9))))
theorem sign_lt {q b : Rat} : (if q = b then (0 : Int) else if b < q then 1 else -1) < 0 ↔ q < b := by
  split
  · grind
  · split <;> grind
theorem go_9 : ∀ (l : List Rat) (a : Rat) (b : Option Rat) (n : Nat) (x10 : Sl), szQ n a → (∀ q, b = some q → PartOk q) → (∀ q ∈ l, PartOk q) → n + l.length * 42 ≤ 1800 →
    ∃ t, forGo (.n 10) bd_9 (l.map qD) (EV x2 x3 x4 x5 x6 x7 (.val (qD a)) (.val (optD b)) x10 x11 x12 x13 x14 x15 x16 x17 x18 x19 x20) s = .ok (.nx (EV x2 x3 x4 x5 x6 x7 (.val (qD (l.foldl (· + ·) a))) (.val (optD (leastR l b))) t x11 x12 x13 x14 x15 x16 x17 x18 x19 x20)) s
  | [], a, b, n, x10, _, _, _, _ => ⟨x10, by simp [forGo, leastR]⟩
  | q :: l, a, b, n, x10, ha, hb, hl, hn => by
    simp only [List.length_cons, Nat.add_mul] at hn
    have hq := hl q List.mem_cons_self
    have d1 := f__law_add_ok ha hq.sz (by omega) s
    cases b with
    | none =>
      obtain ⟨t, h⟩ := go_9 l (a + q) (some q) (n + 42) (.val (qD q)) ((ha.add hq.sz).mono (by omega)) (fun x hx => by cases hx; exact hq) (fun x hx => hl x (List.mem_cons_of_mem _ hx)) (by omega)
      refine ⟨t, ?_⟩
      simp only [List.map_cons, forGo, leastR, List.foldl_cons]
      simp only [EV] at h
      simp [EV, bd_9, d1]
      exact h
    | some b =>
      have hb' := hb b rfl
      have d2 := f__law_sign_ok hq.sz hb'.sz (by omega) s
      obtain ⟨t, h⟩ := go_9 l (a + q) (some (if q < b then q else b)) (n + 42) (.val (qD q)) ((ha.add hq.sz).mono (by omega)) (fun x hx => by cases hx; split; exact hq; exact hb') (fun x hx => hl x (List.mem_cons_of_mem _ hx)) (by omega)
      refine ⟨t, ?_⟩
      simp only [List.map_cons, forGo, leastR, List.foldl_cons]
      simp only [EV] at h
      have g := @sign_lt q b
      generalize (if q = b then (0 : Int) else if b < q then 1 else -1) = z at *
      by_cases c : q < b
      · rw [if_pos c] at h ⊢
        simp [EV, bd_9, d1, d2, g, c, isNonD_q]
        exact h
      · rw [if_neg c] at h ⊢
        simp [EV, bd_9, d1, d2, g, c, isNonD_q]
        exact h
theorem st_9 {l : List Rat} (hl : ∀ q ∈ l, PartOk q) (hz : l.length ≤ 5) : ∃ t, l_9 (EV x2 x3 x4 x5 x6 (.val (rowD l)) (.val (qD 0)) (.val .non) x10 x11 x12 x13 x14 x15 x16 x17 x18 x19 x20) s = .ok (.nx (EV x2 x3 x4 x5 x6 (.val (rowD l)) (.val (qD (l.foldl (· + ·) 0))) (.val (optD (leastR l none))) t x11 x12 x13 x14 x15 x16 x17 x18 x19 x20)) s := by
  obtain ⟨t, h⟩ := go_9 (x2 := x2) (x3 := x3) (x4 := x4) (x5 := x5) (x6 := x6) (x7 := .val (rowD l)) (x11 := x11) (x12 := x12) (x13 := x13) (x14 := x14) (x15 := x15) (x16 := x16) (x17 := x17) (x18 := x18) (x19 := x19) (x20 := x20) (s := s) l 0 none 1 x10 ⟨by decide, by decide⟩ (fun _ h => by cases h) hl (by omega)
  refine ⟨t, ?_⟩
  simp only [EV, bd_9, optD_n, rowD] at h
  simp only [l_9, EV, sFor, mSeq, mVar, rowD, hideE, List.map_cons, List.map_nil, Sl.hide, List.getElem?_cons_succ, List.getElem?_cons_zero, bind_ok]
  exact h
theorem okD_opt (o : Option Rat) : okD 60 (optD o) = true := by cases o <;> simp
theorem deq_opt (o : Option Rat) : deq (optD o) (optD o) = true := by cases o <;> simp
theorem copy_row (n : Nat) (l : List Rat) (env : VE) (hn : n < env.length) (s : DS) : lcGo (lcF (.n n) tsYes (mVar n) env) (l.map qD) s = .ok (l.map qD) s := by
  refine lcGo_mapE fun q hq => ?_
  simp [hn]
theorem st_10 {l : List Rat} (hl : ∀ q ∈ l, PartOk q) (hz : l.length ≤ 5) : l_10 (EV x2 x3 x4 x5 x6 (.val (rowD l)) (.val (qD (l.foldl (· + ·) 0))) (.val (optD (leastR l none))) x10 x11 x12 x13 x14 x15 x16 x17 x18 x19 x20) s = .ok (.nx (EV x2 x3 x4 x5 x6 (.val (rowD l)) (.val (qD (l.foldl (· + ·) 0))) (.val (optD (leastR l none))) x10 x11 x12 x13 x14 x15 x16 x17 x18 x19 x20)) s := by
  have d1 := f_total_ok (fun q hq => (hl q hq).sz) (by omega) s
  have d2 := f_least_of_ok (fun q hq => (hl q hq).sz) (by omega) s
  have hlen : LenOk l.length := LenOk.small (by omega)
  simp only [rowD] at d1 d2
  simp [l_10, EV, rowD, copy_row, hlen, d1, d2, okD_opt, deq_opt, -lcF]
theorem st_11 {p : Rat} (hp : PartOk p) : l_11 (EV (.val (qD p)) x3 x4 x5 x6 x7 x8 x9 x10 x11 x12 x13 x14 x15 x16 x17 x18 x19 x20) s = .ok (.nx (EV (.val (qD p)) x3 x4 x5 x6 x7 x8 x9 x10 (.val (.int (p.num / p.den))) (.val (.int (-(-p.num / p.den)))) x13 x14 x15 x16 x17 x18 x19 x20)) s := by
  have d1 := f_whole_below_ok hp.sz (by omega) s
  have d2 := f_whole_above_ok hp.sz (by omega) s
  simp [l_11, EV, d1, d2]
theorem st_12 {p : Rat} (hp : PartOk p) : l_12 (EV (.val (qD p)) x3 x4 x5 x6 x7 x8 x9 x10 (.val (.int (p.num / p.den))) (.val (.int (-(-p.num / p.den)))) x13 x14 x15 x16 x17 x18 x19 x20) s = .ok (.nx (EV (.val (qD p)) x3 x4 x5 x6 x7 x8 x9 x10 (.val (.int (p.num / p.den))) (.val (.int (-(-p.num / p.den)))) x13 x14 x15 x16 x17 x18 x19 x20)) s := by
  have hd : (0 : Int) < p.den := by have := p.den_pos; omega
  have hs : (p.den : Int).natAbs < 18446744073709551616 := by have := hp.2; omega
  have a1 : p.num / p.den * p.den ≤ p.num := Int.ediv_mul_le _ (by omega)
  have a2 : p.num < (p.num / p.den + 1) * p.den := Int.lt_ediv_add_one_mul_self _ hd
  have a3 : -p.num / p.den * p.den ≤ -p.num := Int.ediv_mul_le _ (by omega)
  have a4 : -p.num < (-p.num / p.den + 1) * p.den := Int.lt_ediv_add_one_mul_self _ hd
  have m1 := @mulOk_R (p.num / p.den) p.den hs
  have m2 := @mulOk_R (p.num / p.den + 1) p.den hs
  have m3 := @mulOk_R (-(-p.num / p.den)) p.den hs
  have m4 := @mulOk_R (-(-p.num / p.den) - 1) p.den hs
  have c1 : ¬ p.num < p.num / p.den * p.den := by omega
  have c2 : ¬ (p.num / p.den + 1) * p.den ≤ p.num := by omega
  have c3 : ¬ -(-p.num / p.den) * p.den < p.num := by rw [Int.neg_mul]; omega
  have c4 : ¬ p.num ≤ (-(-p.num / p.den) - 1) * p.den := by
    have : (-(-p.num / p.den) - 1) * p.den = -((-p.num / p.den + 1) * p.den) := by grind
    rw [this]; omega
  have c3b : ¬ -(-p.num / p.den * p.den) < p.num := by rw [← Int.neg_mul]; exact c3
  simp [l_12, EV, ix_q0, ix_q1, -opIx, m1, m2, m3, m4, c1, c2, c3, c3b, c4]
theorem st_13 {p : Rat} {a : Int} (hp : PartOk p) : l_13 (EV (.val (qD p)) x3 x4 (.val (.int a)) x6 x7 x8 x9 x10 x11 x12 x13 x14 x15 x16 x17 x18 x19 x20) s = .ok (.nx (EV (.val (qD p)) x3 x4 (.val (.int a)) x6 x7 x8 x9 x10 x11 x12 x13 x14 x15 x16 x17 x18 x19 x20)) s := by
  have d1 := @f_is_whole_part_ok p.num p.den s
  have d2 := @f_is_whole_part_ok a 1 s
  have d3 := @f_is_whole_part_ok 1 2 s
  simp [l_13, EV, qD, d1, d2, d3]
theorem st_14 {l : List Rat} (hl : ∀ q ∈ l, PartOk q) (hz : l.length ≤ 5) : l_14 (EV x2 x3 x4 x5 x6 (.val (rowD l)) x8 x9 x10 x11 x12 x13 x14 x15 x16 x17 x18 x19 x20) s = .ok (.nx (EV x2 x3 x4 x5 x6 (.val (rowD l)) x8 x9 x10 x11 x12 (.val (.tup ((scaledL l).map D.int))) x14 x15 x16 x17 x18 x19 x20)) s := by
  have d1 := f_scaled_ok hl (by omega) s
  have hlen : LenOk l.length := LenOk.small (by omega)
  simp only [rowD] at d1
  simp [l_14, EV, rowD, copy_row, hlen, d1, -lcF]
end
end L2.Mir.W

set_option Elab.async false
set_option linter.all false
set_option maxRecDepth 100000
namespace L2.Mir.W
open PySem PySem.Spec PyProof.Rows
/-! ### what scaled rows are -/
theorem upN_rat {L : Int} {q : Rat} (h : (q.den : Int) ∣ L) : ((upN L q : Int) : Rat) = q * (L : Rat) := by
  obtain ⟨k, rfl⟩ := h
  unfold upN
  rw [Int.mul_ediv_cancel_left _ (den_ne q)]
  have h1 : (q.num : Rat) = q * (q.den : Rat) := by
    have h0 := Rat.num_divInt_den q
    rw [Rat.divInt_eq_div] at h0
    have h2 : ((q.den : Int) : Rat) = (q.den : Rat) := rfl
    have h3 : (q.den : Rat) ≠ 0 := by
      intro h
      exact q.den_nz (Rat.natCast_eq_zero_iff.mp h)
    rw [h2] at h0
    grind
  rw [Rat.intCast_mul, Rat.intCast_mul, h1]
  have : ((q.den : Int) : Rat) = (q.den : Rat) := rfl
  rw [this]
  grind
theorem lcm_lt : ∀ (l : List Rat) (c : Int) (n : Nat), 0 < c → c.natAbs < 2 ^ n → (∀ q ∈ l, PartOk q) → (lcmL l c).natAbs < 2 ^ (n + l.length * 13)
  | [], c, n, hc, hn, _ => by simpa [lcmL] using hn
  | q :: l, c, n, hc, hn, hl => by
    obtain ⟨h1, h2, h3, h4⟩ := lcm_step hc q
    have hq := hl q List.mem_cons_self
    have hcd : (c * q.den : Int).natAbs < 2 ^ (n + 13) := by rw [Int.natAbs_mul, Int.natAbs_natCast]; exact pow_lt_mul hn hq.2
    have hb : (c * q.den / (Int.gcd c q.den : Nat) : Int).natAbs < 2 ^ (n + 13) := Nat.lt_of_le_of_lt (natAbs_le_of (by omega) h4) hcd
    have b := lcm_lt l _ (n + 13) h1 hb (fun x hx => hl x (List.mem_cons_of_mem _ hx))
    simp only [List.length_cons, Nat.add_mul, lcmL]; rw [show n + (l.length * 13 + 1 * 13) = n + 13 + l.length * 13 by omega]; exact b
theorem gcdL_zero : ∀ (m : List Int), (∀ n ∈ m, n = 0) → gcdL m 0 = 0
  | [], _ => rfl
  | a :: m, hm => by
    have := hm a List.mem_cons_self
    subst this
    simp only [gcdL]
    exact gcdL_zero m fun n hn => hm n (List.mem_cons_of_mem _ hn)
theorem scaled_is {l : List Rat} (hl : ∀ q ∈ l, PartOk q) (hz : l.length ≤ 5) : ∃ (u : Rat → Int) (c : Rat), 0 < c ∧ scaledL l = l.map u ∧ (∀ q ∈ l, ((u q : Int) : Rat) = q * c ∧ (u q).natAbs < 2 ^ 107) ∧ ((∃ q ∈ l, q.num ≠ 0) → gcdL (scaledL l) 0 = 1) := by
  obtain ⟨L0, _, L1⟩ := lcmL_ok l 1 (by decide)
  have Lz : (lcmL l 1).natAbs < 2 ^ 66 := Nat.lt_of_lt_of_le (lcm_lt l 1 1 (by decide) (by decide) hl) (Nat.pow_le_pow_right (by decide) (by omega))
  have uz : ∀ q ∈ l, (upN (lcmL l 1) q).natAbs < 2 ^ 107 := fun q hq => upN_lt L0 Lz (hl q hq)
  have Lr : (0 : Rat) < ((lcmL l 1 : Int) : Rat) := Rat.intCast_pos.mpr L0
  generalize hL : lcmL l 1 = L at *
  obtain ⟨gd0, gd⟩ := gcdL_dvd (l.map (upN L)) 0
  have g0 : 0 ≤ gcdL (l.map (upN L)) 0 := gcdL_nonneg _ _ (by omega)
  have gm : scaledL l = if gcdL (l.map (upN L)) 0 = 0 then l.map (upN L) else (l.map (upN L)).map (· / gcdL (l.map (upN L)) 0) := by unfold scaledL; rw [hL]
  by_cases c : gcdL (l.map (upN L)) 0 = 0
  · rw [if_pos c] at gm
    refine ⟨upN L, (L : Rat), Lr, gm, fun q hq => ⟨upN_rat (L1 q hq), uz q hq⟩, fun ⟨q, hq, hn⟩ => ?_⟩
    exfalso
    rw [c] at gd
    have := gd _ (List.mem_map_of_mem hq)
    rw [Int.zero_dvd] at this
    unfold upN at this
    rcases Int.mul_eq_zero.mp this with h | h
    · exact hn h
    · obtain ⟨k, hk⟩ := L1 q hq
      rw [hk, Int.mul_ediv_cancel_left _ (den_ne q)] at h
      rw [hk, h] at L0
      simp at L0
  · rw [if_neg c] at gm
    generalize hg : gcdL (l.map (upN L)) 0 = g at *
    have gp : 0 < g := by omega
    have gr : (0 : Rat) < (g : Rat) := Rat.intCast_pos.mpr gp
    have e1 : ∀ q ∈ l, upN L q = g * (upN L q / g) := fun q hq => (Int.mul_ediv_cancel' (gd _ (List.mem_map_of_mem hq))).symm
    refine ⟨fun q => upN L q / g, (L : Rat) / (g : Rat), by rw [Rat.div_def]; exact Rat.mul_pos Lr (Rat.inv_pos.mpr gr), by rw [gm, List.map_map]; rfl, fun q hq => ⟨?_, ?_⟩, fun _ => ?_⟩
    · have h1 := upN_rat (L1 q hq)
      have h2 := e1 q hq
      have h3 : ((upN L q : Int) : Rat) = (g : Rat) * ((upN L q / g : Int) : Rat) := by rw [← Rat.intCast_mul, ← h2]
      grind
    · refine Nat.lt_of_le_of_lt ?_ (uz q hq)
      have := e1 q hq
      show (upN L q / g).natAbs ≤ _
      generalize upN L q / g = z at *
      rw [this, Int.natAbs_mul]
      exact Nat.le_mul_of_pos_left _ (Int.natAbs_pos.mpr (by omega))
    · rw [gm]
      have h1 := gcdL_mul g g0 ((l.map (upN L)).map (· / g)) 0 (by omega)
      have h2 : ((l.map (upN L)).map (· / g)).map (g * ·) = l.map (upN L) := by
        rw [List.map_map, List.map_map]
        exact List.map_congr_left fun q hq => (e1 q hq).symm
      rw [h2, Int.mul_zero, hg] at h1
      exact Int.eq_of_mul_eq_mul_left (a := g) (by omega) (by omega)
end L2.Mir.W

set_option Elab.async false
set_option linter.all false
set_option maxRecDepth 100000
namespace L2.Mir.W
open PySem PySem.Spec PyProof.Rows
/-- a loop whose turns stay within bounds -/
theorem forGo_stay {p : Pat} {body : MS} {I : SE → Prop} {s : DS} : ∀ {ds : List D}, (∀ d ∈ ds, ∀ env, I env → ∃ as env', p.run d = some as ∧ body (setSl env as) s = .ok (.nx env') s ∧ I env') → ∀ env, I env → ∃ env', forGo p body ds env s = .ok (.nx env') s ∧ I env'
  | [], _, env, h => ⟨env, rfl, h⟩
  | d :: ds, h, env, he => by
    obtain ⟨as, env1, h1, h2, h3⟩ := h d List.mem_cons_self env he
    obtain ⟨env2, h4, h5⟩ := forGo_stay (fun x hx => h x (List.mem_cons_of_mem _ hx)) env1 h3
    refine ⟨env2, ?_, h5⟩
    simp only [forGo, h1]
    rw [h2]
    exact h4
theorem intsD_map (f : α → Int) : ∀ l : List α, intsD (l.map fun d => D.int (f d)) = some (l.map f)
  | [] => rfl
  | a :: l => by simp [intsD_map f l]
section
variable {x2 x3 x4 x5 x6 x7 x8 x9 x10 x11 x12 x13 x14 x15 x16 x17 x18 x19 x20 : Sl} {s : DS}
theorem st_15 {l : List Rat} (hl : ∀ q ∈ l, PartOk q) (hz : l.length ≤ 5) : l_15 (EV x2 x3 x4 x5 x6 (.val (rowD l)) x8 x9 x10 x11 x12 (.val (.tup ((scaledL l).map D.int))) x14 x15 x16 x17 x18 x19 x20) s = .ok (.nx (EV x2 x3 x4 x5 x6 (.val (rowD l)) x8 x9 x10 x11 x12 (.val (.tup ((scaledL l).map D.int))) x14 x15 x16 x17 x18 x19 x20)) s := by
  obtain ⟨u, c, c0, e, h1, h2⟩ := scaled_is hl hz
  have hlen : LenOk l.length := LenOk.small (by omega)
  have cp : ∀ env : VE, 10 < env.length → lcGo (lcF (.n 10) tsYes (mCB bAbs (mCons (mBin opIx (mVar 10) (mC (.int 0))) mNil)) env) (l.map qD) s = .ok (l.map fun q => D.int (absI q.num)) s := by
    intro env hn
    refine lcGo_mapE fun q hq => ?_
    simp [hn, ix_q0, -opIx]
  have im := intsD_map (fun q : Rat => absI q.num) l
  have gk := f__law_gcd_of_ok (k := 107) (by omega) (l := l.map u) (by simpa using fun q hq => (h1 q hq).2) s
  rw [e] at h2 ⊢
  rw [List.map_map] at gk
  by_cases hn : l = []
  · subst hn
    simp [l_15, EV, rowD]
  · have l0 : 0 < l.length := List.length_pos_iff.mpr hn
    have hne : ¬ l.map (fun q : Rat => absI q.num) = [] := by simpa using hn
    by_cases hm : 0 < maxL (l.map fun q : Rat => absI q.num)
    · have ex : ∃ q ∈ l, q.num ≠ 0 := by
        have := (maxL_spec _ hne).1
        obtain ⟨q, hq, h⟩ := List.mem_map.mp this
        refine ⟨q, hq, fun z => ?_⟩
        rw [← h, z] at hm
        simp [absI] at hm
      rw [h2 ex] at gk
      simp [l_15, EV, rowD, l0, cp, hlen, im, hne, hm, gk, hn, -lcF]
    · simp [l_15, EV, rowD, l0, cp, hlen, im, hne, hm, gk, hn, -lcF]
theorem st_16 {l : List Rat} (hl : ∀ q ∈ l, PartOk q) (hz : l.length ≤ 5) : ∃ t14 t15, l_16 (EV x2 x3 x4 x5 x6 (.val (rowD l)) x8 x9 x10 x11 x12 (.val (.tup ((scaledL l).map D.int))) x14 x15 x16 x17 x18 x19 x20) s = .ok (.nx (EV x2 x3 x4 x5 x6 (.val (rowD l)) x8 x9 x10 x11 x12 (.val (.tup ((scaledL l).map D.int))) t14 t15 x16 x17 x18 x19 x20)) s := by
  obtain ⟨u, c, c0, e, h1, h2⟩ := scaled_is hl hz
  rw [e]
  have hr : RngOk (l.length : Int) := RngOk.len (by omega)
  let I : SE → Prop := fun env => ∃ t14 t15, env = EV x2 x3 x4 x5 x6 (.val (rowD l)) x8 x9 x10 x11 x12 (.val (.tup ((l.map u).map D.int))) t14 t15 x16 x17 x18 x19 x20
  let J : Nat → SE → Prop := fun k env => ∃ t15, env = EV x2 x3 x4 x5 x6 (.val (rowD l)) x8 x9 x10 x11 x12 (.val (.tup ((l.map u).map D.int))) (.val (.int k)) t15 x16 x17 x18 x19 x20
  have inner : ∀ k, k < l.length → ∀ env, J k env → ∃ env', forGo (.n 15) (sIf (mOrT (mCmpT opNe (mCall f__law_mul (mCons (mTup (mCons (mBin opIx (mVar 13) (mVar 14)) (mCons (mC (.int 1)) mNil))) (mCons (mBin opIx (mVar 7) (mVar 15)) mNil))) (mCall f__law_mul (mCons (mTup (mCons (mBin opIx (mVar 13) (mVar 15)) (mCons (mC (.int 1)) mNil))) (mCons (mBin opIx (mVar 7) (mVar 14)) mNil)))) (mOrT (mCmpT opNe (mBin (opCmp pGt) (mBin opIx (mVar 13) (mVar 14)) (mC (.int 0))) (mBin (opCmp pGt) (mBin opIx (mBin opIx (mVar 7) (mVar 14)) (mC (.int 0))) (mC (.int 0)))) (mCmpT opNe (mBin (opCmp pLt) (mBin opIx (mVar 13) (mVar 14)) (mC (.int 0))) (mBin (opCmp pLt) (mBin opIx (mBin opIx (mVar 7) (mVar 14)) (mC (.int 0))) (mC (.int 0)))))) (sRet (mC (.bl false))) sNx) (rngD 0 l.length) env s = .ok (.nx env') s ∧ J k env' := by
    intro k hk
    refine forGo_stay fun d hd env he => ?_
    obtain ⟨t15, rfl⟩ := he
    rw [rngD_nat] at hd
    obtain ⟨j, hj, rfl⟩ := List.mem_map.mp hd
    have hj : j < l.length := List.mem_range.mp hj
    have a1 := atI_getElem (xs := (l.map u).map D.int) (i := k) (by simpa using hk)
    have a2 := atI_getElem (xs := (l.map u).map D.int) (i := j) (by simpa using hj)
    have a3 := atI_getElem (xs := l.map qD) (i := k) (by simpa using hk)
    have a4 := atI_getElem (xs := l.map qD) (i := j) (by simpa using hj)
    simp only [List.getElem_map] at a1 a2 a3 a4
    have k1 := h1 _ (List.getElem_mem hk)
    have k2 := h1 _ (List.getElem_mem hj)
    have p1 := hl _ (List.getElem_mem hk)
    have p2 := hl _ (List.getElem_mem hj)
    generalize l[k] = x at *
    generalize l[j] = y at *
    have m1 := f__law_mul_ok (szQ_int k1.2 (by omega)) p2.sz (by omega) s
    have m2 := f__law_mul_ok (szQ_int k2.2 (by omega)) p1.sz (by omega) s
    have ee : ((u x : Int) : Rat) * y = ((u y : Int) : Rat) * x := by rw [k1.1, k2.1]; grind
    rw [ee] at m1
    have s1 : (0 < u x) ↔ 0 < x.num := by
      rw [← Rat.intCast_pos, k1.1, Rat.mul_pos_iff_of_pos_right c0]
      rw [Rat.lt_iff]; simp
    have s2 : (u x < 0) ↔ x.num < 0 := by
      rw [← Rat.intCast_neg_iff, k1.1]
      have : x * c < 0 ↔ x * c < 0 * c := by rw [Rat.zero_mul]
      rw [this, Rat.mul_lt_mul_right c0, Rat.lt_iff]; simp
    refine ⟨_, _, rfl, ?_, .val (.int j), rfl⟩
    simp only [List.map_map, Function.comp_def] at a1 a2
    have b1 : opIx (.tup (l.map fun x => D.int (u x))) (.int k) s = .ok (.int (u x)) s := by simp [a1]
    have b2 : opIx (.tup (l.map fun x => D.int (u x))) (.int j) s = .ok (.int (u y)) s := by simp [a2]
    have b3 : opIx (.lst (l.map qD)) (.int k) s = .ok (qD x) s := by simp [a3]
    have b4 : opIx (.lst (l.map qD)) (.int j) s = .ok (qD y) s := by simp [a4]
    by_cases c1 : 0 < x.num
    · have c2 : ¬ x.num < 0 := by omega
      simp [EV, rowD, b1, b2, b3, b4, qD_int, m1, m2, s1, s2, c1, c2, ix_q0, Function.comp_def, -opIx]
    · by_cases c2 : x.num < 0
      · simp [EV, rowD, b1, b2, b3, b4, qD_int, m1, m2, s1, s2, c1, c2, ix_q0, Function.comp_def, -opIx]
      · simp [EV, rowD, b1, b2, b3, b4, qD_int, m1, m2, s1, s2, c1, c2, ix_q0, Function.comp_def, -opIx]
  have outer := forGo_stay (p := .n 14) (I := I) (s := s) (ds := rngD 0 l.length) (body := sFor (.n 15) (mRng1 (mCons (mCB bLen (mCons (mVar 7) mNil)) mNil)) (sIf (mOrT (mCmpT opNe (mCall f__law_mul (mCons (mTup (mCons (mBin opIx (mVar 13) (mVar 14)) (mCons (mC (.int 1)) mNil))) (mCons (mBin opIx (mVar 7) (mVar 15)) mNil))) (mCall f__law_mul (mCons (mTup (mCons (mBin opIx (mVar 13) (mVar 15)) (mCons (mC (.int 1)) mNil))) (mCons (mBin opIx (mVar 7) (mVar 14)) mNil)))) (mOrT (mCmpT opNe (mBin (opCmp pGt) (mBin opIx (mVar 13) (mVar 14)) (mC (.int 0))) (mBin (opCmp pGt) (mBin opIx (mBin opIx (mVar 7) (mVar 14)) (mC (.int 0))) (mC (.int 0)))) (mCmpT opNe (mBin (opCmp pLt) (mBin opIx (mVar 13) (mVar 14)) (mC (.int 0))) (mBin (opCmp pLt) (mBin opIx (mBin opIx (mVar 7) (mVar 14)) (mC (.int 0))) (mC (.int 0)))))) (sRet (mC (.bl false))) sNx)) (fun d hd env he => by
    obtain ⟨t14, t15, rfl⟩ := he
    rw [rngD_nat] at hd
    obtain ⟨k, hk, rfl⟩ := List.mem_map.mp hd
    obtain ⟨env', g1, t, g2⟩ := inner k (List.mem_range.mp hk) _ ⟨t15, rfl⟩
    refine ⟨_, _, rfl, ?_, .val (.int k), t, g2⟩
    rw [← g1]
    simp [EV, rowD, hr]) _ ⟨x14, x15, rfl⟩
  obtain ⟨env', g1, t14, t15, rfl⟩ := outer
  refine ⟨t14, t15, ?_⟩
  rw [← g1]
  simp [l_16, EV, rowD, hr]
end
end L2.Mir.W

set_option Elab.async false
set_option linter.all false
set_option maxRecDepth 100000
namespace L2.Mir.W
open PySem PySem.Spec PyProof.Rows
section
variable {x2 x3 x4 x5 x6 x7 x8 x9 x10 x11 x12 x13 x14 x15 x16 x17 x18 x19 x20 : Sl} {s : DS}
theorem ints_of {P : Int → Prop} {ys : List D} (h : ∀ y ∈ ys, ∃ q, y = .int q ∧ P q) : ∃ l : List Int, ys = l.map D.int ∧ ∀ q ∈ l, P q := by
  induction ys with
  | nil => exact ⟨[], rfl, by simp⟩
  | cons y ys ih =>
    obtain ⟨q, rfl, hq⟩ := h y List.mem_cons_self
    obtain ⟨l, rfl, hl⟩ := ih fun z hz => h z (List.mem_cons_of_mem _ hz)
    exact ⟨q :: l, rfl, by simpa using ⟨hq, hl⟩⟩
theorem st_17 {l : List Rat} (hs : StateOk s) (hz : l.length ≤ 5) : ∃ (ns : List Int) (s' : DS), l_17 (EV x2 x3 x4 x5 x6 (.val (rowD l)) x8 x9 x10 x11 x12 x13 x14 x15 x16 x17 x18 x19 x20) s = .ok (.nx (EV x2 x3 x4 x5 x6 (.val (rowD l)) x8 x9 x10 x11 x12 x13 x14 x15 (.val (.lst (ns.map D.int))) x17 x18 x19 x20)) s' ∧ StateOk s' ∧ ns.length = l.length ∧ ∀ n ∈ ns, n.natAbs < 2 ^ 10 := by
  have hd := lcGo_draw (f := lcF (.n 10) tsYes (mBin opSub (mCall f__law_take (mCons (mVar 1) (mCons (mC (.int 21)) mNil))) (mC (.int 10))) (wipeE (hideE (EV x2 x3 x4 x5 x6 (.val (rowD l)) x8 x9 x10 x11 x12 x13 x14 x15 x16 x17 x18 x19 x20)) [10])) (P := fun y => ∃ q : Int, y = .int q ∧ q.natAbs < 2 ^ 10) (fun d s hs => by
    obtain ⟨r, s1, e1, h1, p1, p2⟩ := fTake_ok hs 21 (TakeOk.small (by omega))
    exact ⟨.int (r - 10), s1, by simp [EV, e1, f__law_take], h1, r - 10, rfl, by omega⟩) (l.map qD) s hs
  obtain ⟨ys, s2, e2, h2, h3, h4⟩ := hd
  obtain ⟨ns, rfl, hn⟩ := ints_of h4
  simp only [List.length_map] at h3
  refine ⟨ns, s2, ?_, h2, h3, hn⟩
  have hlen : LenOk l.length := LenOk.small (by omega)
  simp only [EV, rowD, hideE, List.map_cons, List.map_nil, Sl.hide] at e2
  simp [l_17, EV, rowD, hlen, e2, -lcF] 
  have e3 := e2
  simp [-lcF] at e3
  rw [e3]
  rfl
theorem st_18 : l_18 (EV x2 x3 x4 x5 x6 x7 x8 x9 x10 x11 x12 x13 x14 x15 x16 x17 x18 x19 x20) s = .ok (.nx (EV x2 x3 x4 x5 x6 x7 x8 x9 x10 x11 x12 x13 x14 x15 x16 (.val (qD 0)) x18 x19 x20)) s := by
  simp [l_18, EV, qD_zero]
noncomputable def bd_19 : MS := (sSet false 17 (mCall f__law_add (mCons (mVar 17) (mCons (mCall f__law_mul (mCons (mTup (mCons (mBin opIx (mVar 16) (mVar 14)) (mCons (mC (.int 1)) mNil))) (mCons (mBin opIx (mVar 7) (mVar 14)) mNil))) mNil))))
theorem go_19 {l : List Rat} {ns : List Int} (hl : ∀ q ∈ l, PartOk q) (hn : ∀ n ∈ ns, n.natAbs < 2 ^ 10) (hz : ns.length = l.length) (g : Nat → Rat) (hg : ∀ i (h1 : i < ns.length) (h2 : i < l.length), g i = l[i] * (ns[i] : Rat)) : ∀ (is : List Nat) (a : Rat) (m : Nat) (x14 : Sl), (∀ i ∈ is, i < l.length) → szQ m a → m + is.length * 52 ≤ 1800 →
    ∃ t, forGo (.n 14) bd_19 (is.map fun (i : Nat) => D.int i) (EV x2 x3 x4 x5 x6 (.val (rowD l)) x8 x9 x10 x11 x12 x13 x14 x15 (.val (.lst (ns.map D.int))) (.val (qD a)) x18 x19 x20) s = .ok (.nx (EV x2 x3 x4 x5 x6 (.val (rowD l)) x8 x9 x10 x11 x12 x13 t x15 (.val (.lst (ns.map D.int))) (.val (qD ((is.map g).foldl (· + ·) a))) x18 x19 x20)) s
  | [], a, m, x14, _, _, _ => ⟨x14, by simp [forGo]⟩
  | i :: is, a, m, x14, hi, ha, hm => by
    simp only [List.length_cons, Nat.add_mul] at hm
    have i1 : i < l.length := hi i List.mem_cons_self
    have i2 : i < ns.length := by omega
    have a1 := atI_getElem (xs := ns.map D.int) (i := i) (by simpa using i2)
    have a2 := atI_getElem (xs := l.map qD) (i := i) (by simpa using i1)
    simp only [List.getElem_map] at a1 a2
    have p1 := hl _ (List.getElem_mem i1)
    have p2 := hn _ (List.getElem_mem i2)
    have gi := hg i i2 i1
    generalize l[i] = x at *
    generalize ns[i] = y at *
    have b1 : opIx (.lst (ns.map D.int)) (.int i) s = .ok (.int y) s := by simp [a1]
    have b2 : opIx (.lst (l.map qD)) (.int i) s = .ok (qD x) s := by simp [a2]
    have sy := szQ_int p2 (by omega)
    have m1 := f__law_mul_ok sy p1.sz (by omega) s
    have e : (y : Rat) * x = g i := by rw [gi, Rat.mul_comm]
    have m2 := f__law_add_ok ha (sy.mul p1.sz) (by omega) s
    have sz := ha.add (sy.mul p1.sz)
    rw [e] at m1 m2 sz
    obtain ⟨t, h⟩ := go_19 hl hn hz g hg is (a + g i) (m + 52) (.val (.int i)) (fun j hj => hi j (List.mem_cons_of_mem _ hj)) (sz.mono (by omega)) (by omega)
    refine ⟨t, ?_⟩
    simp only [List.map_cons, forGo, List.foldl_cons]
    simp only [EV, rowD] at h
    simp [EV, rowD, bd_19, b1, b2, qD_int, m1, m2, -opIx]
    exact h
theorem st_19 {l : List Rat} {ns : List Int} (hl : ∀ q ∈ l, PartOk q) (hn : ∀ n ∈ ns, n.natAbs < 2 ^ 10) (hz : ns.length = l.length) (hz5 : l.length ≤ 5) : ∃ t, l_19 (EV x2 x3 x4 x5 x6 (.val (rowD l)) x8 x9 x10 x11 x12 x13 x14 x15 (.val (.lst (ns.map D.int))) (.val (qD 0)) x18 x19 x20) s = .ok (.nx (EV x2 x3 x4 x5 x6 (.val (rowD l)) x8 x9 x10 x11 x12 x13 t x15 (.val (.lst (ns.map D.int))) (.val (qD (dotL ns l))) x18 x19 x20)) s := by
  let g : Nat → Rat := fun i => if h1 : i < ns.length then (if h2 : i < l.length then l[i] * (ns[i] : Rat) else 0) else 0
  have hg : ∀ i (h1 : i < ns.length) (h2 : i < l.length), g i = l[i] * (ns[i] : Rat) := fun i h1 h2 => by
    show (if h1 : i < ns.length then (if h2 : i < l.length then l[i] * (ns[i] : Rat) else 0) else 0) = _
    rw [dif_pos h1, dif_pos h2]
  obtain ⟨t, h⟩ := go_19 (x2 := x2) (x3 := x3) (x4 := x4) (x5 := x5) (x6 := x6) (x8 := x8) (x9 := x9) (x10 := x10) (x11 := x11) (x12 := x12) (x13 := x13) (x15 := x15) (x18 := x18) (x19 := x19) (x20 := x20) (s := s) hl hn hz g hg (List.range l.length) 0 1 x14 (fun i hi => List.mem_range.mp hi) ⟨by decide, by decide⟩ (by simp; omega)
  have e : (List.range l.length).map g = List.zipWith (fun (n : Int) (q : Rat) => q * (n : Rat)) ns l := by
    apply List.ext_getElem
    · simp [hz]
    · intro i h1 h2
      simp only [List.length_map, List.length_range] at h1
      rw [List.getElem_map, List.getElem_zipWith, List.getElem_range]
      exact hg i (by omega) h1
  rw [e] at h
  refine ⟨t, ?_⟩
  have hr : RngOk (l.length : Int) := RngOk.len (by omega)
  unfold dotL
  rw [← h]
  simp [l_19, bd_19, EV, rowD, hr, rngD_nat]
theorem copy_ints (n : Nat) (l : List Int) (env : VE) (hn : n < env.length) (s : DS) : lcGo (lcF (.n n) tsYes (mVar n) env) (l.map D.int) s = .ok (l.map D.int) s := by
  refine lcGo_mapE fun q hq => ?_
  simp [hn]
theorem st_20 {l : List Rat} {ns : List Int} (hl : ∀ q ∈ l, PartOk q) (hn : ∀ n ∈ ns, n.natAbs < 2 ^ 10) (hz : ns.length = l.length) (hz5 : l.length ≤ 5) : l_20 (EV x2 x3 x4 x5 x6 (.val (rowD l)) x8 x9 x10 x11 x12 x13 x14 x15 (.val (.lst (ns.map D.int))) (.val (qD (dotL ns l))) x18 x19 x20) s = .ok (.nx (EV x2 x3 x4 x5 x6 (.val (rowD l)) x8 x9 x10 x11 x12 x13 x14 x15 (.val (.lst (ns.map D.int))) (.val (qD (dotL ns l))) x18 x19 x20)) s := by
  have d := f_dot_ok hz hn hl (by omega) s
  have hlen : LenOk l.length := LenOk.small (by omega)
  simp only [rowD] at d
  simp [l_20, EV, rowD, copy_row, copy_ints, hlen, hz, d, -lcF]
end
end L2.Mir.W

set_option Elab.async false
set_option linter.all false
set_option maxRecDepth 100000
namespace L2.Mir.W
open PySem PySem.Spec PyProof.Rows
section
variable {x2 x3 x4 x5 x6 x7 x8 x9 x10 x11 x12 x13 x14 x15 x16 x17 x18 x19 x20 : Sl} {s : DS}
theorem st_21 {p : Rat} {a : Int} (hp : PartOk p) (ha : a.natAbs ≤ 1000) : ∃ t, l_21 (EV (.val (qD p)) x3 x4 (.val (.int a)) x6 x7 x8 x9 x10 x11 x12 x13 x14 x15 x16 x17 x18 x19 x20) s = .ok (.nx (EV (.val (qD p)) x3 x4 (.val (.int a)) x6 x7 x8 x9 x10 x11 x12 x13 x14 x15 x16 x17 t x19 x20)) s := by
  let I : SE → Prop := fun env => ∃ t, env = EV (.val (qD p)) x3 x4 (.val (.int a)) x6 x7 x8 x9 x10 x11 x12 x13 x14 x15 x16 x17 t x19 x20
  have h := forGo_stay (p := .n 18) (body := (sIf (mCmpT opNe (mCall f_is_part (mCons (mVar 18) mNil)) (mCall f__law_is (mCons (mVar 18) mNil))) (sRet (mC (.bl false))) sNx)) (I := I) (s := s)
    (ds := [qD p, .lst [.int p.num, .int p.den], .tup [.int p.num, .int p.den, .int 1], .tup [.int p.num, .int (0 - p.den)], .tup [.int (2 * p.num + 2), .int 2], .tup [.int a, .int 0], .tup [.bl true, .int 1], .tup [.int 1, .bl true], .tup [.int 0, .int 2], .tup [.int 0, .int 1], .non, .int 3, .tup [.str (PySem.Str.ofString "1"), .int 2], .tup [.int a, .int 1], .tup []])
    (fun d hd env he => by
      obtain ⟨t, rfl⟩ := he
      have hk : Looks d := by
        have hd41 : (p.den : Int).natAbs < 2 ^ 41 := by simpa using hp.sz.2
        simp only [List.mem_cons, List.not_mem_nil, or_false] at hd
        rcases hd with rfl | rfl | rfl | rfl | rfl | rfl | rfl | rfl | rfl | rfl | rfl | rfl | rfl | rfl | rfl
        · exact looks_q hp.sz (by omega)
        · exact looks_lst _
        · exact looks_3 _ _ _
        · exact looks_int (k := 41) (by omega) (by omega)
        · exact looks_int (k := 41) (by omega) (by omega)
        · exact looks_int (k := 41) (by omega) (by omega)
        · exact looks_bi _ _
        · exact looks_ib _ _
        · exact looks_int (k := 41) (by omega) (by omega)
        · exact looks_int (k := 41) (by omega) (by omega)
        · exact looks_non
        · exact looks_i _
        · exact looks_si _ _
        · exact looks_int (k := 41) (by omega) (by omega)
        · exact looks_nil
      obtain ⟨k1, k2⟩ := hk s
      refine ⟨_, _, rfl, ?_, .val d, rfl⟩
      simp [EV, k1, k2]) _ ⟨x18, rfl⟩
  obtain ⟨env', g1, t, rfl⟩ := h
  refine ⟨t, ?_⟩
  rw [← g1]
  simp [l_21, EV, qD]
theorem st_22 {l : List Rat} (hz : l.length ≤ 5) : l_22 (EV x2 x3 x4 x5 x6 (.val (rowD l)) x8 x9 x10 x11 x12 x13 x14 x15 x16 x17 x18 x19 x20) s = .ok (.nx (EV x2 x3 x4 x5 x6 (.val (rowD l)) x8 x9 x10 x11 x12 x13 x14 x15 x16 x17 x18 (.val (.tup (l.map qD))) x20)) s := by
  have hlen : LenOk l.length := LenOk.small (by omega)
  simp [l_22, EV, rowD, hlen]
/-- values the last loop looks at -/
def Many (d : D) : Prop := (∃ xs, d = .tup xs ∧ xs.length ≤ 100 ∧ ∀ x ∈ xs, Looks x) ∨ (∃ xs, d = .lst xs) ∨ d = .non
noncomputable def bd_23 : MS := (sIf (mCmpT opNe (mCall f_are_parts (mCons (mVar 18) (mCons (mVar 20) mNil))) (mAnd (mIsi "tuple" (mVar 18)) (mAnd (mBin opEq (mCB bLen (mCons (mVar 18) mNil)) (mVar 20)) (mBin opEq (mCB bLen (mCons (mLc (.n 10) [10] (mSeq (mVar 18)) (mNotT (mTru (mCall f__law_is (mCons (mVar 10) mNil)))) (mVar 10)) mNil)) (mC (.int 0)))))) (sRet (mC (.bl false))) sNx)
theorem bd_23_ok {d : D} (h : Many d) (m : Int) : bd_23 (EV x2 x3 x4 x5 x6 x7 x8 x9 x10 x11 x12 x13 x14 x15 x16 x17 (.val d) x19 (.val (.int m))) s = .ok (.nx (EV x2 x3 x4 x5 x6 x7 x8 x9 x10 x11 x12 x13 x14 x15 x16 x17 (.val d) x19 (.val (.int m)))) s := by
  rcases h with ⟨xs, rfl, hz, hx⟩ | ⟨xs, rfl⟩ | rfl
  · have d1 := areParts_tup hx (by omega) m s
    by_cases c : (xs.length : Int) = m
    · have cp : ∀ env : VE, 10 < env.length → lcGo (lcF (.n 10) (mNotT (mTru (mCall f__law_is (mCons (mVar 10) mNil)))) (mVar 10) env) xs s = .ok (xs.filter fun d => !isPartD d) s := by
        intro env hn
        refine lcGo_filter fun d hd => ?_
        have k := (hx d hd s).2
        cases q : isPartD d <;> simp [hn, k, q]
      have e : (decide (((xs.filter fun d => !isPartD d).length : Int) = 0)) = xs.all isPartD := by
        rw [Bool.eq_iff_iff]
        simp
      have hlen : LenOk xs.length := LenOk.small (by omega)
      have hlen2 : LenOk (xs.filter fun d => !isPartD d).length := LenOk.small (Nat.le_trans (List.length_filter_le _ _) (by omega))
      simp only [c, decide_true, Bool.true_and] at d1
      generalize hf : xs.filter (fun d => !isPartD d) = f at *
      simp [bd_23, EV, d1, c, cp, e, hlen, hlen2, hf, -lcF]
      rw [← e, ← Bool.decide_coe (decide _)]
      simp
    · simp [bd_23, EV, d1, c, -lcF]
  · have d1 := areParts_lst xs m s
    simp [bd_23, EV, d1, -lcF]
  · have d1 := areParts_non m s
    simp [bd_23, EV, d1, -lcF]
theorem st_23 {p q r : Rat} {l : List Rat} (hp : PartOk p) (hq : PartOk q) (hr : PartOk r) (hl : ∀ q ∈ l, PartOk q) (hz : l.length ≤ 5) : ∃ t18 t20, l_23 (EV (.val (qD p)) (.val (qD q)) (.val (qD r)) x5 x6 x7 x8 x9 x10 x11 x12 x13 x14 x15 x16 x17 x18 (.val (.tup (l.map qD))) x20) s = .ok (.nx (EV (.val (qD p)) (.val (qD q)) (.val (qD r)) x5 x6 x7 x8 x9 x10 x11 x12 x13 x14 x15 x16 x17 t18 (.val (.tup (l.map qD))) t20)) s := by
  let I : SE → Prop := fun env => ∃ t18 t20, env = EV (.val (qD p)) (.val (qD q)) (.val (qD r)) x5 x6 x7 x8 x9 x10 x11 x12 x13 x14 x15 x16 x17 t18 (.val (.tup (l.map qD))) t20
  let J : D → SE → Prop := fun d env => ∃ t20, env = EV (.val (qD p)) (.val (qD q)) (.val (qD r)) x5 x6 x7 x8 x9 x10 x11 x12 x13 x14 x15 x16 x17 (.val d) (.val (.tup (l.map qD))) t20
  have hlen : LenOk l.length := LenOk.small (by omega)
  have inner : ∀ d, Many d → ∀ env, J d env → ∃ env', forGo (.n 20) bd_23 [.int l.length, .int 3] env s = .ok (.nx env') s ∧ J d env' := by
    intro d hm
    refine forGo_stay fun x hx env he => ?_
    obtain ⟨t, rfl⟩ := he
    obtain ⟨m, rfl⟩ : ∃ m, x = .int m := by
      simp only [List.mem_cons, List.not_mem_nil, or_false] at hx
      rcases hx with rfl | rfl <;> exact ⟨_, rfl⟩
    exact ⟨_, _, rfl, bd_23_ok hm m, .int m |> .val, rfl⟩
  have lq : ∀ x ∈ l.map qD, Looks x := fun x hx => by
    obtain ⟨q, hq, rfl⟩ := List.mem_map.mp hx
    exact looks_q (hl q hq).sz (by omega)
  have add : ∀ y, Looks y → Many (.tup (l.map qD ++ [y])) := fun y hy => .inl ⟨_, rfl, by simp; omega, fun x hx => by
    rcases List.mem_append.mp hx with h | h
    · exact lq x h
    · rw [List.mem_singleton.mp h]; exact hy⟩
  have h := forGo_stay (p := .n 18) (body := sFor (.n 20) (mSeq (mTup (mCons (mCB bLen (mCons (mVar 19) mNil)) (mCons (mC (.int 3)) mNil)))) bd_23) (I := I) (s := s)
    (ds := [.tup (l.map qD), .lst (l.map qD), .tup (l.map qD ++ [.non]), .tup (l.map qD ++ [.tup [.int 2, .int 4]]), .tup (l.map qD ++ [qD p]), .non, .tup [], .tup [qD p, qD q, qD r]])
    (fun d hd env he => by
      obtain ⟨t18, t20, rfl⟩ := he
      have hm : Many d := by
        simp only [List.mem_cons, List.not_mem_nil, or_false] at hd
        rcases hd with rfl | rfl | rfl | rfl | rfl | rfl | rfl | rfl
        · exact .inl ⟨_, rfl, by simp; omega, lq⟩
        · exact .inr (.inl ⟨_, rfl⟩)
        · exact add _ looks_non
        · exact add _ (looks_int (k := 41) (by omega) (by omega))
        · exact add _ (looks_q hp.sz (by omega))
        · exact .inr (.inr rfl)
        · exact .inl ⟨_, rfl, by simp, by simp⟩
        · refine .inl ⟨_, rfl, by simp, fun x hx => ?_⟩
          simp only [List.mem_cons, List.not_mem_nil, or_false] at hx
          rcases hx with rfl | rfl | rfl
          · exact looks_q hp.sz (by omega)
          · exact looks_q hq.sz (by omega)
          · exact looks_q hr.sz (by omega)
      obtain ⟨env', g1, t, g2⟩ := inner d hm _ ⟨t20, rfl⟩
      refine ⟨_, _, rfl, ?_, .val d, t, g2⟩
      rw [← g1]
      simp [EV]) _ ⟨x18, x20, rfl⟩
  obtain ⟨env', g1, t18, t20, rfl⟩ := h
  refine ⟨t18, t20, ?_⟩
  rw [← g1]
  have hlen1 : LenOk (l.length + 1) := LenOk.small (by omega)
  simp [l_23, bd_23, EV, hlen, hlen1]
end
theorem law_ok : lawOk 21 1 m_law := by
  intro ns _
  have hs := stateOk_st ns
  have e0 : (List.replicate 21 Sl.no).set 1 (.val .st) = EV .no .no .no .no .no .no .no .no .no .no .no .no .no .no .no .no .no .no .no := rfl
  rw [e0]
  generalize (some (0, stCells ns) : DS) = s at *
  obtain ⟨p, q, r, s1, e1, h1, hp, hq, hr⟩ := st_1 (s := s) hs
  obtain ⟨a, b, s2, e2, h2, ha, hb⟩ := st_2 (s := s1) h1
  obtain ⟨l, s3, e3, h3, hz, hl⟩ := st_7 (s := s2) h2
  obtain ⟨t9, e9⟩ := st_9 (s := s3) hl hz
  obtain ⟨t14, t15, e16⟩ := st_16 (s := s3) hl hz
  obtain ⟨ms, s4, e17, h4, hm, hn⟩ := st_17 (s := s3) h3 hz
  obtain ⟨t19, e19⟩ := st_19 (s := s4) hl hn hm hz
  obtain ⟨t21, e21⟩ := st_21 (s := s4) hp ha
  obtain ⟨t22, t23, e23⟩ := st_23 (s := s4) hp hq hr hl hz
  refine ⟨s4, ?_⟩
  unfold m_law
  rw [sSeq_nx e1, sSeq_nx e2, sSeq_nx (st_3 ha hb), sSeq_nx (st_4 hp hq), sSeq_nx (st_5 hp hq), sSeq_nx (st_6 hp hq), sSeq_nx e3, sSeq_nx st_8, sSeq_nx e9, sSeq_nx (st_10 hl hz), sSeq_nx (st_11 hp), sSeq_nx (st_12 hp), sSeq_nx (st_13 hp), sSeq_nx (st_14 hl hz), sSeq_nx (st_15 hl hz), sSeq_nx e16, sSeq_nx e17, sSeq_nx st_18, sSeq_nx e19, sSeq_nx (st_20 hl hn hm hz), sSeq_nx e21, sSeq_nx (st_22 hz), sSeq_nx e23]
  rfl
end L2.Mir.W

set_option Elab.async false
set_option linter.all false
set_option maxRecDepth 100000
open PySem PySem.W PyProof.Rows
set_option maxHeartbeats 0 in
theorem PySem.Challenge.cw_bendwright_k13_whole_parts_of_numbers_holds : PySem.Challenge.rw_bendwright_k13_whole_parts_of_numbers.Holds := by
  w_on; o_law; k_head; (case hw => w_witness2)
  k_fill
  refine L2.walk_of (l := PySem.Challenge.rw_bendwright_k13_whole_parts_of_numbers) (n := 63) (k := 6) (x := "script") (CX := fun _ => L2.CX0) (sp := fun w => L2.Mir.spLaw _) rfl (by decide) rfl ⟨rfl, by decide, by decide⟩ (fun w h Y => PySem.W.kIn_of Y) ?F (fun _ _ a ns hl _ hS => ⟨a, ns, rfl, hS, hl, fun _ => rfl⟩) (fun _ _ _ _ _ h => h)
  case F =>
    intro w mg fa h KX G hmg
    refine' L2.Mir.W.all_mk KX G hmg ?a0 ?l0 ?c0 ?k0 ?a1 ?l1 ?c1 ?k1 ?a2 ?l2 ?c2 ?k2 ?a3 ?l3 ?c3 ?k3 ?a4 ?l4 ?c4 ?k4 ?a5 ?l5 ?c5 ?k5 ?a6 ?l6 ?c6 ?k6 ?a7 ?l7 ?c7 ?k7 ?a8 ?l8 ?c8 ?k8 ?a9 ?l9 ?c9 ?k9 ?a10 ?l10 ?c10 ?k10 ?a11 ?l11 ?c11 ?k11 ?a12 ?l12 ?c12 ?k12 ?a13 ?l13 ?c13 ?k13 ?a14 ?l14 ?c14 ?k14 ?a15 ?l15 ?c15 ?k15 ?a16 ?l16 ?c16 ?k16 ?a17 ?l17 ?c17 ?k17 ?a18 ?l18 ?c18 ?k18 ?a19 ?l19 ?c19 ?k19 ?a20 ?l20 ?c20 ?k20 ?a21 ?l21 ?c21 ?k21 ?a22 ?l22 ?c22 ?k22 ?a23 ?l23 ?c23 ?k23 ?a24 ?l24 ?c24 ?k24 ?a25 ?l25 ?c25 ?k25 ?a26 ?l26 ?c26 ?k26 ?a27 ?l27 ?c27 ?k27 ?a28 ?l28 ?c28 ?k28 ?z_abs ?z_all ?z_bool ?z_int ?z_isinstance ?z_len ?z_list ?z_max ?z_range ?z_tuple L2.Mir.W.law_ok
    (case a0 => k_is); (case l0 => k_is); (case c0 => k_is); (case k0 => k_is); (case a1 => k_is); (case l1 => k_is); (case c1 => k_is); (case k1 => k_is); (case a2 => k_is); (case l2 => k_is); (case c2 => k_is); (case k2 => k_is); (case a3 => k_is); (case l3 => k_is); (case c3 => k_is); (case k3 => k_is); (case a4 => k_is); (case l4 => k_is); (case c4 => k_is); (case k4 => k_is); (case a5 => k_is); (case l5 => k_is); (case c5 => k_is); (case k5 => k_is); (case a6 => k_is); (case l6 => k_is); (case c6 => k_is); (case k6 => k_is); (case a7 => k_is); (case l7 => k_is); (case c7 => k_is); (case k7 => k_is); (case a8 => k_is); (case l8 => k_is); (case c8 => k_is); (case k8 => k_is); (case a9 => k_is); (case l9 => k_is); (case c9 => k_is); (case k9 => k_is); (case a10 => k_is); (case l10 => k_is); (case c10 => k_is); (case k10 => k_is); (case a11 => k_is); (case l11 => k_is); (case c11 => k_is); (case k11 => k_is); (case a12 => k_is); (case l12 => k_is); (case c12 => k_is); (case k12 => k_is); (case a13 => k_is); (case l13 => k_is); (case c13 => k_is); (case k13 => k_is); (case a14 => k_is); (case l14 => k_is); (case c14 => k_is); (case k14 => k_is); (case a15 => k_is); (case l15 => k_is); (case c15 => k_is); (case k15 => k_is); (case a16 => k_is); (case l16 => k_is); (case c16 => k_is); (case k16 => k_is); (case a17 => k_is); (case l17 => k_is); (case c17 => k_is); (case k17 => k_is); (case a18 => k_is); (case l18 => k_is); (case c18 => k_is); (case k18 => k_is); (case a19 => k_is); (case l19 => k_is); (case c19 => k_is); (case k19 => k_is); (case a20 => k_is); (case l20 => k_is); (case c20 => k_is); (case k20 => k_is); (case a21 => k_is); (case l21 => k_is); (case c21 => k_is); (case k21 => k_is); (case a22 => k_is); (case l22 => k_is); (case c22 => k_is); (case k22 => k_is); (case a23 => k_is); (case l23 => k_is); (case c23 => k_is); (case k23 => k_is); (case a24 => k_is); (case l24 => k_is); (case c24 => k_is); (case k24 => k_is); (case a25 => k_is); (case l25 => k_is); (case c25 => k_is); (case k25 => k_is); (case a26 => k_is); (case l26 => k_is); (case c26 => k_is); (case k26 => k_is); (case a27 => k_is); (case l27 => k_is); (case c27 => k_is); (case k27 => k_is); (case a28 => k_is); (case l28 => k_is); (case c28 => k_is); (case k28 => k_is); (case z_abs => k_is); (case z_all => k_is); (case z_bool => k_is); (case z_int => k_is); (case z_isinstance => k_is); (case z_len => k_is); (case z_list => k_is); (case z_max => k_is); (case z_range => k_is); (case z_tuple => k_is)

