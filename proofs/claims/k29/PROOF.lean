import PyProof.Rows.All
import Wide.All
import OpenK.AllK
import Wide.FinOn
import HandS.ForMost
import HandS.ForExc
import HandS.IsInst
import HandS.Wide
import HandS.Style
import KE.KExcSuper
import HandS.ExcInit
import HandS.ExcField
import HandS.TryOnly
import HandS.CallSlots
import HandS.Deep
import PyProof.AutoSeq1
import HandS.Flow
import HandS.TupMul
import HandS.SortInts
import HandS.Conv
import PySem.Challenge.RW_bendwright_k29_whole_rounded_steps
set_option Elab.async false
set_option linter.all false
set_option maxRecDepth 100000
namespace L2.Mir
open PySem PySem.Spec PyProof.Rows
noncomputable section

/-- data: what a Python value is, without addresses. `st` is the draws' state -/
inductive D where
  | non | bl (b : Bool) | int (i : Int) | str (x : Str) | tup (xs : List D) | lst (xs : List D) | st | fn (x : Str)
  | dic (ks : List Key) (vs : List D) | dicT (ks : List (List Key)) (vs : List D)

/-- the draws' state: the place, the cells -/
abbrev DS := Option (Int × List Int)
/-- an exception: its kind (a number of one's own), its fields -/
structure Xc where
  kind : Nat
  args : List D
inductive Res (α : Type) where
  | ok (a : α) (s : DS) | exc (x : Xc) (s : DS) | no
abbrev M (α : Type) := DS → Res α
def Res.bind {α β : Type} (r : Res α) (f : α → DS → Res β) : Res β := match r with
  | .ok a s => f a s
  | .exc x s => .exc x s
  | .no => .no
@[simp] theorem bind_ok {α β : Type} (a : α) (s : DS) (f : α → DS → Res β) : (Res.ok a s).bind f = f a s := rfl
@[simp] theorem bind_exc {α β : Type} (x : Xc) (s : DS) (f : α → DS → Res β) : (Res.exc x s : Res α).bind f = .exc x s := rfl
@[simp] theorem bind_no {α β : Type} (f : α → DS → Res β) : (Res.no : Res α).bind f = .no := rfl

/-! ### bounds that a computation asks (kept shut: simp does not look in) -/
def LenOk (n : Nat) : Prop := n ≤ sizeLine
instance (n : Nat) : Decidable (LenOk n) := Classical.propDecidable _
@[simp] theorem LenOk.small {n : Nat} (h : n ≤ 16777216) : LenOk n := by unfold LenOk; rw [sizeLine_eq]; exact h
theorem LenOk.le {n : Nat} (h : LenOk n) : n ≤ sizeLine := h
def DivOk (j : Int) : Prop := 0 < j ∧ j.natAbs.log2 < 9000
instance (n : Int) : Decidable (DivOk n) := Classical.propDecidable _
theorem log2_lt_of_pow {n k : Nat} (h : n < 2 ^ k) (hk : 0 < k) : n.log2 < k := by
  by_cases e : n = 0
  · subst e; simpa using hk
  · exact (Nat.log2_lt e).mpr h
theorem DivOk.of {j : Int} {k : Nat} (h0 : 0 < j) (h : j.natAbs < 2 ^ k) (hk : k ≤ 9000) : DivOk j := by
  refine ⟨h0, ?_⟩
  have hk0 : 0 < k := by
    rcases Nat.eq_zero_or_pos k with e | e
    · subst e; simp at h; omega
    · exact e
  have := log2_lt_of_pow h hk0
  omega
@[simp] theorem DivOk.small {j : Int} (h0 : 0 < j) (h1 : j < 9223372036854775808) : DivOk j := DivOk.of (k := 63) h0 (by omega) (by decide)
def RngOk (j : Int) : Prop := -4611686018427387904 ≤ j ∧ j < 4611686018427387904
instance (n : Int) : Decidable (RngOk n) := Classical.propDecidable _
@[simp] theorem RngOk.small {j : Int} (h0 : -4611686018427387904 ≤ j) (h1 : j < 4611686018427387904) : RngOk j := ⟨by omega, by omega⟩
@[simp] theorem RngOk.len {n : Nat} (h : n ≤ 16777216) : RngOk (n : Int) := ⟨by omega, by omega⟩
def TakeOk (j : Int) : Prop := j < 2 ∨ j.natAbs.log2 < 9000
instance (n : Int) : Decidable (TakeOk n) := Classical.propDecidable _
theorem TakeOk.of {j : Int} {k : Nat} (h : j.natAbs < 2 ^ k) (hk : k ≤ 9000) : TakeOk j := by
  by_cases h0 : 0 < j
  · exact .inr (DivOk.of h0 h hk).2
  · exact .inl (by omega)
@[simp] theorem TakeOk.small {j : Int} (h1 : j < 9223372036854775808) : TakeOk j := by
  by_cases h0 : 0 < j
  · exact .inr (DivOk.small h0 h1).2
  · exact .inl (by omega)

/-- what is frozen, where the draws' state lies -/
structure Wd where
  F : Addr → Prop
  S : Option (Addr × Addr)
def Wd.isS (W : Wd) (a : Addr) : Prop := ∃ p, W.S = some p ∧ (a = p.1 ∨ a = p.2)

mutual
def Rep (K : PySem.W.Frag) (W : Wd) (H : Hp) : D → V → Prop
  | .non, v => v = .non
  | .bl b, v => v = .bl b
  | .int i, v => v = .int i
  | .str x, v => v = .str x
  | .tup ds, v => ∃ a vs, v = .ref a ∧ SqT K H a vs ∧ Reps K W H ds vs
  | .lst ds, v => ∃ a vs, v = .ref a ∧ H a = some (.lst vs) ∧ W.F a ∧ Reps K W H ds vs
  | .st, v => ∃ p, W.S = some p ∧ v = .ref p.1
  | .fn x, v => ∃ a, v = .ref a ∧ PySem.W.nsIn K mainGlobals x = some (some (.ref a))
  | .dic ks ds, v => ∃ a vs, v = .ref a ∧ H a = some (.dK (ks.zip vs)) ∧ W.F a ∧ ks.length = ds.length ∧ Reps K W H ds vs
  | .dicT ks ds, v => ∃ a vs, v = .ref a ∧ H a = some (.dT (ks.zip vs)) ∧ W.F a ∧ ks.length = ds.length ∧ Reps K W H ds vs
def Reps (K : PySem.W.Frag) (W : Wd) (H : Hp) : List D → List V → Prop
  | [], vs => vs = []
  | d :: ds, vs => ∃ v r, vs = v :: r ∧ Rep K W H d v ∧ Reps K W H ds r
end

structure Ext (W : Wd) (H : Hp) (W' : Wd) (H' : Hp) : Prop where
  keep : ∀ a o, H a = some o → ¬ W.isS a → H' a = some o
  tups : ∀ a xs, Rd H a (.tup xs) → Rd H' a (.tup xs)
  frs : ∀ a o, W.F a → H a = some o → H' a = some o
  dom : ∀ a, H' a = none → H a = none
  fsub : ∀ a, W.F a → W'.F a
  fnew : ∀ a, W'.F a → W.F a ∨ H a = none
  ssub : ∀ p, W.S = some p → W'.S = some p
  snew : ∀ p, W'.S = some p → W.S = some p ∨ (H p.1 = none ∧ H p.2 = none)

theorem Ext.refl (W : Wd) (H : Hp) : Ext W H W H :=
  ⟨fun _ _ h _ => h, fun _ _ h => h, fun _ _ _ h => h, fun _ h => h, fun _ h => h, fun _ h => .inl h, fun _ h => h, fun _ h => .inl h⟩
theorem none_of_dom {H H' : Hp} (d : ∀ a, H' a = none → H a = none) {a : Addr} {o : HO} (h : H a = some o) : ∃ u, H' a = some u := by
  cases q : H' a with
  | none => rw [d a q] at h; cases h
  | some u => exact ⟨u, rfl⟩
theorem Ext.isS {W W' : Wd} {H H' : Hp} (e : Ext W H W' H') {a : Addr} {o : HO} (h : H a = some o) (n : ¬ W.isS a) : ¬ W'.isS a := by
  rintro ⟨p, hp, ha⟩
  rcases e.snew p hp with q | ⟨q1, q2⟩
  · exact n ⟨p, q, ha⟩
  · rcases ha with rfl | rfl
    · rw [q1] at h; cases h
    · rw [q2] at h; cases h
theorem Ext.trans {W W1 W2 : Wd} {H H1 H2 : Hp} (a : Ext W H W1 H1) (b : Ext W1 H1 W2 H2) : Ext W H W2 H2 where
  keep := fun x o h n => b.keep x o (a.keep x o h n) (a.isS h n)
  tups := fun x xs h => b.tups x xs (a.tups x xs h)
  frs := fun x o f h => b.frs x o (a.fsub x f) (a.frs x o f h)
  dom := fun x h => a.dom x (b.dom x h)
  fsub := fun x h => b.fsub x (a.fsub x h)
  fnew := fun x h => by
    rcases b.fnew x h with q | q
    · exact a.fnew x q
    · exact .inr (a.dom x q)
  ssub := fun p h => b.ssub p (a.ssub p h)
  snew := fun p h => by
    rcases b.snew p h with q | ⟨q1, q2⟩
    · exact a.snew p q
    · exact .inr ⟨a.dom _ q1, a.dom _ q2⟩

theorem Ext.seqT {K : PySem.W.Frag} {W W' : Wd} {H H' : Hp} (e : Ext W H W' H') {a : Addr} {xs : List V} (h : SqT K H a xs) : SqT K H' a xs := by
  rcases h with h | h
  · exact .inl (e.tups _ _ h)
  · exact .inr h

/-- what a representation leans on -/
structure Mn (W : Wd) (H : Hp) (W' : Wd) (H' : Hp) : Prop where
  tups : ∀ a xs, Rd H a (.tup xs) → Rd H' a (.tup xs)
  frs : ∀ a o, W.F a → H a = some o → H' a = some o
  fsub : ∀ a, W.F a → W'.F a
  ssub : ∀ p, W.S = some p → W'.S = some p
theorem Ext.mn {W W' : Wd} {H H' : Hp} (e : Ext W H W' H') : Mn W H W' H' := ⟨e.tups, e.frs, e.fsub, e.ssub⟩
theorem Mn.seqT {K : PySem.W.Frag} {W W' : Wd} {H H' : Hp} (e : Mn W H W' H') {a : Addr} {xs : List V} (h : SqT K H a xs) : SqT K H' a xs := by
  rcases h with h | h
  · exact .inl (e.tups _ _ h)
  · exact .inr h
mutual
theorem Rep.mn {K : PySem.W.Frag} {W W' : Wd} {H H' : Hp} (e : Mn W H W' H') : ∀ (d : D) (v : V), Rep K W H d v → Rep K W' H' d v
  | .non, _, h => by simpa [Rep] using h
  | .bl _, _, h => by simpa [Rep] using h
  | .int _, _, h => by simpa [Rep] using h
  | .str _, _, h => by simpa [Rep] using h
  | .tup ds, _, h => by
    simp only [Rep] at h ⊢
    obtain ⟨a, vs, rfl, hs, hr⟩ := h
    exact ⟨a, vs, rfl, e.seqT hs, Reps.mn e ds vs hr⟩
  | .lst ds, _, h => by
    simp only [Rep] at h ⊢
    obtain ⟨a, vs, rfl, hs, f, hr⟩ := h
    exact ⟨a, vs, rfl, e.frs _ _ f hs, e.fsub _ f, Reps.mn e ds vs hr⟩
  | .fn _, _, h => by simpa [Rep] using h
  | .st, _, h => by
    simp only [Rep] at h ⊢
    obtain ⟨p, hp, rfl⟩ := h
    exact ⟨p, e.ssub _ hp, rfl⟩
  | .dic ks ds, _, h => by
    simp only [Rep] at h ⊢
    obtain ⟨a, vs, rfl, hs, f, hl, hr⟩ := h
    exact ⟨a, vs, rfl, e.frs _ _ f hs, e.fsub _ f, hl, Reps.mn e ds vs hr⟩
  | .dicT ks ds, _, h => by
    simp only [Rep] at h ⊢
    obtain ⟨a, vs, rfl, hs, f, hl, hr⟩ := h
    exact ⟨a, vs, rfl, e.frs _ _ f hs, e.fsub _ f, hl, Reps.mn e ds vs hr⟩
theorem Reps.mn {K : PySem.W.Frag} {W W' : Wd} {H H' : Hp} (e : Mn W H W' H') : ∀ (ds : List D) (vs : List V), Reps K W H ds vs → Reps K W' H' ds vs
  | [], _, h => by simpa [Reps] using h
  | d :: ds, _, h => by
    simp only [Reps] at h ⊢
    obtain ⟨v, r, rfl, h1, h2⟩ := h
    exact ⟨v, r, rfl, Rep.mn e d v h1, Reps.mn e ds r h2⟩
end
theorem Rep.ext {K : PySem.W.Frag} {W W' : Wd} {H H' : Hp} (e : Ext W H W' H') (d : D) (v : V) (h : Rep K W H d v) : Rep K W' H' d v := Rep.mn e.mn d v h
theorem Reps.ext {K : PySem.W.Frag} {W W' : Wd} {H H' : Hp} (e : Ext W H W' H') (ds : List D) (vs : List V) (h : Reps K W H ds vs) : Reps K W' H' ds vs := Reps.mn e.mn ds vs h

/-- the draws' state is held -/
def WS (W : Wd) (s : DS) (H : Hp) : Prop := (∀ a, W.F a → ∃ o, H a = some o) ∧ ((W.S = none ∧ s = none) ∨ ∃ (sa ca : Addr) (i : Int) (cells : List Int), W.S = some (sa, ca) ∧ s = some (i, cells) ∧
  H sa = some (.lst [.int i, .ref ca]) ∧ H ca = some (.lst (cells.map V.int)) ∧ sa ≠ ca ∧ ¬ W.F sa ∧ ¬ W.F ca)

abbrev VE := List (Option D)
def EnvR (K : PySem.W.Frag) (W : Wd) (H : Hp) (σ : St) (env : VE) : Prop :=
  σ.length = env.length ∧ ∀ (i : Nat) (d : D), env[i]? = some (some d) → ∃ v, σ[i]? = some (some v) ∧ Rep K W H d v
theorem EnvR.ext {K : PySem.W.Frag} {W W' : Wd} {H H' : Hp} {σ : St} {env : VE} (h : EnvR K W H σ env) (e : Ext W H W' H') : EnvR K W' H' σ env :=
  ⟨h.1, fun i d q => let ⟨v, h1, h2⟩ := h.2 i d q; ⟨v, h1, h2.ext e d v⟩⟩

/-- what an exception is, by value: kind, fields (filled in where a text raises) -/
abbrev XR := PySem.W.Frag → Xc → Value → Option Addr → Hp → Prop
/-- the context's own: what stands written, the exceptions' form, the wish -/
structure Gx where
  K : PySem.W.Frag
  xr : XR
  E : XK
def Aft (G : Gx) (W : Wd) (H : Hp) (r : Res D) (Q : VK) : Prop := match r with
  | .ok d s' => ∀ W' H' v, Ext W H W' H' → WS W' s' H' → Rep G.K W' H' d v → Q v H'
  | .exc x s' => ∀ W' H' c dd, Ext W H W' H' → WS W' s' H' → G.xr G.K x c dd H' → G.E c dd H'
  | .no => False
theorem Aft.ext {G : Gx} {W W' : Wd} {H H' : Hp} {r : Res D} {Q : VK} (e : Ext W H W' H') (h : Aft G W H r Q) : Aft G W' H' r Q := by
  cases r with
  | ok d s => exact fun W2 H2 v e2 ws rp => h W2 H2 v (e.trans e2) ws rp
  | exc x s => exact fun W2 H2 c dd e2 ws rp => h W2 H2 c dd (e.trans e2) ws rp
  | no => exact h
/-- the reading by a mirror -/
def tM (G : Gx) (m : VE → M D) : TE := fun σ H Q => ∃ W env s, EnvR G.K W H σ env ∧ WS W s H ∧ Aft G W H (m env s) Q
/-- an expression and its mirror -/
abbrev EE (X : Cx) (G : Gx) (e : Expr) (m : VE → M D) : Prop := PE X e (tM G m)
theorem pe_imp {X : Cx} {e : Expr} {t t' : TE} (h : PE X e t) (i : ∀ σ H Q, t' σ H Q → t σ H Q) : PE X e t' := ⟨fun pins s σ H Q I q => h.run pins s σ H Q I (i σ H Q q)⟩
theorem pt_imp {X : Cx} {e : Expr} {t t' : TT} (h : PT X e t) (i : ∀ σ H Q, t' σ H Q → t σ H Q) : PT X e t' := ⟨fun pins s σ H Q I q => h.run pins s σ H Q I (i σ H Q q)⟩
theorem pa_imp {X : Cx} {e : List Expr} {t t' : TA} (h : PA X e t) (i : ∀ σ H Q, t' σ H Q → t σ H Q) : PA X e t' := ⟨fun pos pins s σ H Q I q => h.run pos pins s σ H Q I (i σ H Q q)⟩

/-- lists of values -/
def AftL (G : Gx) (W : Wd) (H : Hp) (r : Res (List D)) (Q : List V → Hp → Prop) : Prop := match r with
  | .ok ds s' => ∀ W' H' vs, Ext W H W' H' → WS W' s' H' → Reps G.K W' H' ds vs → Q vs H'
  | .exc x s' => ∀ W' H' c dd, Ext W H W' H' → WS W' s' H' → G.xr G.K x c dd H' → G.E c dd H'
  | .no => False
theorem AftL.ext {G : Gx} {W W' : Wd} {H H' : Hp} {r : Res (List D)} {Q : List V → Hp → Prop} (e : Ext W H W' H') (h : AftL G W H r Q) : AftL G W' H' r Q := by
  cases r with
  | ok d s => exact fun W2 H2 v e2 ws rp => h W2 H2 v (e.trans e2) ws rp
  | exc x s => exact fun W2 H2 c dd e2 ws rp => h W2 H2 c dd (e.trans e2) ws rp
  | no => exact h
def tML (G : Gx) (m : VE → M (List D)) : TA := fun σ H Q => ∃ W env s, EnvR G.K W H σ env ∧ WS W s H ∧ AftL G W H (m env s) Q
abbrev EA (X : Cx) (G : Gx) (es : List Expr) (m : VE → M (List D)) : Prop := PA X es (tML G m)
/-- tests -/
def AftT (G : Gx) (W : Wd) (H : Hp) (r : Res Bool) (Q : Bool → Hp → Prop) : Prop := match r with
  | .ok b s' => ∀ W' H', Ext W H W' H' → WS W' s' H' → Q b H'
  | .exc x s' => ∀ W' H' c dd, Ext W H W' H' → WS W' s' H' → G.xr G.K x c dd H' → G.E c dd H'
  | .no => False
theorem AftT.ext {G : Gx} {W W' : Wd} {H H' : Hp} {r : Res Bool} {Q : Bool → Hp → Prop} (e : Ext W H W' H') (h : AftT G W H r Q) : AftT G W' H' r Q := by
  cases r with
  | ok d s => exact fun W2 H2 e2 ws => h W2 H2 (e.trans e2) ws
  | exc x s => exact fun W2 H2 c dd e2 ws rp => h W2 H2 c dd (e.trans e2) ws rp
  | no => exact h
def tMT (G : Gx) (m : VE → M Bool) : TT := fun σ H Q => ∃ W env s, EnvR G.K W H σ env ∧ WS W s H ∧ AftT G W H (m env s) Q
abbrev ET (X : Cx) (G : Gx) (e : Expr) (m : VE → M Bool) : Prop := PT X e (tMT G m)

section
variable {G : Gx} {W : Wd} {H : Hp} {σ : St} {env : VE} {s : DS}
/-- the reading of a first part, and then -/
theorem tM_bind {m : VE → M D} {f : D → DS → Res D} {Q : VK} {R : VK} (he : EnvR G.K W H σ env) (hs : WS W s H) (h : Aft G W H ((m env s).bind f) Q)
    (k : ∀ W' H' v d s', Ext W H W' H' → EnvR G.K W' H' σ env → WS W' s' H' → Rep G.K W' H' d v → m env s = .ok d s' → Aft G W' H' (f d s') Q → R v H') : tM G m σ H R := by
  refine ⟨W, env, s, he, hs, ?_⟩
  cases q : m env s with
  | ok d s' =>
    rw [q] at h
    exact fun W' H' v e ws rp => k W' H' v d s' e (he.ext e) ws rp q (Aft.ext e h)
  | exc x s' => rw [q] at h; exact h
  | no => rw [q] at h; exact h
theorem tM_bindL {m : VE → M D} {f : D → DS → Res (List D)} {Q : List V → Hp → Prop} {R : VK} (he : EnvR G.K W H σ env) (hs : WS W s H) (h : AftL G W H ((m env s).bind f) Q)
    (k : ∀ W' H' v d s', Ext W H W' H' → EnvR G.K W' H' σ env → WS W' s' H' → Rep G.K W' H' d v → m env s = .ok d s' → AftL G W' H' (f d s') Q → R v H') : tM G m σ H R := by
  refine ⟨W, env, s, he, hs, ?_⟩
  cases q : m env s with
  | ok d s' =>
    rw [q] at h
    exact fun W' H' v e ws rp => k W' H' v d s' e (he.ext e) ws rp q (AftL.ext e h)
  | exc x s' => rw [q] at h; exact h
  | no => rw [q] at h; exact h
theorem tM_bindT {m : VE → M D} {f : D → DS → Res Bool} {Q : Bool → Hp → Prop} {R : VK} (he : EnvR G.K W H σ env) (hs : WS W s H) (h : AftT G W H ((m env s).bind f) Q)
    (k : ∀ W' H' v d s', Ext W H W' H' → EnvR G.K W' H' σ env → WS W' s' H' → Rep G.K W' H' d v → m env s = .ok d s' → AftT G W' H' (f d s') Q → R v H') : tM G m σ H R := by
  refine ⟨W, env, s, he, hs, ?_⟩
  cases q : m env s with
  | ok d s' =>
    rw [q] at h
    exact fun W' H' v e ws rp => k W' H' v d s' e (he.ext e) ws rp q (AftT.ext e h)
  | exc x s' => rw [q] at h; exact h
  | no => rw [q] at h; exact h
theorem tML_bind {m : VE → M (List D)} {f : List D → DS → Res D} {Q : VK} {R : List V → Hp → Prop} (he : EnvR G.K W H σ env) (hs : WS W s H) (h : Aft G W H ((m env s).bind f) Q)
    (k : ∀ W' H' vs ds s', Ext W H W' H' → EnvR G.K W' H' σ env → WS W' s' H' → Reps G.K W' H' ds vs → m env s = .ok ds s' → Aft G W' H' (f ds s') Q → R vs H') : tML G m σ H R := by
  refine ⟨W, env, s, he, hs, ?_⟩
  cases q : m env s with
  | ok d s' =>
    rw [q] at h
    exact fun W' H' v e ws rp => k W' H' v d s' e (he.ext e) ws rp q (Aft.ext e h)
  | exc x s' => rw [q] at h; exact h
  | no => rw [q] at h; exact h
theorem tML_bindL {m : VE → M (List D)} {f : List D → DS → Res (List D)} {Q : List V → Hp → Prop} {R : List V → Hp → Prop} (he : EnvR G.K W H σ env) (hs : WS W s H) (h : AftL G W H ((m env s).bind f) Q)
    (k : ∀ W' H' vs ds s', Ext W H W' H' → EnvR G.K W' H' σ env → WS W' s' H' → Reps G.K W' H' ds vs → m env s = .ok ds s' → AftL G W' H' (f ds s') Q → R vs H') : tML G m σ H R := by
  refine ⟨W, env, s, he, hs, ?_⟩
  cases q : m env s with
  | ok d s' =>
    rw [q] at h
    exact fun W' H' v e ws rp => k W' H' v d s' e (he.ext e) ws rp q (AftL.ext e h)
  | exc x s' => rw [q] at h; exact h
  | no => rw [q] at h; exact h
theorem tMT_bind {m : VE → M Bool} {f : Bool → DS → Res D} {Q : VK} {R : Bool → Hp → Prop} (he : EnvR G.K W H σ env) (hs : WS W s H) (h : Aft G W H ((m env s).bind f) Q)
    (k : ∀ W' H' b s', Ext W H W' H' → EnvR G.K W' H' σ env → WS W' s' H' → m env s = .ok b s' → Aft G W' H' (f b s') Q → R b H') : tMT G m σ H R := by
  refine ⟨W, env, s, he, hs, ?_⟩
  cases q : m env s with
  | ok d s' =>
    rw [q] at h
    exact fun W' H' e ws => k W' H' d s' e (he.ext e) ws q (Aft.ext e h)
  | exc x s' => rw [q] at h; exact h
  | no => rw [q] at h; exact h
theorem tMT_bindT {m : VE → M Bool} {f : Bool → DS → Res Bool} {Q : Bool → Hp → Prop} {R : Bool → Hp → Prop} (he : EnvR G.K W H σ env) (hs : WS W s H) (h : AftT G W H ((m env s).bind f) Q)
    (k : ∀ W' H' b s', Ext W H W' H' → EnvR G.K W' H' σ env → WS W' s' H' → m env s = .ok b s' → AftT G W' H' (f b s') Q → R b H') : tMT G m σ H R := by
  refine ⟨W, env, s, he, hs, ?_⟩
  cases q : m env s with
  | ok d s' =>
    rw [q] at h
    exact fun W' H' e ws => k W' H' d s' e (he.ext e) ws q (AftT.ext e h)
  | exc x s' => rw [q] at h; exact h
  | no => rw [q] at h; exact h
/-- a value handed on as it is -/
theorem Aft.now {d : D} {v : V} {Q : VK} (h : Aft G W H (.ok d s) Q) (hs : WS W s H) (r : Rep G.K W H d v) : Q v H := h W H v (Ext.refl W H) hs r
end
end
end L2.Mir

set_option Elab.async false
set_option linter.all false
set_option maxRecDepth 100000
namespace L2.Mir
open PySem PySem.Spec PyProof.Rows
noncomputable section

section
variable {K : PySem.W.Frag} {W : Wd} {H : Hp} {s : DS}
theorem Reps.length : ∀ {ds : List D} {vs : List V}, Reps K W H ds vs → vs.length = ds.length
  | [], _, h => by simp only [Reps] at h; subst h; rfl
  | d :: ds, _, h => by
    simp only [Reps] at h
    obtain ⟨v, r, rfl, _, h2⟩ := h
    simp [Reps.length h2]
theorem Reps.get : ∀ {ds : List D} {vs : List V} {i : Nat} {d : D}, Reps K W H ds vs → ds[i]? = some d → ∃ v, vs[i]? = some v ∧ Rep K W H d v
  | [], _, _, _, _, e => by simp at e
  | d :: ds, _, 0, x, h, e => by
    simp only [Reps] at h
    obtain ⟨v, r, rfl, h1, _⟩ := h
    simp at e
    subst e
    exact ⟨v, rfl, h1⟩
  | d :: ds, _, i + 1, x, h, e => by
    simp only [Reps] at h
    obtain ⟨v, r, rfl, _, h2⟩ := h
    simp at e
    obtain ⟨w, e1, e2⟩ := Reps.get h2 e
    exact ⟨w, by simpa using e1, e2⟩
theorem Reps.append : ∀ {ds es : List D} {vs ws : List V}, Reps K W H ds vs → Reps K W H es ws → Reps K W H (ds ++ es) (vs ++ ws)
  | [], _, _, _, h, h2 => by simp only [Reps] at h; subst h; simpa using h2
  | d :: ds, es, _, ws, h, h2 => by
    simp only [Reps] at h
    obtain ⟨v, r, rfl, h1, h3⟩ := h
    simp only [List.cons_append, Reps]
    exact ⟨v, r ++ ws, rfl, h1, Reps.append h3 h2⟩
theorem Reps.set {x : D} {v : V} (hx : Rep K W H x v) : ∀ {ds : List D} {vs : List V} (i : Nat), Reps K W H ds vs → Reps K W H (ds.set i x) (vs.set i v)
  | [], _, _, h => by simp only [Reps] at h; subst h; simp [Reps]
  | d :: ds, _, 0, h => by
    simp only [Reps] at h
    obtain ⟨w, r, rfl, h1, h3⟩ := h
    simp only [List.set_cons_zero, Reps]
    exact ⟨v, r, rfl, hx, h3⟩
  | d :: ds, _, i + 1, h => by
    simp only [Reps] at h
    obtain ⟨w, r, rfl, h1, h3⟩ := h
    simp only [List.set_cons_succ, Reps]
    exact ⟨w, r.set i v, rfl, h1, Reps.set hx i h3⟩
theorem Reps.take : ∀ {ds : List D} {vs : List V} (n : Nat), Reps K W H ds vs → Reps K W H (ds.take n) (vs.take n)
  | _, _, 0, _ => by simp [Reps]
  | [], _, n + 1, h => by simp only [Reps] at h; subst h; simp [Reps]
  | d :: ds, _, n + 1, h => by
    simp only [Reps] at h
    obtain ⟨w, r, rfl, h1, h3⟩ := h
    simp only [List.take_succ_cons, Reps]
    exact ⟨w, _, rfl, h1, Reps.take n h3⟩
theorem Reps.drop : ∀ {ds : List D} {vs : List V} (n : Nat), Reps K W H ds vs → Reps K W H (ds.drop n) (vs.drop n)
  | _, _, 0, h => by simpa using h
  | [], _, n + 1, h => by simp only [Reps] at h; subst h; simp [Reps]
  | d :: ds, _, n + 1, h => by
    simp only [Reps] at h
    obtain ⟨w, r, rfl, h1, h3⟩ := h
    simpa using Reps.drop n h3
theorem Reps.reverse : ∀ {ds : List D} {vs : List V}, Reps K W H ds vs → Reps K W H ds.reverse vs.reverse
  | [], _, h => by simp only [Reps] at h; subst h; simp [Reps]
  | d :: ds, _, h => by
    simp only [Reps] at h
    obtain ⟨w, r, rfl, h1, h3⟩ := h
    simp only [List.reverse_cons]
    exact Reps.append (Reps.reverse h3) (by simp only [Reps]; exact ⟨w, [], rfl, h1, rfl⟩)

/-- a new object at a free place -/
def Wd.add (W : Wd) (p : Addr) : Wd := ⟨fun a => W.F a ∨ a = p, W.S⟩
theorem rd_upd {p a : Addr} {o u : HO} (n : H p = none) (h : Rd H a u) : Rd (upd H p o) a u := by
  rcases h with h | ⟨b, h⟩
  · exact .inl (by rw [upd_ne (ne_of_none h n)]; exact h)
  · exact .inr ⟨b, by rw [upd_ne (ne_of_none h n)]; exact h⟩
theorem Ext.new {p : Addr} {o : HO} (n : H p = none) : Ext W H W (upd H p o) where
  keep := fun a u h _ => by rw [upd_ne (ne_of_none h n)]; exact h
  tups := fun a xs h => rd_upd n h
  frs := fun a u _ h => by rw [upd_ne (ne_of_none h n)]; exact h
  dom := fun a h => by
    by_cases e : a = p
    · subst e; exact n
    · rwa [upd_ne e] at h
  fsub := fun _ h => h
  fnew := fun _ h => .inl h
  ssub := fun _ h => h
  snew := fun _ h => .inl h
theorem Ext.newF {p : Addr} {o : HO} (n : H p = none) : Ext W H (W.add p) (upd H p o) where
  keep := fun a u h _ => by rw [upd_ne (ne_of_none h n)]; exact h
  tups := fun a xs h => rd_upd n h
  frs := fun a u _ h => by rw [upd_ne (ne_of_none h n)]; exact h
  dom := fun a h => by
    by_cases e : a = p
    · subst e; exact n
    · rwa [upd_ne e] at h
  fsub := fun _ h => .inl h
  fnew := fun a h => by
    rcases h with h | rfl
    · exact .inl h
    · exact .inr n
  ssub := fun _ h => h
  snew := fun _ h => .inl h
theorem dom_upd {p a : Addr} {o : HO} (h : ∃ u, H a = some u) : ∃ u, upd H p o a = some u := by
  by_cases e : a = p
  · subst e; exact ⟨o, upd_same⟩
  · rw [upd_ne e]; exact h
theorem WS.new {p : Addr} {o : HO} (n : H p = none) (h : WS W s H) : WS W s (upd H p o) := by
  refine ⟨fun a f => dom_upd (h.1 a f), ?_⟩
  rcases h.2 with h | ⟨sa, ca, i, cells, h0, h00, h1, h2, h3, h4, h5⟩
  · exact .inl h
  · exact .inr ⟨sa, ca, i, cells, h0, h00, by rw [upd_ne (ne_of_none h1 n)]; exact h1, by rw [upd_ne (ne_of_none h2 n)]; exact h2, h3, h4, h5⟩
theorem WS.newF {p : Addr} {o : HO} (n : H p = none) (h : WS W s H) : WS (W.add p) s (upd H p o) := by
  refine ⟨fun a f => f.elim (fun f => dom_upd (h.1 a f)) fun e => ⟨o, by rw [e]; exact upd_same⟩, ?_⟩
  rcases h.2 with h | ⟨sa, ca, i, cells, h0, h00, h1, h2, h3, h4, h5⟩
  · exact .inl h
  · exact .inr ⟨sa, ca, i, cells, h0, h00, by rw [upd_ne (ne_of_none h1 n)]; exact h1, by rw [upd_ne (ne_of_none h2 n)]; exact h2, h3,
      fun z => z.elim h4 fun e => ne_of_none h1 n e, fun z => z.elim h5 fun e => ne_of_none h2 n e⟩
variable {G : Gx}
theorem Aft.tup {ds : List D} {vs : List V} {Q : VK} {p : Addr} (h : Aft G W H (.ok (.tup ds) s) Q) (hs : WS W s H) (r : Reps G.K W H ds vs) (n : H p = none) : Q (.ref p) (upd H p (.tup vs)) := by
  refine h W _ _ (Ext.new n) (WS.new n hs) ?_
  simp only [Rep]
  exact ⟨p, vs, rfl, .inl (.inl upd_same), Reps.ext (Ext.new n) ds vs r⟩
theorem Aft.lst {ds : List D} {vs : List V} {Q : VK} {p : Addr} (h : Aft G W H (.ok (.lst ds) s) Q) (hs : WS W s H) (r : Reps G.K W H ds vs) (n : H p = none) : Q (.ref p) (upd H p (.lst vs)) := by
  refine h (W.add p) _ _ (Ext.newF n) (WS.newF n hs) ?_
  simp only [Rep]
  exact ⟨p, vs, rfl, upd_same, .inr rfl, Reps.ext (Ext.newF n) ds vs r⟩
end

/-! ### names and constants -/
section
variable {X : Cx} {G : Gx}
@[simp] def mVar (i : Nat) : VE → M D := fun env s => match env[i]? with
  | some (some d) => .ok d s
  | _ => .no
theorem ee_var (i : Nat) {x : Str} {pos : Pos} (hN : X.N[i]? = some x := by rfl) (hv : Vis X.env.scope x := by first | exact Or.inl rfl | exact Or.inr (Or.inl rfl) | exact Or.inr (Or.inr rfl)) (hd : (x == ("__debug__" : Str)) = false := by decide)
    (hcd : (x == ("__classdict__" : Str)) = false := by decide) : EE X G (.Name x pos) (mVar i) := by
  refine pe_imp (pe_var hN hv hd hcd) fun σ H Q h => ?_
  obtain ⟨W, env, s, he, hs, h⟩ := h
  unfold mVar at h
  split at h
  · rename_i d q
    obtain ⟨v, h1, h2⟩ := he.2 i d q
    exact ⟨v, h1, h.now hs h2⟩
  · exact h.elim
@[simp] def mC (d : D) : VE → M D := fun _ s => .ok d s
theorem ee_int {i : Int} {j pos} : EE X G (.Constant (.int i) j pos) (mC (.int i)) := pe_imp pe_int fun σ H Q ⟨W, env, s, he, hs, h⟩ => h.now hs (by simp [Rep])
theorem ee_bl {b : Bool} {j pos} : EE X G (.Constant (.bool b) j pos) (mC (.bl b)) := pe_imp pe_bl fun σ H Q ⟨W, env, s, he, hs, h⟩ => h.now hs (by simp [Rep])
theorem ee_non {j pos} : EE X G (.Constant .none j pos) (mC .non) := pe_imp pe_non fun σ H Q ⟨W, env, s, he, hs, h⟩ => h.now hs (by simp [Rep])
theorem ee_str {x : Str} {j pos} : EE X G (.Constant (.str x) j pos) (mC (.str x)) := pe_imp pe_str fun σ H Q ⟨W, env, s, he, hs, h⟩ => h.now hs (by simp [Rep])
/-- a module's constant int -/
theorem ee_gint {x : Str} {i : Int} {t : Tok} {pos : Pos} (hg : Gl X x) (hm : X.mg x = some (.int i t)) (hd : (x == ("__debug__" : Str)) = false := by decide) : EE X G (.Name x pos) (mC (.int i)) :=
  pe_imp (pe_glob (v := .int i) hg hm ⟨t, rfl⟩ hd) fun σ H Q ⟨W, env, s, he, hs, h⟩ => h.now hs (by simp [Rep])

/-! ### two parts by an operator -/
/-- a rule by values is met by a mirror -/
def RB (G : Gx) (r : R2) (g : D → D → M D) : Prop := ∀ (W : Wd) (H : Hp) (s : DS) (x y : D) (v u : V) (Q : VK), WS W s H → Rep G.K W H x v → Rep G.K W H y u → Aft G W H (g x y s) Q → r v u H Q
@[simp] def mBin (g : D → D → M D) (a b : VE → M D) : VE → M D := fun env s => (a env s).bind fun x s => (b env s).bind (g x)
variable {a b c : Expr} {ma mb mc : VE → M D} {pos : Pos}
theorem tOp_of {r : R2} {g : D → D → M D} (hb : RB G r g) {σ : St} {H : Hp} {Q : VK} (h : tM G (mBin g ma mb) σ H Q) : tOp r (tM G ma) (tM G mb) σ H Q := by
  obtain ⟨W, env, s, he, hs, h⟩ := h
  refine tM_bind he hs h fun W1 H1 v x s1 e1 he1 hs1 rx _ h1 => ?_
  refine tM_bind he1 hs1 h1 fun W2 H2 u y s2 e2 he2 hs2 ry _ h2 => ?_
  exact hb W2 H2 s2 x y v u Q hs2 (Rep.ext e2 _ _ rx) ry h2
theorem ee_bin {op : Operator} {r : R2} {g : D → D → M D} (ho : OpR X (binaryOp op) r) (hr : RB G r g) (ha : EE X G a ma) (hb : EE X G b mb) : EE X G (.BinOp a op b pos) (mBin g ma mb) :=
  pe_imp (pe_op ho ha hb) fun _ _ _ h => tOp_of hr h
theorem ee_cmp {op : CmpOp} {r : R2} {g : D → D → M D} (ho : OpR X (compareOp op) r) (hr : RB G r g) (ha : EE X G a ma) (hb : EE X G b mb) (hm : behindInMarks op b = false := by first | exact nomark _ | rfl) : EE X G (.Compare a [op] [b] pos) (mBin g ma mb) :=
  pe_imp (pe_cmpR ho ha hb hm) fun _ _ _ h => tOp_of hr h
/-- a bool as a test -/
@[simp] def asB (r : Res D) : Res Bool := r.bind fun d s => match d with
  | .bl b => .ok b s
  | _ => .no
theorem Rep.bl_of {K : PySem.W.Frag} {W : Wd} {H : Hp} {b : Bool} {v : V} (h : Rep K W H (.bl b) v) : v = .bl b := by simpa [Rep] using h
theorem tTest_of {m : VE → M D} {t : TE} (i : ∀ σ H Q, tM G m σ H Q → t σ H Q) {σ : St} {H : Hp} {Q : Bool → Hp → Prop} (h : tMT G (fun env s => asB (m env s)) σ H Q) : tTest t σ H Q := by
  obtain ⟨W, env, s, he, hs, h⟩ := h
  refine i _ _ _ ?_
  refine tM_bindT he hs h fun W1 H1 v x s1 e1 he1 hs1 rx _ h1 => ?_
  cases x with
  | bl b => exact ⟨b, rx.bl_of, h1 W1 H1 (Ext.refl _ _) hs1⟩
  | _ => exact h1.elim
@[simp] def mCmpT (g : D → D → M D) (a b : VE → M D) : VE → M Bool := fun env s => asB (mBin g a b env s)
theorem et_cmp {op : CmpOp} {r : R2} {g : D → D → M D} (ho : OpR X (compareOp op) r) (hr : RB G r g) (ha : EE X G a ma) (hb : EE X G b mb) (hm : behindInMarks op b = false := by first | exact nomark _ | rfl) :
    ET X G (.Compare a [op] [b] pos) (mCmpT g ma mb) :=
  pt_imp (pt_cmpR ho ha hb hm) fun _ _ _ h => tTest_of (fun _ _ _ h => tOp_of hr h) h

/-! ### the operators -/
theorem rep_int {K : PySem.W.Frag} {W : Wd} {H : Hp} {i : Int} {v : V} (h : Rep K W H (.int i) v) : v = .int i := by simpa [Rep] using h
theorem rep_str {K : PySem.W.Frag} {W : Wd} {H : Hp} {i : Str} {v : V} (h : Rep K W H (.str i) v) : v = .str i := by simpa [Rep] using h
theorem rep_tup {K : PySem.W.Frag} {W : Wd} {H : Hp} {ds : List D} {v : V} (h : Rep K W H (.tup ds) v) : ∃ a vs, v = .ref a ∧ SqT K H a vs ∧ Reps K W H ds vs := by simpa only [Rep] using h
theorem rep_lst {K : PySem.W.Frag} {W : Wd} {H : Hp} {ds : List D} {v : V} (h : Rep K W H (.lst ds) v) : ∃ a vs, v = .ref a ∧ H a = some (.lst vs) ∧ W.F a ∧ Reps K W H ds vs := by simpa only [Rep] using h
@[simp] theorem rep_int_iff {K : PySem.W.Frag} {W : Wd} {H : Hp} {i : Int} {v : V} : Rep K W H (.int i) v ↔ v = .int i := by simp [Rep]
@[simp] theorem rep_bl_iff {K : PySem.W.Frag} {W : Wd} {H : Hp} {i : Bool} {v : V} : Rep K W H (.bl i) v ↔ v = .bl i := by simp [Rep]
@[simp] theorem rep_str_iff {K : PySem.W.Frag} {W : Wd} {H : Hp} {i : Str} {v : V} : Rep K W H (.str i) v ↔ v = .str i := by simp [Rep]
@[simp] theorem rep_non_iff {K : PySem.W.Frag} {W : Wd} {H : Hp} {v : V} : Rep K W H .non v ↔ v = .non := by simp [Rep]

@[simp] def opAdd (x y : D) : M D := fun s => match x, y with
  | .int i, .int j => .ok (.int (i + j)) s
  | .str i, .str j => if LenOk (i.length + j.length) then .ok (.str (i ++ j)) s else .no
  | .tup a, .tup b => if LenOk (a.length + b.length) then .ok (.tup (a ++ b)) s else .no
  | .lst a, .lst b => if LenOk (a.length + b.length) then .ok (.lst (a ++ b)) s else .no
  | _, _ => .no
/-- () + t is t -/
def rCatT0 (K : PySem.W.Frag) : R2 := fun x y H Q => ∃ a b ys, x = .ref a ∧ y = .ref b ∧ SqT K H a [] ∧ SqT K H b ys ∧ Q (.ref b) H
theorem op_catT0 : OpR X (binaryOp .Add) (rCatT0 X.K) := by
  intro pins s σ H x y v u Q I rx ry h
  obtain ⟨a, b, ys, rfl, rfl, ha, hb, q⟩ := h
  cases rx
  cases ry
  obtain ⟨its, r1, p1, _⟩ := I.tuple ha
  obtain ⟨its2, r2, p2, _⟩ := I.tuple hb
  cases r1
  obtain ⟨⟨cls, dd, data, sl⟩, ho, hc, n, hd⟩ := id p1
  obtain ⟨⟨cls2, dd2, data2, sl2⟩, ho2, hc2, n2, hd2⟩ := id p2
  simp only at hc hd hc2 hd2
  subst hc hd hc2 hd2
  exact concat_meets ⟨_, ho, rfl⟩ ⟨_, ho2, rfl⟩ noFill_tuple_add seq_tuple_add PySem.F.slot_tuple_add PySem.F.entry_tuple_add (PySem.F.args_tuple_add_2 _ _)
    (tuple_addW0 a b _ its2.toArray n n2 dd dd2 sl sl2 (by simp)) ⟨ho, ho2, ⟨.ref b, H, I, rfl, q⟩⟩
abbrev rAddAll (K : PySem.W.Frag) : R2 := fun x y H Q => (rI0 fun i j => V.int (i + j)) x y H Q ∨ (fun x y H Q => (fun x y H Q => ∃ i j, x = .str i ∧ y = .str j ∧ i.length + j.length ≤ sizeLine ∧ Q (.str (i ++ j)) H) x y H Q ∨ (fun x y H Q => rCatT K x y H Q ∨ (fun x y H Q => rCatT0 K x y H Q ∨ rCat x y H Q) x y H Q) x y H Q) x y H Q
theorem or_add : OpR X (binaryOp .Add) (rAddAll X.K) := op_add.or (op_add_str.or (op_catT.or (op_catT0.or op_cat)))
theorem rb_add : RB G (rAddAll G.K) opAdd := by
  intro W H s x y v u Q hs rx ry h
  unfold opAdd at h
  split at h
  · exact .inl ⟨_, _, rep_int rx, rep_int ry, h.now hs (by simp)⟩
  · split at h
    · rename_i hz; exact .inr (.inl ⟨_, _, rep_str rx, rep_str ry, hz, h.now hs (by simp)⟩)
    · exact h.elim
  · split at h
    · rename_i as bs hz
      have hz := hz.le
      obtain ⟨a, vs, rfl, h1, r1⟩ := rep_tup rx
      obtain ⟨b, us, rfl, h2, r2⟩ := rep_tup ry
      have l1 := r1.length
      have l2 := r2.length
      cases as with
      | nil =>
        have e : vs = [] := List.eq_nil_of_length_eq_zero (by rw [l1]; rfl)
        subst e
        exact .inr (.inr (.inr (.inl ⟨a, b, us, rfl, rfl, h1, h2, h.now hs ry⟩)))
      | cons d0 dr =>
        refine .inr (.inr (.inl ⟨a, b, vs, us, rfl, rfl, h1, h2, fun e => by rw [e] at l1; simp at l1, by omega, fun e => ?_, fun ne p hp => ?_⟩))
        · have e2 : bs = [] := List.eq_nil_of_length_eq_zero (by rw [← l2, e]; rfl)
          subst e2
          rw [List.append_nil] at h
          exact h.now hs rx
        · exact h.tup hs (r1.append r2) hp
    · exact h.elim
  · split at h
    · rename_i hz
      have hz := hz.le
      obtain ⟨a, vs, rfl, h1, f1, r1⟩ := rep_lst rx
      obtain ⟨b, us, rfl, h2, f2, r2⟩ := rep_lst ry
      have l1 := r1.length
      have l2 := r2.length
      exact .inr (.inr (.inr (.inr ⟨a, b, vs, us, rfl, rfl, h1, h2, by omega, fun p hp => h.lst hs (r1.append r2) hp⟩)))
    · exact h.elim
  · exact h.elim
@[simp] def opSub (x y : D) : M D := fun s => match x, y with
  | .int i, .int j => .ok (.int (i - j)) s
  | _, _ => .no
theorem rb_sub : RB G (rI0 fun i j => V.int (i - j)) opSub := by
  intro W H s x y v u Q hs rx ry h
  unfold opSub at h
  split at h
  · exact ⟨_, _, rep_int rx, rep_int ry, h.now hs (by simp)⟩
  · exact h.elim
/-- two factors of which one is small, or both together not too great -/
def mulOk (i j : Int) : Bool := @decide (i.natAbs < 2 ^ 64 ∨ j.natAbs < 2 ^ 64 ∨ i.natAbs.log2 + j.natAbs.log2 < 1000000) (Classical.propDecidable _)
def CMulM (i j : Int) : Prop := mulOk i j = true
theorem op_mulM {X : Cx} : OpR X (binaryOp .Mult) (rI CMulM fun i j => V.int (i * j)) := opI fun i j _ _ _ _ _ hc q => by
  unfold CMulM mulOk at hc
  have hc := @of_decide_eq_true _ (Classical.propDecidable _) hc
  refine mul_int q ?_
  rcases hc with h | h | h
  · exact CMul.ok (.inl ⟨by omega, by omega⟩)
  · exact CMul.ok (.inr ⟨by omega, by omega⟩)
  · exact CMulW.ok h
/-- list times int -/
@[simp] def opMul (x y : D) : M D := fun s => match x, y with
  | .int i, .int j => if mulOk i j = true then .ok (.int (i * j)) s else .no
  | .lst a, .int k => if RngOk k ∧ LenOk (a.length * k.toNat) then .ok (.lst (List.replicate k.toNat a).flatten) s else .no
  | _, _ => .no
theorem or_mul : OpR X (binaryOp .Mult) (fun x y H Q => (rI CMulM fun i j => V.int (i * j)) x y H Q ∨ rRep x y H Q) := op_mulM.or op_rep
theorem Reps.rep {K : PySem.W.Frag} {W : Wd} {H : Hp} {ds : List D} {vs : List V} (h : Reps K W H ds vs) : ∀ k : Nat, Reps K W H (List.replicate k ds).flatten (List.replicate k vs).flatten
  | 0 => by simp [Reps]
  | k + 1 => by
    rw [List.replicate_succ, List.replicate_succ, List.flatten_cons, List.flatten_cons]
    exact h.append (Reps.rep h k)
theorem rb_mul : RB G (fun x y H Q => (rI CMulM fun i j => V.int (i * j)) x y H Q ∨ rRep x y H Q) opMul := by
  intro W H s x y v u Q hs rx ry h
  unfold opMul at h
  split at h
  · split at h
    · rename_i hz; exact .inl ⟨_, _, rep_int rx, rep_int ry, hz, h.now hs (by simp)⟩
    · exact h.elim
  · split at h
    · rename_i hz
      obtain ⟨a, vs, rfl, h1, f1, r1⟩ := rep_lst rx
      have l1 := r1.length
      exact .inr ⟨a, _, vs, rfl, rep_int ry, h1, by have := hz.1.1; omega, by have := hz.1.2; omega, by rw [l1]; exact hz.2, fun p hp => h.lst hs (r1.rep _) hp⟩
    · exact h.elim
  · exact h.elim
@[simp] def opDiv (x y : D) : M D := fun s => match x, y with
  | .int i, .int j => if DivOk j then .ok (.int (i / j)) s else if DivOk (-j) then .ok (.int (-i / -j)) s else .no
  | _, _ => .no
def CDivA (_ j : Int) : Prop := j ≠ 0 ∧ j.natAbs.log2 < 9000
theorem op_divA {X : Cx} : OpR X (binaryOp .FloorDiv) (rI CDivA fun i j => V.int (i.fdiv j)) := opI fun i j _ _ _ _ _ hc q => floordiv_int hc.1 q (.inl (PyProof.noPylong_of_log2 hc.2))
theorem rb_div : RB G (rI CDivA fun i j => V.int (i.fdiv j)) opDiv := by
  intro W H s x y v u Q hs rx ry h
  unfold opDiv at h
  split at h
  · rename_i i j
    split at h
    · rename_i hz
      have h1 : (0 : Int) < j := hz.1
      refine ⟨i, j, rep_int rx, rep_int ry, ⟨by omega, hz.2⟩, ?_⟩
      show Q (V.int (i.fdiv j)) H
      rw [Int.fdiv_eq_ediv_of_nonneg i (by omega)]
      exact h.now hs (by simp)
    · split at h
      · rename_i hz
        have h1 : (0 : Int) < -j := hz.1
        have h2 : (-j).natAbs.log2 < 9000 := hz.2
        rw [Int.natAbs_neg] at h2
        refine ⟨i, j, rep_int rx, rep_int ry, ⟨by omega, h2⟩, ?_⟩
        show Q (V.int (i.fdiv j)) H
        rw [← Int.neg_fdiv_neg, Int.fdiv_eq_ediv_of_nonneg (-i) (by omega)]
        exact h.now hs (by simp)
      · exact h.elim
  · exact h.elim
@[simp] def opMod (x y : D) : M D := fun s => match x, y with
  | .int i, .int j => if 0 < j then .ok (.int (i % j)) s else .no
  | _, _ => .no
theorem rb_mod : RB G (rI (fun _ j => 0 < j) fun i j => V.int (i % j)) opMod := by
  intro W H s x y v u Q hs rx ry h
  unfold opMod at h
  split at h
  · split at h
    · rename_i hz; exact ⟨_, _, rep_int rx, rep_int ry, hz, h.now hs (by simp)⟩
    · exact h.elim
  · exact h.elim
@[simp] def opPow (x y : D) : M D := fun s => match x, y with
  | .int i, .int j => if 0 ≤ j ∧ j ≤ 1000000 ∧ i.natAbs < 2 ^ 64 then .ok (.int (i ^ j.toNat)) s else .no
  | _, _ => .no
theorem rb_pow : RB G (rI CPow fun i j => V.int (i ^ j.toNat)) opPow := by
  intro W H s x y v u Q hs rx ry h
  unfold opPow at h
  split at h
  · split at h
    · rename_i hz; exact ⟨_, _, rep_int rx, rep_int ry, hz, h.now hs (by simp)⟩
    · exact h.elim
  · exact h.elim
/-- order of ints (and texts, for <) -/
@[simp] def opCmp (p : Int → Int → Bool) (x y : D) : M D := fun s => match x, y with
  | .int i, .int j => .ok (.bl (p i j)) s
  | _, _ => .no
theorem rb_cmp {p : Int → Int → Bool} : RB G (rI0 fun i j => V.bl (p i j)) (opCmp p) := by
  intro W H s x y v u Q hs rx ry h
  unfold opCmp at h
  split at h
  · exact ⟨_, _, rep_int rx, rep_int ry, h.now hs (by simp)⟩
  · exact h.elim
@[simp] abbrev pLt (i j : Int) : Bool := decide (i < j)
@[simp] abbrev pLe (i j : Int) : Bool := decide (i ≤ j)
@[simp] abbrev pGt (i j : Int) : Bool := decide (j < i)
@[simp] abbrev pGe (i j : Int) : Bool := decide (j ≤ i)
/-- is None -/
def opIsN (x y : D) : M D := fun s => match y, x with
  | .non, .non => .ok (.bl true) s
  | .non, .bl _ => .ok (.bl false) s
  | .non, .int _ => .ok (.bl false) s
  | .non, .str _ => .ok (.bl false) s
  | .non, .tup _ => .ok (.bl false) s
  | .non, .lst _ => .ok (.bl false) s
  | .non, .dic _ _ => .ok (.bl false) s
  | .non, .dicT _ _ => .ok (.bl false) s
  | _, _ => .no
def isNonD : D → Option Bool
  | .non => some true
  | .st => none
  | .fn _ => none
  | _ => some false
@[simp] theorem isNonD_1 : isNonD .non = some true := rfl
@[simp] theorem isNonD_2 (b : Bool) : isNonD (.bl b) = some false := rfl
@[simp] theorem isNonD_3 (b : Int) : isNonD (.int b) = some false := rfl
@[simp] theorem isNonD_4 (b : Str) : isNonD (.str b) = some false := rfl
@[simp] theorem isNonD_5 (b : List D) : isNonD (.tup b) = some false := rfl
@[simp] theorem isNonD_6 (b : List D) : isNonD (.lst b) = some false := rfl
@[simp] theorem isNonD_7 (k : List Key) (b : List D) : isNonD (.dic k b) = some false := rfl
@[simp] theorem isNonD_8 (k : List (List Key)) (b : List D) : isNonD (.dicT k b) = some false := rfl
theorem isNonD_rep {K : PySem.W.Frag} {W : Wd} {H : Hp} {d : D} {v : V} {b : Bool} (h : isNonD d = some b) (r : Rep K W H d v) : decide (v = .non) = b := by
  cases d <;> simp only [isNonD, Option.some.injEq, reduceCtorEq] at h <;> subst h <;> simp only [Rep] at r
  · subst r; rfl
  · subst r; simp
  · subst r; simp
  · subst r; simp
  · obtain ⟨a, vs, rfl, _⟩ := r; simp
  · obtain ⟨a, vs, rfl, _⟩ := r; simp
  · obtain ⟨a, vs, rfl, _⟩ := r; simp
  · obtain ⟨a, vs, rfl, _⟩ := r; simp
@[simp] def opIs (neg : Bool) (x y : D) : M D := fun s => match y with
  | .non => (match isNonD x with
    | some b => .ok (.bl (if neg then !b else b)) s
    | none => .no)
  | .bl c => (match x with
    | .bl b => .ok (.bl (if neg then !decide (b = c) else decide (b = c))) s
    | _ => .no)
  | _ => .no
theorem or_is : OpR X (compareOp .Is) (fun x y H Q => (y = .non ∧ Q (.bl (decide (x = .non))) H) ∨ rIsB x y H Q) := op_isN.or op_isBl
theorem or_isnot : OpR X (compareOp .IsNot) (fun x y H Q => (y = .non ∧ Q (.bl (!decide (x = .non))) H) ∨ rNotB x y H Q) := op_notN.or op_notBl
theorem rb_is : RB G (fun x y H Q => (y = .non ∧ Q (.bl (decide (x = .non))) H) ∨ rIsB x y H Q) (opIs false) := by
  intro W H s x y v u Q hs rx ry h
  unfold opIs at h
  split at h
  · split at h
    · rename_i b hb
      refine .inl ⟨by simpa using ry, ?_⟩
      rw [isNonD_rep hb rx]
      exact h.now hs (by simp)
    · exact h.elim
  · split at h
    · exact .inr ⟨_, _, by simpa using rx, by simpa using ry, h.now hs (by simp)⟩
    · exact h.elim
  · exact h.elim
theorem rb_isnot : RB G (fun x y H Q => (y = .non ∧ Q (.bl (!decide (x = .non))) H) ∨ rNotB x y H Q) (opIs true) := by
  intro W H s x y v u Q hs rx ry h
  unfold opIs at h
  split at h
  · split at h
    · rename_i b hb
      refine .inl ⟨by simpa using ry, ?_⟩
      rw [isNonD_rep hb rx]
      exact h.now hs (by simp)
    · exact h.elim
  · split at h
    · exact .inr ⟨_, _, by simpa using rx, by simpa using ry, h.now hs (by simp)⟩
    · exact h.elim
  · exact h.elim

/-! ### == of data -/
mutual
def toPy : D → PyData
  | .non => .none
  | .bl b => .bool b
  | .int i => .int i
  | .str x => .str x
  | .tup ds => .tuple (toPys ds)
  | .lst ds => .list (toPys ds)
  | .st => .none
  | .fn _ => .none
  | .dic _ _ => .none
  | .dicT _ _ => .none
def toPys : List D → List PyData
  | [] => []
  | d :: ds => toPy d :: toPys ds
end
mutual
/-- data that may be compared: no state, no dict; texts of signs; at most so deep -/
@[simp] def okD : Nat → D → Bool
  | _, .non => true
  | _, .bl _ => true
  | _, .int _ => true
  | _, .str x => PyData.strOk x
  | 0, .tup _ => false
  | 0, .lst _ => false
  | n + 1, .tup ds => okDs n ds
  | n + 1, .lst ds => okDs n ds
  | _, .st => false
  | _, .fn _ => false
  | _, .dic _ _ => false
  | _, .dicT _ _ => false
@[simp] def okDs : Nat → List D → Bool
  | _, [] => true
  | n, d :: ds => okD n d && okDs n ds
end
end
end
end L2.Mir

set_option Elab.async false
set_option linter.all false
set_option maxRecDepth 100000
namespace L2.Mir
open PySem PySem.Spec PyProof.Rows
noncomputable section

/-! ### == -/
mutual
theorem Rep.dp {K : PySem.W.Frag} {W : Wd} {H : Hp} : ∀ (n : Nat) (d : D) (v : V), okD n d = true → Rep K W H d v → Dp K H v (toPy d) ∧ (toPy d).canLay0 = true ∧ (toPy d).depth ≤ n
  | n, .non, v, _, r => by simp only [rep_non_iff] at r; subst r; exact ⟨.non, by simp [toPy, PyData.canLay0], by simp [toPy, PyData.depth]⟩
  | n, .bl b, v, _, r => by simp only [rep_bl_iff] at r; subst r; exact ⟨.bl b, by simp [toPy, PyData.canLay0], by simp [toPy, PyData.depth]⟩
  | n, .int b, v, _, r => by simp only [rep_int_iff] at r; subst r; exact ⟨.int b, by simp [toPy, PyData.canLay0], by simp [toPy, PyData.depth]⟩
  | n, .str x, v, h, r => by
    simp only [rep_str_iff] at r; subst r
    exact ⟨.str x, by simpa [toPy, PyData.canLay0, okD] using h, by simp [toPy, PyData.depth]⟩
  | n + 1, .tup ds, v, h, r => by
    obtain ⟨a, vs, rfl, hs, hr⟩ := rep_tup r
    obtain ⟨h1, h2, h3⟩ := Reps.dp n ds vs (by simpa [okD] using h) hr
    exact ⟨.tup hs h1, by simpa [toPy, PyData.canLay0] using h2, by simpa [toPy, PyData.depth] using h3⟩
  | n + 1, .lst ds, v, h, r => by
    obtain ⟨a, vs, rfl, hs, _, hr⟩ := rep_lst r
    obtain ⟨h1, h2, h3⟩ := Reps.dp n ds vs (by simpa [okD] using h) hr
    exact ⟨.lst (.inl (.inl hs)) h1, by simpa [toPy, PyData.canLay0] using h2, by simpa [toPy, PyData.depth] using h3⟩
  | 0, .tup _, _, h, _ => by simp [okD] at h
  | 0, .lst _, _, h, _ => by simp [okD] at h
  | _, .st, _, h, _ => by simp [okD] at h
  | _, .fn _, _, h, _ => by simp [okD] at h
  | _, .dic _ _, _, h, _ => by simp [okD] at h
  | _, .dicT _ _, _, h, _ => by simp [okD] at h
theorem Reps.dp {K : PySem.W.Frag} {W : Wd} {H : Hp} : ∀ (n : Nat) (ds : List D) (vs : List V), okDs n ds = true → Reps K W H ds vs → DpAll K H vs (toPys ds) ∧ PyData.canLayAll0 (toPys ds) = true ∧ PyData.depthAll (toPys ds) ≤ n
  | n, [], vs, _, r => by simp only [Reps] at r; subst r; exact ⟨.nil, by simp [toPys, PyData.canLayAll0], by simp [toPys, PyData.depthAll]⟩
  | n, d :: ds, vs, h, r => by
    simp only [Reps] at r
    obtain ⟨v, w, rfl, h1, h2⟩ := r
    simp only [okDs, Bool.and_eq_true] at h
    obtain ⟨a1, a2, a3⟩ := Rep.dp n d v h.1 h1
    obtain ⟨b1, b2, b3⟩ := Reps.dp n ds w h.2 h2
    exact ⟨.cons a1 b1, by simp [toPys, PyData.canLayAll0, a2, b2], by simp only [toPys, PyData.depthAll]; omega⟩
end
theorem shaped_of {d : D} (h : (toPy d).canLay0 = true) (h2 : (toPy d).depth ≤ 60) : SeqAt.shaped (toPy d) = true := by
  unfold SeqAt.shaped
  rw [h, Bool.true_and]
  exact decide_eq_true (by omega)
/-- == of data, as Python has it -/
def deq (x y : D) : Bool := PyData.eqv (toPy x) (toPy y)
@[simp] def opEq (x y : D) : M D := fun s => if okD 60 x && okD 60 y then .ok (.bl (deq x y)) s else .no
@[simp] def opNe (x y : D) : M D := fun s => if okD 60 x && okD 60 y then .ok (.bl (!deq x y)) s else .no
section
variable {X : Cx} {G : Gx}
theorem rb_eq : RB G (rEqD G.K) opEq := by
  intro W H s x y v u Q hs rx ry h
  unfold opEq at h
  split at h
  · rename_i hz
    rw [Bool.and_eq_true] at hz
    obtain ⟨a1, a2, a3⟩ := Rep.dp 60 x v hz.1 rx
    obtain ⟨b1, b2, b3⟩ := Rep.dp 60 y u hz.2 ry
    exact ⟨_, _, a1, b1, shaped_of a2 a3, shaped_of b2 b3, h.now hs (by simp [deq])⟩
  · exact h.elim
theorem rb_ne : RB G (rNeD G.K) opNe := by
  intro W H s x y v u Q hs rx ry h
  unfold opNe at h
  split at h
  · rename_i hz
    rw [Bool.and_eq_true] at hz
    obtain ⟨a1, a2, a3⟩ := Rep.dp 60 x v hz.1 rx
    obtain ⟨b1, b2, b3⟩ := Rep.dp 60 y u hz.2 ry
    exact ⟨_, _, a1, b1, shaped_of a2 a3, shaped_of b2 b3, h.now hs (by simp [deq])⟩
  · exact h.elim

/-! ### tests -/
variable {a b c e : Expr} {ma mb mc : VE → M D} {ta tb : VE → M Bool} {pos : Pos} {rest : List Expr}
def truD (d : D) : M Bool := fun s => match d with
  | .non => .ok false s
  | .bl b => .ok b s
  | .int i => .ok (i != 0) s
  | .str x => if LenOk x.length then .ok ((x.length : Int) != 0) s else .no
  | .tup ds => .ok (!ds.isEmpty) s
  | .lst ds => .ok (!ds.isEmpty) s
  | _ => .no
@[simp] theorem truD_1 (s : DS) : truD .non s = .ok false s := rfl
@[simp] theorem truD_2 (b : Bool) (s : DS) : truD (.bl b) s = .ok b s := rfl
@[simp] theorem truD_3 (b : Int) (s : DS) : truD (.int b) s = .ok (b != 0) s := rfl
@[simp] theorem truD_4 (x : Str) (s : DS) : truD (.str x) s = if LenOk x.length then .ok ((x.length : Int) != 0) s else .no := rfl
@[simp] theorem truD_5 (ds : List D) (s : DS) : truD (.tup ds) s = .ok (!ds.isEmpty) s := rfl
@[simp] theorem truD_6 (ds : List D) (s : DS) : truD (.lst ds) s = .ok (!ds.isEmpty) s := rfl
theorem empty_len {α β : Type} {xs : List α} {ys : List β} (h : xs.length = ys.length) : xs.isEmpty = ys.isEmpty := by
  cases xs <;> cases ys <;> simp at h ⊢
theorem truD_ok {W : Wd} {H : Hp} {s s' : DS} {d : D} {v : V} {k : Bool} (r : Rep G.K W H d v) (h : truD d s = .ok k s') : TruV G.K v H k ∧ s' = s := by
  unfold truD at h
  split at h
  · simp only [Res.ok.injEq] at h; obtain ⟨rfl, rfl⟩ := h; simp only [rep_non_iff] at r; subst r; exact ⟨rfl, rfl⟩
  · simp only [Res.ok.injEq] at h; obtain ⟨rfl, rfl⟩ := h; simp only [rep_bl_iff] at r; subst r; exact ⟨rfl, rfl⟩
  · simp only [Res.ok.injEq] at h; obtain ⟨rfl, rfl⟩ := h; simp only [rep_int_iff] at r; subst r; exact ⟨rfl, rfl⟩
  · split at h
    · rename_i hz
      simp only [Res.ok.injEq] at h; obtain ⟨rfl, rfl⟩ := h; simp only [rep_str_iff] at r; subst r; exact ⟨⟨hz, rfl⟩, rfl⟩
    · cases h
  · simp only [Res.ok.injEq] at h; obtain ⟨rfl, rfl⟩ := h
    obtain ⟨a, vs, rfl, h1, r1⟩ := rep_tup r
    have l := r1.length
    exact ⟨.inr (.inl ⟨vs, h1, by rw [empty_len l]⟩), rfl⟩
  · simp only [Res.ok.injEq] at h; obtain ⟨rfl, rfl⟩ := h
    obtain ⟨a, vs, rfl, h1, _, r1⟩ := rep_lst r
    have l := r1.length
    exact ⟨.inl ⟨vs, .inl (.inl h1), by rw [empty_len l]⟩, rfl⟩
  · cases h
@[simp] def mTru (m : VE → M D) : VE → M Bool := fun env s => (m env s).bind truD
theorem et_val (ha : EE X G a ma) (hK : X.K = G.K) (he : ∀ whole, isTrue a X.env whole = (do let v ← whole; standAt a.pos; holding [v] (truthy v)) := by intro _; rfl) : ET X G a (mTru ma) :=
  pt_imp (pt_truth ha he) fun σ H Q h => by
    obtain ⟨W, env, s, hen, hs, h⟩ := h
    refine tM_bindT hen hs h fun W1 H1 v x s1 e1 he1 hs1 rx _ h1 => ?_
    cases q : truD x s1 with
    | ok k s2 =>
      rw [q] at h1
      obtain ⟨t, rfl⟩ := truD_ok rx q
      exact ⟨k, hK ▸ t, h1 W1 H1 (Ext.refl _ _) hs1⟩
    | exc x' s2 =>
      exfalso
      unfold truD at q
      split at q <;> first | cases q | (split at q <;> cases q)
    | no => rw [q] at h1; exact h1.elim
/-- and, or, not -/
@[simp] def mAndT (a b : VE → M Bool) : VE → M Bool := fun env s => (a env s).bind fun c s => if c = true then b env s else .ok false s
@[simp] def mOrT (a b : VE → M Bool) : VE → M Bool := fun env s => (a env s).bind fun c s => if c = true then .ok true s else b env s
@[simp] def mNotT (a : VE → M Bool) : VE → M Bool := fun env s => (a env s).bind fun c s => .ok (!c) s
abbrev EW (X : Cx) (G : Gx) (e : Expr) (m : VE → M Bool) : Prop := PW X e (tMT G m)
theorem pw_imp {t t' : TT} (h : PW X e t) (i : ∀ σ H Q, t' σ H Q → t σ H Q) : PW X e t' := ⟨fun wh pins s σ H Q I q => h.run wh pins s σ H Q I (i σ H Q q)⟩
theorem ew_and1 (ha : ET X G a ta) : EW X G (.BoolOp .And [a] pos) ta := pw_and1 ha
theorem ew_or1 (ha : ET X G a ta) : EW X G (.BoolOp .Or [a] pos) ta := pw_or1 ha
theorem AftT.now {W : Wd} {H : Hp} {s : DS} {b : Bool} {Q : Bool → Hp → Prop} (h : AftT G W H (.ok b s) Q) (hs : WS W s H) : Q b H := h W H (Ext.refl W H) hs
theorem ew_and (ha : ET X G a ta) (hb : EW X G (.BoolOp .And (b :: rest) pos) tb) : EW X G (.BoolOp .And (a :: b :: rest) pos) (mAndT ta tb) :=
  pw_imp (pw_and ha hb) fun σ H Q h => by
    obtain ⟨W, env, s, hen, hs, h⟩ := h
    refine tMT_bindT hen hs h fun W1 H1 k s1 e1 he1 hs1 _ h1 => ?_
    cases k with
    | true => exact ⟨W1, env, s1, he1, hs1, h1⟩
    | false => exact h1.now hs1
theorem ew_or (ha : ET X G a ta) (hb : EW X G (.BoolOp .Or (b :: rest) pos) tb) : EW X G (.BoolOp .Or (a :: b :: rest) pos) (mOrT ta tb) :=
  pw_imp (pw_or ha hb) fun σ H Q h => by
    obtain ⟨W, env, s, hen, hs, h⟩ := h
    refine tMT_bindT hen hs h fun W1 H1 k s1 e1 he1 hs1 _ h1 => ?_
    cases k with
    | false => exact ⟨W1, env, s1, he1, hs1, h1⟩
    | true => exact h1.now hs1
theorem et_w (h : EW X G e ta) : ET X G e ta := h.pt
theorem et_not (ha : ET X G a ta) : ET X G (.UnaryOp .Not a pos) (mNotT ta) :=
  pt_imp (pt_not ha) fun σ H Q h => by
    obtain ⟨W, env, s, hen, hs, h⟩ := h
    refine tMT_bindT hen hs h fun W1 H1 k s1 e1 he1 hs1 _ h1 => ?_
    exact h1.now hs1
/-- .. as values -/
@[simp] def mAnd (a b : VE → M D) : VE → M D := fun env s => (a env s).bind fun d s => match d with
  | .bl true => b env s
  | .bl false => .ok (.bl false) s
  | _ => .no
@[simp] def mOr (a b : VE → M D) : VE → M D := fun env s => (a env s).bind fun d s => match d with
  | .bl false => b env s
  | .bl true => .ok (.bl true) s
  | _ => .no
@[simp] def mNot (a : VE → M D) : VE → M D := fun env s => (a env s).bind fun d s => match d with
  | .bl k => .ok (.bl (!k)) s
  | _ => .no
theorem ee_one {op} (ha : EE X G a ma) : EE X G (.BoolOp op [a] pos) ma := pe_one ha
theorem ee_and (ha : EE X G a ma) (hb : EE X G (.BoolOp .And (b :: rest) pos) mb) : EE X G (.BoolOp .And (a :: b :: rest) pos) (mAnd ma mb) :=
  pe_imp (pe_and ha hb) fun σ H Q h => by
    obtain ⟨W, env, s, hen, hs, h⟩ := h
    refine tM_bind hen hs h fun W1 H1 v x s1 e1 he1 hs1 rx _ h1 => ?_
    split at h1
    · exact ⟨true, rx.bl_of, iteT ⟨W1, env, s1, he1, hs1, h1⟩⟩
    · exact ⟨false, rx.bl_of, iteF (h1.now hs1 (by simp))⟩
    · exact h1.elim
theorem ee_or (ha : EE X G a ma) (hb : EE X G (.BoolOp .Or (b :: rest) pos) mb) : EE X G (.BoolOp .Or (a :: b :: rest) pos) (mOr ma mb) :=
  pe_imp (pe_or ha hb) fun σ H Q h => by
    obtain ⟨W, env, s, hen, hs, h⟩ := h
    refine tM_bind hen hs h fun W1 H1 v x s1 e1 he1 hs1 rx _ h1 => ?_
    split at h1
    · exact ⟨false, rx.bl_of, iteF ⟨W1, env, s1, he1, hs1, h1⟩⟩
    · exact ⟨true, rx.bl_of, iteT (h1.now hs1 (by simp))⟩
    · exact h1.elim
theorem ee_not (ha : EE X G a ma) : EE X G (.UnaryOp .Not a pos) (mNot ma) :=
  pe_imp (pe_not ha) fun σ H Q h => by
    obtain ⟨W, env, s, hen, hs, h⟩ := h
    refine tM_bind hen hs h fun W1 H1 v x s1 e1 he1 hs1 rx _ h1 => ?_
    split at h1
    · exact ⟨_, rx.bl_of, h1.now hs1 (by simp)⟩
    · exact h1.elim
@[simp] def mIf (t : VE → M Bool) (a b : VE → M D) : VE → M D := fun env s => (t env s).bind fun k s => if k = true then a env s else b env s
theorem ee_if (hc : ET X G c ta) (ha : EE X G a ma) (hb : EE X G b mb) : EE X G (.IfExp c a b pos) (mIf ta ma mb) :=
  pe_imp (pe_ifExp hc ha hb) fun σ H Q h => by
    obtain ⟨W, env, s, hen, hs, h⟩ := h
    refine tMT_bind hen hs h fun W1 H1 k s1 e1 he1 hs1 _ h1 => ?_
    cases k with
    | true => exact iteT ⟨W1, env, s1, he1, hs1, h1⟩
    | false => exact iteF ⟨W1, env, s1, he1, hs1, h1⟩
/-- a < b < c -/
@[simp] def mChain (g g' : D → D → M D) (a b c : VE → M D) : VE → M D := fun env s => (a env s).bind fun x s => (b env s).bind fun y s => (g x y s).bind fun z s => match z with
  | .bl true => (c env s).bind fun w s => g' y w s
  | .bl false => .ok (.bl false) s
  | _ => .no
@[simp] def mChainT (g g' : D → D → M D) (a b c : VE → M D) : VE → M Bool := fun env s => asB (mChain g g' a b c env s)

/-! ### - a -/
@[simp] def mNeg (a : VE → M D) : VE → M D := fun env s => (a env s).bind fun d s => match d with
  | .int i => .ok (.int (-i)) s
  | _ => .no
theorem ee_neg (ha : EE X G a ma) : EE X G (.UnaryOp .USub a pos) (mNeg ma) :=
  pe_imp (pe_un un_neg ha) fun σ H Q h => by
    obtain ⟨W, env, s, hen, hs, h⟩ := h
    refine tM_bind hen hs h fun W1 H1 v x s1 e1 he1 hs1 rx _ h1 => ?_
    split at h1
    · exact ⟨_, rep_int rx, h1.now hs1 (by simp)⟩
    · exact h1.elim

/-! ### argument lists, displays -/
variable {es : List Expr} {ml : VE → M (List D)}
@[simp] def mNil : VE → M (List D) := fun _ s => .ok [] s
@[simp] def mCons (a : VE → M D) (l : VE → M (List D)) : VE → M (List D) := fun env s => (a env s).bind fun d s => (l env s).bind fun ds s => .ok (d :: ds) s
def LenM (m : VE → M (List D)) (n : Nat) : Prop := ∀ env s ds s', m env s = .ok ds s' → ds.length = n
theorem ln : LenM mNil 0 := fun env s ds s' h => by simp only [mNil, Res.ok.injEq] at h; rw [← h.1]; rfl
theorem lc {n : Nat} (h : LenM ml n) : LenM (mCons ma ml) (n + 1) := fun env s ds s' q => by
  unfold mCons at q
  cases q1 : ma env s with
  | ok d s1 =>
    rw [q1] at q
    simp only [bind_ok] at q
    cases q2 : ml env s1 with
    | ok es s2 =>
      rw [q2] at q
      simp only [bind_ok, Res.ok.injEq] at q
      rw [← q.1, List.length_cons, h env s1 es s2 q2]
    | exc _ _ => rw [q2] at q; cases q
    | no => rw [q2] at q; cases q
  | exc _ _ => rw [q1] at q; cases q
  | no => rw [q1] at q; cases q
theorem ea_nil : EA X G [] mNil := pa_imp pa_nil fun σ H Q h => by
  obtain ⟨W, env, s, hen, hs, h⟩ := h
  exact h W H [] (Ext.refl _ _) hs (by simp [Reps])
theorem ea_cons (ha : EE X G e ma) (hr : EA X G es ml) (hs : starEach (e :: es) X.env = (false, eval e X.env) :: starEach es X.env := by rfl) : EA X G (e :: es) (mCons ma ml) :=
  pa_imp (pa_cons ha hr hs) fun σ H Q h => by
    obtain ⟨W, env, s, hen, hs, h⟩ := h
    refine tM_bindL hen hs h fun W1 H1 v x s1 e1 he1 hs1 rx _ h1 => ?_
    refine tML_bindL he1 hs1 h1 fun W2 H2 vs ds s2 e2 he2 hs2 rs _ h2 => ?_
    exact h2 W2 H2 (v :: vs) (Ext.refl _ _) hs2 (by simp only [Reps]; exact ⟨v, vs, rfl, Rep.ext e2 _ _ rx, rs⟩)
@[simp] def mTup (l : VE → M (List D)) : VE → M D := fun env s => (l env s).bind fun ds s => .ok (.tup ds) s
@[simp] def mLst (l : VE → M (List D)) : VE → M D := fun env s => (l env s).bind fun ds s => .ok (.lst ds) s
theorem small {n : Nat} (h : n ≤ 1000) : n ≤ sizeLine := by rw [sizeLine_eq]; omega
theorem ee_tup {x1} {n : Nat} (h : EA X G es ml) (hl : LenM ml n) (hn : n ≤ 1000 := by decide) : EE X G (.Tuple es x1 pos) (mTup ml) :=
  pe_imp (pe_tup h) fun σ H Q h => by
    obtain ⟨W, env, s, hen, hs, h⟩ := h
    refine tML_bind hen hs h fun W1 H1 vs ds s1 e1 he1 hs1 rs q h1 => ⟨by rw [rs.length, hl _ _ _ _ q]; exact small hn, fun p hp => h1.tup hs1 rs hp⟩
theorem ee_lst {n : Nat} (h : EA X G es ml) (hl : LenM ml n) (hn : n ≤ 1000 := by decide) : EE X G (.List es pos) (mLst ml) :=
  pe_imp (pe_lst h) fun σ H Q h => by
    obtain ⟨W, env, s, hen, hs, h⟩ := h
    refine tML_bind hen hs h fun W1 H1 vs ds s1 e1 he1 hs1 rs q h1 => ⟨by rw [rs.length, hl _ _ _ _ q]; exact small hn, fun p hp => h1.lst hs1 rs hp⟩

/-! ### a[i] -/
@[simp] def opIx (x y : D) : M D := fun s => match x, y with
  | .tup ds, .int i => (match atI ds i with | some d => .ok d s | none => .no)
  | .lst ds, .int i => (match atI ds i with | some d => .ok d s | none => .no)
  | .str z, .int i => if LenOk z.length then (match atI z.cps.toList i with | some c => .ok (.str ⟨#[c]⟩) s | none => .no) else .no
  | _, _ => .no
theorem Reps.atI {K : PySem.W.Frag} {W : Wd} {H : Hp} {ds : List D} {vs : List V} {i : Int} {d : D} (r : Reps K W H ds vs) (h : L2.atI ds i = some d) : ∃ v, L2.atI vs i = some v ∧ Rep K W H d v := by
  unfold L2.atI at h ⊢
  rw [r.length]
  cases q : ixN ds.length i with
  | none => rw [q] at h; cases h
  | some j =>
    rw [q] at h
    exact r.get h
theorem rb_ix : RB G (rIx G.K) opIx := by
  intro W H s x y v u Q hs rx ry h
  unfold opIx at h
  split at h
  · split at h
    · rename_i d q
      obtain ⟨a, vs, rfl, h1, r1⟩ := rep_tup rx
      obtain ⟨w, e1, e2⟩ := r1.atI q
      exact .inr (.inl ⟨a, vs, _, w, rfl, rep_int ry, h1, e1, h.now hs e2⟩)
    · exact h.elim
  · split at h
    · rename_i d q
      obtain ⟨a, vs, rfl, h1, _, r1⟩ := rep_lst rx
      obtain ⟨w, e1, e2⟩ := r1.atI q
      exact .inl ⟨a, vs, _, w, rfl, rep_int ry, .inl (.inl h1), e1, h.now hs e2⟩
    · exact h.elim
  · split at h
    · rename_i hz
      split at h
      · rename_i c q
        exact .inr (.inr ⟨_, _, c, rep_str rx, rep_int ry, hz, q, h.now hs (by simp)⟩)
      · exact h.elim
    · exact h.elim
  · exact h.elim
theorem ee_ix (hK : X.K = G.K) (ha : EE X G a ma) (hb : EE X G b mb) (hs : PlainIx b := by intro _ _; rfl) : EE X G (.Subscript a b pos) (mBin opIx ma mb) :=
  pe_imp (pe_ix ix_seq ha hb hs) fun _ _ _ h => tOp_of (hK ▸ rb_ix) h

/-! ### calls -/
/-- a def's promise by its mirror -/
def spM (K : PySem.W.Frag) (xr : XR) (n : Nat) (f : List D → M D) : Sp := fun vs H Q E => vs.length = n ∧ ∃ W ds s, Reps K W H ds vs ∧ WS W s H ∧ Aft ⟨K, xr, E⟩ W H (f ds s) Q
def noX {α : Type} (r : Res α) : Res α := match r with
  | .exc _ _ => .no
  | r => r
@[simp] theorem noX_ok {α : Type} (a : α) (s : DS) : noX (Res.ok a s) = .ok a s := rfl
@[simp] theorem noX_no {α : Type} : noX (Res.no : Res α) = .no := rfl
@[simp] theorem noX_exc {α : Type} (x : Xc) (s : DS) : noX (Res.exc x s : Res α) = .no := rfl
/-- a call of a def that raises nothing -/
@[simp] def mCall (f : List D → M D) (l : VE → M (List D)) : VE → M D := fun env s => (l env s).bind fun ds s => noX (f ds s)
theorem ee_call {n k : Nat} {f : Addr} {fd : FuncData} {ps : List Str} {fm : List D → M D} {x : Str} {p : Pos} {xr : XR}
    (F : FnOk X.prog X.w X.K X.mg X.base CX0 k f fd ps (spM X.K xr n fm)) (hr : Room k X.A) (hm : X.mg x = some (.ref f)) (hk : PySem.W.keepIn X.K (.ref f) = true) (hb : Binds X.K fd ps [])
    (hK : X.K = G.K) (ha : EA X G (e :: es) ml) (hl : LenM ml n) (hg : Gl X x := by rfl) (hdb : (x == ("__debug__" : Str)) = false := by decide) (he : starEach (e :: es) X.env = (false, eval e X.env) :: starEach es X.env := by rfl)
    (hpl : (backTo pos (starEach es X.env)).any (·.1) = false := by rfl) : EE X G (.Call (.Name x p) (e :: es) [] pos) (mCall fm ml) :=
  pe_imp (pe_call (E := E0) F hr hg hm hk hb .nil pass0 ha hdb he hpl) fun σ H Q h => by
    obtain ⟨W, env, s, hen, hs, h⟩ := h
    refine tML_bind hen hs h fun W1 H1 vs ds s1 e1 he1 hs1 rs q h1 => ?_
    refine ⟨by rw [List.append_nil, rs.length, hl _ _ _ _ q], W1, ds, s1, by rw [List.append_nil, hK]; exact rs, hs1, ?_⟩
    cases q2 : fm ds s1 with
    | ok d s2 =>
      rw [q2] at h1
      intro W' H' v ex ws rp
      exact h1 W' H' v ex ws (hK ▸ rp)
    | exc _ _ => rw [q2] at h1; exact h1.elim
    | no => rw [q2] at h1; exact h1.elim
/-- built-ins -/
def RC (G : Gx) (r : List V → Hp → VK → Prop) (g : List D → M D) : Prop := ∀ (W : Wd) (H : Hp) (s : DS) (ds : List D) (vs : List V) (Q : VK), WS W s H → Reps G.K W H ds vs → Aft G W H (g ds s) Q → r vs H Q
@[simp] def mCB (g : List D → M D) (l : VE → M (List D)) : VE → M D := fun env s => (l env s).bind g
theorem ee_callB {x : Str} {p : Pos} {id : String} {r : List V → Hp → VK → Prop} {g : List D → M D} (hc : CallR X (.builtin id) r) (hr : RC G r g) (hm : X.mg x = none) (hv : bootBuiltins x = some (.builtin id)) (ha : EA X G (e :: es) ml) (hg : Gl X x := by rfl)
    (hn : x ≠ "__name__" := by decide) (hdb : (x == ("__debug__" : Str)) = false := by decide) (he : starEach (e :: es) X.env = (false, eval e X.env) :: starEach es X.env := by rfl) (hpl : (backTo pos (starEach es X.env)).any (·.1) = false := by rfl) :
    EE X G (.Call (.Name x p) (e :: es) [] pos) (mCB g ml) :=
  pe_imp (pe_callB hc hg hm hv ha hn hdb he hpl) fun σ H Q h => by
    obtain ⟨W, env, s, hen, hs, h⟩ := h
    refine tML_bind hen hs h fun W1 H1 vs ds s1 e1 he1 hs1 rs q h1 => ?_
    exact hr W1 H1 s1 ds vs Q hs1 rs h1
theorem ee_callTy {x : Str} {p : Pos} {T : String} {r : List V → Hp → VK → Prop} {g : List D → M D} (hc : CallR X (.type T) r) (hr : RC G r g) (hm : X.mg x = none) (hv : bootBuiltins x = some (.type T)) (ha : EA X G (e :: es) ml) (hg : Gl X x := by rfl)
    (hn : x ≠ "__name__" := by decide) (hdb : (x == ("__debug__" : Str)) = false := by decide) (he : starEach (e :: es) X.env = (false, eval e X.env) :: starEach es X.env := by rfl) (hpl : (backTo pos (starEach es X.env)).any (·.1) = false := by rfl) :
    EE X G (.Call (.Name x p) (e :: es) [] pos) (mCB g ml) :=
  pe_imp (pe_callTy hc hg hm hv ha hn hdb he hpl) fun σ H Q h => by
    obtain ⟨W, env, s, hen, hs, h⟩ := h
    refine tML_bind hen hs h fun W1 H1 vs ds s1 e1 he1 hs1 rs q h1 => ?_
    exact hr W1 H1 s1 ds vs Q hs1 rs h1
theorem Reps.one {K : PySem.W.Frag} {W : Wd} {H : Hp} {d : D} {vs : List V} (r : Reps K W H [d] vs) : ∃ v, vs = [v] ∧ Rep K W H d v := by
  simp only [Reps] at r
  obtain ⟨v, w, rfl, h, rfl⟩ := r
  exact ⟨v, rfl, h⟩
theorem Reps.two {K : PySem.W.Frag} {W : Wd} {H : Hp} {d d' : D} {vs : List V} (r : Reps K W H [d, d'] vs) : ∃ v v', vs = [v, v'] ∧ Rep K W H d v ∧ Rep K W H d' v' := by
  simp only [Reps] at r
  obtain ⟨v, w, rfl, h, v', w', rfl, h', rfl⟩ := r
  exact ⟨v, v', rfl, h, h'⟩
/-- |i| -/
def absI (i : Int) : Int := if i < 0 then -i else i
theorem absI_nonneg (i : Int) : 0 ≤ absI i := by unfold absI; split <;> omega
theorem absI_natAbs (i : Int) : (absI i).natAbs = i.natAbs := by unfold absI; split <;> omega
theorem absI_eq (i : Int) : absI i = (i.natAbs : Int) := by unfold absI; split <;> omega
@[simp] theorem gcd_absI_l (a b : Int) : Int.gcd (absI a) b = Int.gcd a b := by unfold absI; split <;> simp
@[simp] theorem gcd_absI_r (a b : Int) : Int.gcd a (absI b) = Int.gcd a b := by unfold absI; split <;> simp
@[simp] def bAbs (ds : List D) : M D := fun s => match ds with
  | [.int i] => .ok (.int (absI i)) s
  | _ => .no
theorem rc_abs : RC G (fun xs H Q => ∃ i, xs = [.int i] ∧ Q (.int (if i < 0 then -i else i)) H) bAbs := by
  intro W H s ds vs Q hs rs h
  unfold bAbs at h
  split at h
  · obtain ⟨v, rfl, r⟩ := rs.one
    exact ⟨_, by rw [rep_int r], h.now (v := .int (absI _)) hs (rep_int_iff.mpr rfl)⟩
  · exact h.elim
@[simp] def bInt (ds : List D) : M D := fun s => match ds with
  | [.int i] => .ok (.int i) s
  | [.bl k] => .ok (.int (if k then 1 else 0)) s
  | _ => .no
theorem rc_int : RC G (fun xs H Q => (∃ i, xs = [V.int i] ∧ Q (.int i) H) ∨ ∃ k, xs = [V.bl k] ∧ Q (.int (if k then 1 else 0)) H) bInt := by
  intro W H s ds vs Q hs rs h
  unfold bInt at h
  split at h
  · obtain ⟨v, rfl, r⟩ := rs.one
    exact .inl ⟨_, by rw [rep_int r], h.now hs (by simp)⟩
  · obtain ⟨v, rfl, r⟩ := rs.one
    exact .inr ⟨_, by rw [r.bl_of], h.now hs (by simp)⟩
  · exact h.elim
@[simp] def bLen (ds : List D) : M D := fun s => match ds with
  | [.tup xs] => .ok (.int xs.length) s
  | [.lst xs] => .ok (.int xs.length) s
  | [.str x] => if LenOk x.length then .ok (.int x.length) s else .no
  | _ => .no
theorem rc_len : RC G (fun xs H Q => ∃ x n, xs = [x] ∧ LenV G.K x H n ∧ Q (.int n) H) bLen := by
  intro W H s ds vs Q hs rs h
  unfold bLen at h
  split at h
  · obtain ⟨v, rfl, r⟩ := rs.one
    obtain ⟨a, us, rfl, h1, r1⟩ := rep_tup r
    exact ⟨_, us.length, rfl, .inr ⟨us, h1, rfl⟩, h.now hs (by simp [r1.length])⟩
  · obtain ⟨v, rfl, r⟩ := rs.one
    obtain ⟨a, us, rfl, h1, _, r1⟩ := rep_lst r
    exact ⟨_, us.length, rfl, .inl ⟨us, .inl (.inl h1), rfl⟩, h.now hs (by simp [r1.length])⟩
  · split at h
    · rename_i hz
      obtain ⟨v, rfl, r⟩ := rs.one
      exact ⟨_, _, rfl, by rw [rep_str r]; exact ⟨hz, rfl⟩, h.now hs (by simp)⟩
    · exact h.elim
  · exact h.elim
@[simp] def bList (ds : List D) : M D := fun s => match ds with
  | [.tup xs] => .ok (.lst xs) s
  | [.lst xs] => .ok (.lst xs) s
  | _ => .no
theorem rc_list : RC G (fun xs H Q => ∃ p ys, xs = [.ref p] ∧ (SqL G.K H p ys ∨ SqT G.K H p ys) ∧ ∀ l, H l = none → Q (.ref l) (upd H l (.lst ys))) bList := by
  intro W H s ds vs Q hs rs h
  unfold bList at h
  split at h
  · obtain ⟨v, rfl, r⟩ := rs.one
    obtain ⟨a, us, rfl, h1, r1⟩ := rep_tup r
    exact ⟨a, us, rfl, .inr h1, fun l hl => h.lst hs r1 hl⟩
  · obtain ⟨v, rfl, r⟩ := rs.one
    obtain ⟨a, us, rfl, h1, _, r1⟩ := rep_lst r
    exact ⟨a, us, rfl, .inl (.inl (.inl h1)), fun l hl => h.lst hs r1 hl⟩
  · exact h.elim
@[simp] def bTuple (ds : List D) : M D := fun s => match ds with
  | [.tup xs] => .ok (.tup xs) s
  | [.lst xs] => .ok (.tup xs) s
  | _ => .no
theorem rc_tuple : RC G (fun xs H Q => ∃ p ys, xs = [.ref p] ∧ ((SqL G.K H p ys ∧ ∀ l, H l = none → Q (.ref l) (upd H l (.tup ys))) ∨ (SqT G.K H p ys ∧ Q (.ref p) H))) bTuple := by
  intro W H s ds vs Q hs rs h
  unfold bTuple at h
  split at h
  · obtain ⟨v, rfl, r⟩ := rs.one
    obtain ⟨a, us, rfl, h1, r1⟩ := rep_tup r
    exact ⟨a, us, rfl, .inr ⟨h1, h.now hs r⟩⟩
  · obtain ⟨v, rfl, r⟩ := rs.one
    obtain ⟨a, us, rfl, h1, _, r1⟩ := rep_lst r
    exact ⟨a, us, rfl, .inl ⟨.inl (.inl h1), fun l hl => h.tup hs r1 hl⟩⟩
  · exact h.elim
/-- lists of numbers -/
@[simp] def intsD : List D → Option (List Int)
  | [] => some []
  | .int i :: r => (intsD r).map (i :: ·)
  | _ => none
@[simp] def boolsD : List D → Option (List Bool)
  | [] => some []
  | .bl i :: r => (boolsD r).map (i :: ·)
  | _ => none
theorem intsD_rep {K : PySem.W.Frag} {W : Wd} {H : Hp} : ∀ {ds : List D} {ns : List Int} {vs : List V}, intsD ds = some ns → Reps K W H ds vs → vs = ns.map V.int
  | [], ns, vs, h, r => by simp only [intsD, Option.some.injEq] at h; subst h; simpa [Reps] using r
  | d :: ds, ns, vs, h, r => by
    simp only [Reps] at r
    obtain ⟨v, w, rfl, h1, h2⟩ := r
    unfold intsD at h
    split at h
    · rename_i q; cases q
    · rename_i q
      cases q
      cases q2 : intsD ds with
      | none => rw [q2] at h; cases h
      | some ms =>
        rw [q2] at h
        simp only [Option.map_some, Option.some.injEq] at h
        subst h
        rw [rep_int h1, intsD_rep q2 h2]; rfl
    · cases h
theorem boolsD_rep {K : PySem.W.Frag} {W : Wd} {H : Hp} : ∀ {ds : List D} {ns : List Bool} {vs : List V}, boolsD ds = some ns → Reps K W H ds vs → vs = ns.map V.bl
  | [], ns, vs, h, r => by simp only [boolsD, Option.some.injEq] at h; subst h; simpa [Reps] using r
  | d :: ds, ns, vs, h, r => by
    simp only [Reps] at r
    obtain ⟨v, w, rfl, h1, h2⟩ := r
    unfold boolsD at h
    split at h
    · rename_i q; cases q
    · rename_i q
      cases q
      cases q2 : boolsD ds with
      | none => rw [q2] at h; cases h
      | some ms =>
        rw [q2] at h
        simp only [Option.map_some, Option.some.injEq] at h
        subst h
        rw [h1.bl_of, boolsD_rep q2 h2]; rfl
    · cases h
@[simp] def bAll (ds : List D) : M D := fun s => match ds with
  | [.lst xs] => (match boolsD xs with | some bs => .ok (.bl (bs.all id)) s | none => .no)
  | _ => .no
@[simp] def bAny (ds : List D) : M D := fun s => match ds with
  | [.lst xs] => (match boolsD xs with | some bs => .ok (.bl (bs.any id)) s | none => .no)
  | _ => .no
@[simp] def bSum (ds : List D) : M D := fun s => match ds with
  | [.lst xs] => (match intsD xs with | some bs => .ok (.int bs.sum) s | none => .no)
  | _ => .no
theorem rc_all : RC G (rAll G.K) bAll := by
  intro W H s ds vs Q hs rs h
  unfold bAll at h
  split at h
  · split at h
    · rename_i q
      obtain ⟨v, rfl, r⟩ := rs.one
      obtain ⟨a, us, rfl, h1, _, r1⟩ := rep_lst r
      exact ⟨a, _, rfl, .inl (.inl (by rw [h1, boolsD_rep q r1])), h.now hs (by simp)⟩
    · exact h.elim
  · exact h.elim
theorem rc_any : RC G (rAny G.K) bAny := by
  intro W H s ds vs Q hs rs h
  unfold bAny at h
  split at h
  · split at h
    · rename_i q
      obtain ⟨v, rfl, r⟩ := rs.one
      obtain ⟨a, us, rfl, h1, _, r1⟩ := rep_lst r
      exact ⟨a, _, rfl, .inl (.inl (by rw [h1, boolsD_rep q r1])), h.now hs (by simp)⟩
    · exact h.elim
  · exact h.elim
theorem rc_sum : RC G (rSum G.K) bSum := by
  intro W H s ds vs Q hs rs h
  unfold bSum at h
  split at h
  · split at h
    · rename_i q
      obtain ⟨v, rfl, r⟩ := rs.one
      obtain ⟨a, us, rfl, h1, _, r1⟩ := rep_lst r
      exact ⟨a, _, rfl, .inl (.inl (by rw [h1, intsD_rep q r1])), h.now hs (by simp)⟩
    · exact h.elim
  · exact h.elim
/-- the greatest, the least of a list -/
def maxL : List Int → Int
  | [] => 0
  | [x] => x
  | x :: y :: r => max x (maxL (y :: r))
def minL : List Int → Int
  | [] => 0
  | [x] => x
  | x :: y :: r => min x (minL (y :: r))
theorem maxL_spec : ∀ (l : List Int), l ≠ [] → maxL l ∈ l ∧ ∀ y ∈ l, y ≤ maxL l
  | [], h => absurd rfl h
  | [x], _ => ⟨by simp [maxL], by simp [maxL]⟩
  | x :: y :: r, _ => by
    obtain ⟨h1, h2⟩ := maxL_spec (y :: r) (by simp)
    simp only [maxL]
    by_cases c : x ≤ maxL (y :: r)
    · rw [Int.max_eq_right c]
      exact ⟨List.mem_cons_of_mem _ h1, fun z hz => (List.mem_cons.mp hz).elim (fun e => e ▸ c) (h2 z)⟩
    · rw [Int.max_eq_left (by omega)]
      exact ⟨List.mem_cons_self, fun z hz => (List.mem_cons.mp hz).elim (fun e => by omega) (fun q => by have := h2 z q; omega)⟩
theorem minL_spec : ∀ (l : List Int), l ≠ [] → minL l ∈ l ∧ ∀ y ∈ l, minL l ≤ y
  | [], h => absurd rfl h
  | [x], _ => ⟨by simp [minL], by simp [minL]⟩
  | x :: y :: r, _ => by
    obtain ⟨h1, h2⟩ := minL_spec (y :: r) (by simp)
    simp only [minL]
    by_cases c : minL (y :: r) ≤ x
    · rw [Int.min_eq_right c]
      exact ⟨List.mem_cons_of_mem _ h1, fun z hz => (List.mem_cons.mp hz).elim (fun e => e ▸ c) (h2 z)⟩
    · rw [Int.min_eq_left (by omega)]
      exact ⟨List.mem_cons_self, fun z hz => (List.mem_cons.mp hz).elim (fun e => by omega) (fun q => by have := h2 z q; omega)⟩
@[simp] def bMax (ds : List D) : M D := fun s => match ds with
  | [.lst xs] => (match intsD xs with | some [] => .no | some bs => .ok (.int (maxL bs)) s | none => .no)
  | [.int i, .int j] => .ok (.int (if j > i then j else i)) s
  | _ => .no
@[simp] def bMin (ds : List D) : M D := fun s => match ds with
  | [.lst xs] => (match intsD xs with | some [] => .no | some bs => .ok (.int (minL bs)) s | none => .no)
  | [.int i, .int j] => .ok (.int (if j < i then j else i)) s
  | _ => .no
theorem cr_maxAll (hc : X.calm = true) : CallR X (.builtin "max") (fun xs H Q => rMax X.K xs H Q ∨ ∃ i j, xs = [.int i, .int j] ∧ Q (.int (if j > i then j else i)) H) := (cr_max hc).or (call_max2 hc)
theorem cr_minAll (hc : X.calm = true) : CallR X (.builtin "min") (fun xs H Q => rMin X.K xs H Q ∨ ∃ i j, xs = [.int i, .int j] ∧ Q (.int (if j < i then j else i)) H) := (cr_min hc).or (call_min2 hc)
theorem rc_max : RC G (fun xs H Q => rMax G.K xs H Q ∨ ∃ i j, xs = [.int i, .int j] ∧ Q (.int (if j > i then j else i)) H) bMax := by
  intro W H s ds vs Q hs rs h
  unfold bMax at h
  split at h
  · split at h
    · exact h.elim
    · rename_i xs _ bs hne q
      obtain ⟨v, rfl, r⟩ := rs.one
      obtain ⟨a, us, rfl, h1, _, r1⟩ := rep_lst r
      have hn : bs ≠ [] := fun e => hne e
      refine .inl ⟨a, bs, rfl, .inl (.inl (by rw [h1, intsD_rep q r1])), List.length_pos_iff.mpr hn, fun m hm hy => ?_⟩
      obtain ⟨s1, s2⟩ := maxL_spec bs hn
      have e : m = maxL bs := Int.le_antisymm (s2 m hm) (hy _ s1)
      subst e
      exact h.now hs (by simp)
    · exact h.elim
  · obtain ⟨v, v', rfl, r1, r2⟩ := rs.two
    exact .inr ⟨_, _, by rw [rep_int r1, rep_int r2], h.now hs (by simp)⟩
  · exact h.elim
theorem rc_min : RC G (fun xs H Q => rMin G.K xs H Q ∨ ∃ i j, xs = [.int i, .int j] ∧ Q (.int (if j < i then j else i)) H) bMin := by
  intro W H s ds vs Q hs rs h
  unfold bMin at h
  split at h
  · split at h
    · exact h.elim
    · rename_i xs _ bs hne q
      obtain ⟨v, rfl, r⟩ := rs.one
      obtain ⟨a, us, rfl, h1, _, r1⟩ := rep_lst r
      have hn : bs ≠ [] := fun e => hne e
      refine .inl ⟨a, bs, rfl, .inl (.inl (by rw [h1, intsD_rep q r1])), List.length_pos_iff.mpr hn, fun m hm hy => ?_⟩
      obtain ⟨s1, s2⟩ := minL_spec bs hn
      have e : m = minL bs := Int.le_antisymm (hy _ s1) (s2 m hm)
      subst e
      exact h.now hs (by simp)
    · exact h.elim
  · obtain ⟨v, v', rfl, r1, r2⟩ := rs.two
    exact .inr ⟨_, _, by rw [rep_int r1, rep_int r2], h.now hs (by simp)⟩
  · exact h.elim
end
end
end L2.Mir

set_option Elab.async false
set_option linter.all false
set_option maxRecDepth 100000
namespace L2.Mir
open PySem PySem.Spec PyProof.Rows
noncomputable section

section
variable {X : Cx} {G : Gx} {a b c e : Expr} {ma mb mc : VE → M D} {pos : Pos}
/-! ### a < b < c -/
theorem tChain_of {r r' : R2} {g g' : D → D → M D} (hr : RB G r g) (hr' : RB G r' g') {σ : St} {H : Hp} {Q : VK} (h : tM G (mChain g g' ma mb mc) σ H Q) : tChain r r' (tM G ma) (tM G mb) (tM G mc) σ H Q := by
  obtain ⟨W, env, s, hen, hs, h⟩ := h
  refine tM_bind hen hs h fun W1 H1 v x s1 e1 he1 hs1 rx _ h1 => ?_
  refine tM_bind he1 hs1 h1 fun W2 H2 u y s2 e2 he2 hs2 ry _ h2 => ?_
  refine hr W2 H2 s2 x y v u _ hs2 (Rep.ext e2 _ _ rx) ry ?_
  cases q : g x y s2 with
  | ok d s3 =>
    rw [q] at h2
    simp only [bind_ok] at h2
    intro W' H' w ex ws rp
    split at h2
    · refine ⟨true, rp.bl_of, iteT ?_⟩
      have h3 := Aft.ext ex h2
      refine tM_bind (he2.ext ex) ws h3 fun W4 H4 z d4 s4 e4 he4 hs4 r4 _ h4 => ?_
      exact hr' W4 H4 s4 y d4 u z Q hs4 (Rep.ext e4 _ _ (Rep.ext ex _ _ ry)) r4 h4
    · exact ⟨false, rp.bl_of, iteF (h2 W' H' _ ex ws (by simp))⟩
    · exact h2.elim
  | exc x' s3 => rw [q] at h2; exact h2
  | no => rw [q] at h2; exact h2
theorem ee_chain {op op' : CmpOp} {r r' : R2} {g g' : D → D → M D} (ho : OpR X (compareOp op) r) (ho' : OpR X (compareOp op') r') (hr : RB G r g) (hr' : RB G r' g') (ha : EE X G a ma) (hb : EE X G b mb) (hc : EE X G c mc)
    (hm : lastMarks [op, op'] [b, c] = false := by with_unfolding_all rfl) : EE X G (.Compare a [op, op'] [b, c] pos) (mChain g g' ma mb mc) :=
  pe_imp (pe_chain ho ho' ha hb hc hm) fun _ _ _ h => tChain_of hr hr' h
theorem et_chain {op op' : CmpOp} {r r' : R2} {g g' : D → D → M D} (ho : OpR X (compareOp op) r) (ho' : OpR X (compareOp op') r') (hr : RB G r g) (hr' : RB G r' g') (ha : EE X G a ma) (hb : EE X G b mb) (hc : EE X G c mc)
    (hm : lastMarks [op, op'] [b, c] = false := by with_unfolding_all rfl) : ET X G (.Compare a [op, op'] [b, c] pos) (mChainT g g' ma mb mc) :=
  pt_imp (pt_chain ho ho' ha hb hc hm) fun _ _ _ h => tTest_of (fun _ _ _ h => tChain_of hr hr' h) h

/-! ### isinstance(x, T) -/
def tyN : D → Option String
  | .non => some "NoneType"
  | .bl _ => some "bool"
  | .int _ => some "int"
  | .str _ => some "str"
  | .tup _ => some "tuple"
  | .lst _ => some "list"
  | .st => none
  | .fn _ => none
  | .dic _ _ => some "dict"
  | .dicT _ _ => some "dict"
@[simp] theorem tyN_1 : tyN .non = some "NoneType" := rfl
@[simp] theorem tyN_2 (b : Bool) : tyN (.bl b) = some "bool" := rfl
@[simp] theorem tyN_3 (b : Int) : tyN (.int b) = some "int" := rfl
@[simp] theorem tyN_4 (b : Str) : tyN (.str b) = some "str" := rfl
@[simp] theorem tyN_5 (b : List D) : tyN (.tup b) = some "tuple" := rfl
@[simp] theorem tyN_6 (b : List D) : tyN (.lst b) = some "list" := rfl
@[simp] theorem tyN_7 (k : List Key) (b : List D) : tyN (.dic k b) = some "dict" := rfl
@[simp] theorem tyN_8 (k : List (List Key)) (b : List D) : tyN (.dicT k b) = some "dict" := rfl
theorem tyN_ok {K : PySem.W.Frag} {W : Wd} {H : Hp} {d : D} {v : V} {t : String} (h : tyN d = some t) (r : Rep K W H d v) : TyX K H v (.type t) := by
  cases d <;> simp only [tyN, Option.some.injEq, reduceCtorEq] at h <;> subst h
  · simp only [rep_non_iff] at r; subst r; exact .base .non
  · simp only [rep_bl_iff] at r; subst r; exact .base (.bl _)
  · simp only [rep_int_iff] at r; subst r; exact .base (.int _)
  · simp only [rep_str_iff] at r; subst r; exact .base (.str _)
  · obtain ⟨a, vs, rfl, h1, _⟩ := rep_tup r
    rcases h1 with (h1 | ⟨o, h1⟩) | ⟨o, its, n, h1, h2, _⟩
    · exact .base (.tup h1)
    · exact .fTuple h1
    · exact .kTuple h1 h2
  · obtain ⟨a, vs, rfl, h1, _⟩ := rep_lst r
    exact .base (.lst h1)
  · simp only [Rep] at r
    obtain ⟨a, vs, rfl, h1, _⟩ := r
    exact .base (.dK h1)
  · simp only [Rep] at r
    obtain ⟨a, vs, rfl, h1, _⟩ := r
    exact .base (.dT h1)
/-- the answer, by names of types -/
@[simp] def kitN (t T : String) : Option Bool := match T with
  | "int" => some (t == "int" || t == "bool")
  | "bool" => some (t == "bool")
  | "str" => some (t == "str")
  | "tuple" => some (t == "tuple")
  | "list" => some (t == "list")
  | "dict" => some (t == "dict")
  | _ => none
def tyNames : List String := ["NoneType", "bool", "int", "str", "tuple", "list", "dict"]
theorem kitN_all : (tyNames.all fun t => ["int", "bool", "str", "tuple", "list", "dict"].all fun T => decide (kitN t T = kitB t T)) = true := by decide +kernel
theorem tyN_mem {d : D} {t : String} (h : tyN d = some t) : t ∈ tyNames := by
  cases d <;> simp only [tyN, Option.some.injEq, reduceCtorEq] at h <;> subst h <;> decide
theorem kitN_ok {d : D} {t T : String} {b : Bool} (h : tyN d = some t) (hk : kitN t T = some b) : kitB t T = some b := by
  have h1 := List.all_eq_true.mp kitN_all t (tyN_mem h)
  have hT : T ∈ ["int", "bool", "str", "tuple", "list", "dict"] := by
    unfold kitN at hk
    split at hk <;> first | (cases hk; done) | simp
  have h2 := of_decide_eq_true (List.all_eq_true.mp h1 T hT)
  rw [← h2]; exact hk
@[simp] def mIsi (T : String) (m : VE → M D) : VE → M D := fun env s => (m env s).bind fun d s => match tyN d with
  | some t => (match kitN t T with
    | some b => .ok (.bl b) s
    | none => .no)
  | none => .no
theorem ee_isi {T : String} {x xT : Str} {p p2 : Pos} (hK : X.K = G.K) (ha : EE X G a ma) (hm : X.mg x = none) (hv : bootBuiltins x = some (.builtin "isinstance")) (hmT : X.mg xT = none) (hvT : bootBuiltins xT = some (.type T)) (hg : Gl X x := by rfl) (hgT : Gl X xT := by rfl)
    (hn : x ≠ "__name__" := by decide) (hdb : (x == ("__debug__" : Str)) = false := by decide) (hnT : xT ≠ "__name__" := by decide) (hdbT : (xT == ("__debug__" : Str)) = false := by decide)
    (he0 : starEach ([Expr.Name xT p2]) X.env = (false, eval (Expr.Name xT p2) X.env) :: starEach [] X.env := by rfl)
    (he : starEach (a :: [Expr.Name xT p2]) X.env = (false, eval a X.env) :: starEach [Expr.Name xT p2] X.env := by rfl) (hpl : (backTo pos (starEach [Expr.Name xT p2] X.env)).any (·.1) = false := by rfl) :
    EE X G (.Call (.Name x p) [a, .Name xT p2] [] pos) (mIsi T ma) :=
  pe_imp (pe_callB call_isi hg hm hv (pa_cons ha (pa_cons (pe_bltn (v := .ty T) hgT hmT hvT rfl hnT hdbT) pa_nil he0) he) hn hdb he hpl) fun σ H Q h => by
    obtain ⟨W, env, s, hen, hs, h⟩ := h
    refine tM_bind hen hs h fun W1 H1 v x s1 e1 he1 hs1 rx _ h1 => ?_
    split at h1
    · rename_i t q
      split at h1
      · rename_i b q2
        exact ⟨v, .ty T, .type t, .type T, b, rfl, .ty T, hK ▸ tyN_ok q rx, kit_ty (kitN_ok q q2), h1.now hs1 (by simp)⟩
      · exact h1.elim
    · exact h1.elim

/-! ### a[lo:hi] -/
def cutD {α : Type} (xs : List α) (lo hi : Option Int) : List α := (xs.drop (HT.sIx xs.length 0 lo)).take (HT.sIx xs.length xs.length hi - HT.sIx xs.length 0 lo)
abbrev MP := VE → M (Option Int)
def AftP (G : Gx) (W : Wd) (H : Hp) (r : Res (Option Int)) (Q : Option Int → Hp → Prop) : Prop := match r with
  | .ok b s' => ∀ W' H', Ext W H W' H' → WS W' s' H' → Q b H'
  | .exc x s' => ∀ W' H' c dd, Ext W H W' H' → WS W' s' H' → G.xr G.K x c dd H' → G.E c dd H'
  | .no => False
def tMP (G : Gx) (m : MP) : TO := fun σ H Q => ∃ W env s, EnvR G.K W H σ env ∧ WS W s H ∧ AftP G W H (m env s) Q
abbrev EP' (X : Cx) (G : Gx) (e : Option Expr) (m : MP) : Prop := PO X e (tMP G m)
theorem po_imp {e : Option Expr} {t t' : TO} (h : PO X e t) (i : ∀ σ H Q, t' σ H Q → t σ H Q) : PO X e t' := ⟨fun pins s σ H Q I q => h.run pins s σ H Q I (i σ H Q q)⟩
@[simp] def mNoP : MP := fun _ s => .ok none s
@[simp] def mPart (m : VE → M D) : MP := fun env s => (m env s).bind fun d s => match d with
  | .int i => .ok (some i) s
  | _ => .no
theorem ep_none : EP' X G none mNoP := po_imp po_none fun σ H Q h => by
  obtain ⟨W, env, s, hen, hs, h⟩ := h
  exact h W H (Ext.refl _ _) hs
theorem ep_some (ha : EE X G a ma) : EP' X G (some a) (mPart ma) := po_imp (po_some ha) fun σ H Q h => by
  obtain ⟨W, env, s, hen, hs, h⟩ := h
  refine ⟨W, env, s, hen, hs, ?_⟩
  unfold mPart at h
  cases q : ma env s with
  | ok d s' =>
    rw [q] at h
    simp only [bind_ok] at h
    intro W' H' v e ws rp
    split at h
    · exact ⟨_, rep_int rp, h W' H' e ws⟩
    · exact h.elim
  | exc x s' => rw [q] at h; exact h
  | no => rw [q] at h; exact h
@[simp] def opSl (x : D) (lo hi : Option Int) : M D := fun s => match x with
  | .lst ds => .ok (.lst (cutD ds lo hi)) s
  | .tup ds => if HT.sIx ds.length 0 lo = 0 ∧ HT.sIx ds.length ds.length hi = ds.length then .no else .ok (.tup (cutD ds lo hi)) s
  | .str z => if LenOk z.length then .ok (.str (cutS z lo hi)) s else .no
  | _ => .no
@[simp] def mSl (m : VE → M D) (lo hi : MP) : VE → M D := fun env s => (m env s).bind fun d s => (lo env s).bind fun l s => (hi env s).bind fun u s => opSl d l u s
theorem or_sl : SlR X (fun x lo hi H Q => rSlL X.K x lo hi H Q ∨ (fun x lo hi H Q => rSlT X.K x lo hi H Q ∨ rSlS x lo hi H Q) x lo hi H Q) := sl_list.or (sl_tup.or sl_str)
theorem Reps.cut {K : PySem.W.Frag} {W : Wd} {H : Hp} {ds : List D} {vs : List V} (r : Reps K W H ds vs) (lo hi : Option Int) : Reps K W H (cutD ds lo hi) (cutV vs lo hi) := by
  unfold cutD cutV
  rw [r.length]
  exact (r.drop _).take _
theorem ee_sl {lo hi : Option Expr} {ml mh : MP} {p2 : Pos} (hK : X.K = G.K) (ha : EE X G a ma) (hl : EP' X G lo ml) (hh : EP' X G hi mh) : EE X G (.Subscript a (.Slice lo hi none p2) pos) (mSl ma ml mh) :=
  pe_imp (pe_slice or_sl ha hl hh) fun σ H Q h => by
    obtain ⟨W, env, s, hen, hs, h⟩ := h
    refine tM_bind hen hs h fun W1 H1 v x s1 e1 he1 hs1 rx _ h1 => ?_
    refine ⟨W1, env, s1, he1, hs1, ?_⟩
    cases q : ml env s1 with
    | ok l s2 =>
      rw [q] at h1
      intro W2 H2 e2 ws2
      have h2 := Aft.ext e2 h1
      simp only [bind_ok] at h2
      refine ⟨W2, env, s2, he1.ext e2, ws2, ?_⟩
      cases q2 : mh env s2 with
      | ok u s3 =>
        rw [q2] at h2
        intro W3 H3 e3 ws3
        have h3 := Aft.ext e3 h2
        simp only [bind_ok] at h3
        have rx3 := Rep.ext e3 _ _ (Rep.ext e2 _ _ rx)
        unfold opSl at h3
        split at h3
        · obtain ⟨p, vs, rfl, g1, _, r1⟩ := rep_lst rx3
          exact .inl ⟨p, vs, rfl, .inl (.inl g1), fun p' hp => h3.lst ws3 (r1.cut l u) hp⟩
        · split at h3
          · exact h3.elim
          · rename_i hz
            obtain ⟨p, vs, rfl, g1, r1⟩ := rep_tup rx3
            exact .inr (.inl ⟨p, vs, rfl, hK ▸ g1, by rw [r1.length]; exact hz, fun p' hp => h3.tup ws3 (r1.cut l u) hp⟩)
        · split at h3
          · rename_i hz
            exact .inr (.inr ⟨_, rep_str rx3, hz, h3.now ws3 (by simp)⟩)
          · exact h3.elim
        · exact h3.elim
      | exc x s' => rw [q2] at h2; exact h2
      | no => rw [q2] at h2; exact h2
    | exc x s' => rw [q] at h1; exact h1
    | no => rw [q] at h1; exact h1
@[simp] def mRev (m : VE → M D) : VE → M D := fun env s => (m env s).bind fun d s => match d with
  | .lst ds => .ok (.lst ds.reverse) s
  | _ => .no
theorem ee_rev {k : Nat} {p1 p2 p3 : Pos} (ha : EE X G a ma) : EE X G (.Subscript a (.Slice none none (some (.UnaryOp .USub (.Constant (.int 1) k p1) p2)) p3) pos) (mRev ma) :=
  pe_imp (pe_revL ha) fun σ H Q h => by
    obtain ⟨W, env, s, hen, hs, h⟩ := h
    refine tM_bind hen hs h fun W1 H1 v x s1 e1 he1 hs1 rx _ h1 => ?_
    split at h1
    · obtain ⟨p, vs, rfl, g1, _, r1⟩ := rep_lst rx
      exact ⟨p, vs, rfl, .inl (.inl g1), fun p' hp => h1.lst hs1 r1.reverse hp⟩
    · exact h1.elim
end
end
end L2.Mir

set_option Elab.async false
set_option linter.all false
set_option maxRecDepth 100000
namespace L2.Mir
open PySem PySem.Spec PyProof.Rows
noncomputable section

/-! ### targets -/
inductive Pat where
  | n (i : Nat) | t (ps : List Pat)
mutual
def Pat.run : Pat → D → Option (List (Nat × D))
  | .n i, d => some [(i, d)]
  | .t ps, .tup ds => Pat.runs ps ds
  | .t _, _ => none
def Pat.runs : List Pat → List D → Option (List (Nat × D))
  | [], [] => some []
  | p :: ps, d :: ds => match Pat.run p d, Pat.runs ps ds with
    | some a, some b => some (a ++ b)
    | _, _ => none
  | _, _ => none
end
@[simp] theorem run_n (i : Nat) (d : D) : Pat.run (.n i) d = some [(i, d)] := by simp [Pat.run]
@[simp] theorem run_t (ps : List Pat) (ds : List D) : Pat.run (.t ps) (.tup ds) = Pat.runs ps ds := by simp [Pat.run]
@[simp] theorem runs_nil : Pat.runs [] [] = some [] := by simp [Pat.runs]
@[simp] theorem runs_n (i : Nat) (ps : List Pat) (d : D) (ds : List D) : Pat.runs (.n i :: ps) (d :: ds) = (Pat.runs ps ds).map ((i, d) :: ·) := by
  simp only [Pat.runs, run_n]
  cases Pat.runs ps ds <;> rfl
@[simp] theorem runs_t (qs : List Pat) (ps : List Pat) (es : List D) (ds : List D) : Pat.runs (.t qs :: ps) (.tup es :: ds) = (Pat.runs qs es).bind fun a => (Pat.runs ps ds).map (a ++ ·) := by
  simp only [Pat.runs, run_t]
  cases Pat.runs qs es <;> cases Pat.runs ps ds <;> rfl
mutual
def Pat.slots : Pat → List Nat
  | .n i => [i]
  | .t ps => Pat.slotss ps
def Pat.slotss : List Pat → List Nat
  | [] => []
  | p :: ps => Pat.slots p ++ Pat.slotss ps
end
def AsR (K : PySem.W.Frag) (W : Wd) (H : Hp) : List (Nat × D) → List (Nat × V) → Prop
  | [], bs => bs = []
  | (i, d) :: r, bs => ∃ v q, bs = (i, v) :: q ∧ Rep K W H d v ∧ AsR K W H r q
def setA (σ : L2.St) : List (Nat × V) → L2.St
  | [] => σ
  | (i, v) :: r => setA (σ.set i (some v)) r
@[simp] def setE (env : VE) : List (Nat × D) → VE
  | [] => env
  | (i, d) :: r => setE (env.set i (some d)) r
theorem setA_append (σ : L2.St) : ∀ (a b : List (Nat × V)), setA σ (a ++ b) = setA (setA σ a) b
  | [], b => rfl
  | (i, v) :: r, b => by simp only [List.cons_append, setA]; exact setA_append _ r b
section
variable {K : PySem.W.Frag} {W : Wd} {H : Hp}
theorem AsR.split : ∀ {a b : List (Nat × D)} {cs : List (Nat × V)}, AsR K W H (a ++ b) cs → ∃ c1 c2, cs = c1 ++ c2 ∧ AsR K W H a c1 ∧ AsR K W H b c2
  | [], b, cs, h => ⟨[], cs, rfl, rfl, h⟩
  | (i, d) :: r, b, cs, h => by
    simp only [List.cons_append, AsR] at h
    obtain ⟨v, q, rfl, h1, h2⟩ := h
    obtain ⟨c1, c2, rfl, g1, g2⟩ := AsR.split h2
    exact ⟨(i, v) :: c1, c2, rfl, by simp only [AsR]; exact ⟨v, c1, rfl, h1, g1⟩, g2⟩
theorem AsR.append : ∀ {a b : List (Nat × D)} {c1 c2 : List (Nat × V)}, AsR K W H a c1 → AsR K W H b c2 → AsR K W H (a ++ b) (c1 ++ c2)
  | [], b, c1, c2, h, g => by simp only [AsR] at h; subst h; exact g
  | (i, d) :: r, b, c1, c2, h, g => by
    simp only [AsR] at h
    obtain ⟨v, q, rfl, h1, h2⟩ := h
    simp only [List.cons_append, AsR]
    exact ⟨v, q ++ c2, rfl, h1, h2.append g⟩
/-- a value's places: what a target stores -/
def gP (K : PySem.W.Frag) (p : Pat) : TG := fun v σ H Q => ∃ W d as, Rep K W H d v ∧ p.run d = some as ∧ ∀ bs, AsR K W H as bs → Q (setA σ bs) H
def gPs (K : PySem.W.Frag) (ps : List Pat) : TGs := fun vs σ H Q => ∃ W ds as, Reps K W H ds vs ∧ Pat.runs ps ds = some as ∧ ∀ bs, AsR K W H as bs → Q (setA σ bs) H
end
section
variable {X : Cx} {K : PySem.W.Frag} {pos : Pos}
abbrev EG (X : Cx) (K : PySem.W.Frag) (tg : Expr) (p : Pat) : Prop := PG X tg (gP K p)
abbrev EGs (X : Cx) (K : PySem.W.Frag) (ts : List Expr) (ps : List Pat) : Prop := PGs X ts (gPs K ps)
theorem pg_imp {tg : Expr} {t t' : TG} (h : PG X tg t) (i : ∀ v σ H Q, t' v σ H Q → t v σ H Q) : PG X tg t' := ⟨fun pins s σ H v u Q I r q => h.run pins s σ H v u Q I r (i v σ H Q q)⟩
theorem pgs_imp {tg : List Expr} {t t' : TGs} (h : PGs X tg t) (i : ∀ v σ H Q, t' v σ H Q → t v σ H Q) : PGs X tg t' := ⟨fun pins s σ H v u Q I r q => h.run pins s σ H v u Q I r (i v σ H Q q)⟩
theorem eg_name {i : Nat} {x : Str} (hN : X.N.Nodup) (hi : X.N[i]? = some x := by rfl) (hx : Loc X.env.scope x := by first | exact .inl rfl | exact .inr rfl) (hf : X.fn x = true ∨ X.env.scope.names.lookup x = some .local := by first | exact .inl rfl | exact .inr rfl | assumption) : EG X K (.Name x pos) (.n i) :=
  pg_imp (pg_name hN hi hx hf) fun v σ H Q h => by
    obtain ⟨W, d, as, r, e, h⟩ := h
    simp only [Pat.run, Option.some.injEq] at e
    subst e
    exact h [(i, v)] (by simp only [AsR]; exact ⟨v, [], rfl, r, rfl⟩)
theorem egs_nil : EGs X K [] [] := pgs_imp pgs_nil fun vs σ H Q h => by
  obtain ⟨W, ds, as, r, e, h⟩ := h
  cases ds with
  | nil =>
    simp only [Pat.runs, Option.some.injEq] at e
    subst e
    simp only [Reps] at r
    subst r
    exact ⟨rfl, h [] (by simp only [AsR])⟩
  | cons _ _ => simp [Pat.runs] at e
/-- representations of the two heaps agree under a store to slots: nothing of the heap changes -/
theorem egs_cons {e : Expr} {es : List Expr} {p : Pat} {ps : List Pat} (h1 : EG X K e p) (h2 : EGs X K es ps) (hs : (assignEach (e :: es) X.env).map (·.2) = assign e X.env :: (assignEach es X.env).map (·.2) := by rfl) : EGs X K (e :: es) (p :: ps) :=
  pgs_imp (pgs_cons h1 h2 hs) fun vs σ H Q h => by
    obtain ⟨W, ds, as, r, q, h⟩ := h
    cases ds with
    | nil => simp [Pat.runs] at q
    | cons d ds =>
      simp only [Reps] at r
      obtain ⟨v, w, rfl, r1, r2⟩ := r
      simp only [Pat.runs] at q
      split at q
      · rename_i a b qa qb
        simp only [Option.some.injEq] at q
        subst q
        exact ⟨v, w, rfl, W, d, a, r1, qa, fun c1 g1 => ⟨W, ds, b, r2, qb, fun c2 g2 => by rw [← setA_append]; exact h _ (g1.append g2)⟩⟩
      · cases q
theorem runs_len : ∀ {ps : List Pat} {ds : List D} {as : List (Nat × D)}, Pat.runs ps ds = some as → ds.length = ps.length
  | [], [], _, _ => rfl
  | [], _ :: _, _, h => by simp [Pat.runs] at h
  | _ :: _, [], _, h => by simp [Pat.runs] at h
  | p :: ps, d :: ds, _, h => by
    simp only [Pat.runs] at h
    split at h
    · rename_i a b qa qb
      simp [runs_len qb]
    · cases h
theorem eg_tup {es : List Expr} {k : Nat} {ps : List Pat} (hK : X.K = K) (hc : X.calm = true) (h : EGs X K es ps) (hn : (assignEach es X.env).length = ps.length := by rfl) (hst : (assignEach es X.env).findIdx? (·.1) = none := by rfl) : EG X K (.Tuple es k pos) (.t ps) :=
  pg_imp (pg_tup hc h hn hst) fun v σ H Q h => by
    obtain ⟨W, d, as, r, q, h⟩ := h
    cases d with
    | tup ds =>
      obtain ⟨a, vs, rfl, hs, rs⟩ := rep_tup r
      simp only [Pat.run] at q
      exact ⟨a, vs, rfl, hK ▸ hs, by rw [rs.length, runs_len q], W, ds, as, rs, q, h⟩
    | _ => simp [Pat.run] at q
end

/-! ### what is walked -/
/-- an iterator gives these data, one after another, as long as the pinned value stands -/
def Feed (K : PySem.W.Frag) (J : It) (d0 : D) (v0 : V) (ds : List D) : Prop := ∀ W H, Rep K W H d0 v0 →
  (∀ (i : Nat) (d : D), ds[i]? = some d → J.go i H ∧ ∀ x H', J.yld i H x H' → Ext W H W H' ∧ (∀ s, WS W s H → WS W s H') ∧ Rep K W H' d x) ∧ J.stop ds.length H
def AftI (G : Gx) (W : Wd) (H : Hp) (r : Res (List D)) (R : It → Hp → Prop) : Prop := match r with
  | .ok ds s' => ∀ W' H' J d0 v0, Ext W H W' H' → WS W' s' H' → Rep G.K W' H' d0 v0 → Feed G.K J d0 v0 ds → R J H'
  | .exc x s' => ∀ W' H' c dd, Ext W H W' H' → WS W' s' H' → G.xr G.K x c dd H' → G.E c dd H'
  | .no => False
theorem AftI.ext {G : Gx} {W W' : Wd} {H H' : Hp} {r : Res (List D)} {R : It → Hp → Prop} (e : Ext W H W' H') (h : AftI G W H r R) : AftI G W' H' r R := by
  cases r with
  | ok d s => exact fun W2 H2 J d0 v0 e2 ws rp f => h W2 H2 J d0 v0 (e.trans e2) ws rp f
  | exc x s => exact fun W2 H2 c dd e2 ws rp => h W2 H2 c dd (e.trans e2) ws rp
  | no => exact h
theorem AftI.now {G : Gx} {W : Wd} {H : Hp} {s : DS} {ds : List D} {R : It → Hp → Prop} {J : It} {d0 : D} {v0 : V} (h : AftI G W H (.ok ds s) R) (hs : WS W s H) (r : Rep G.K W H d0 v0) (f : Feed G.K J d0 v0 ds) : R J H := h W H J d0 v0 (Ext.refl W H) hs r f
def tMI (G : Gx) (m : VE → M (List D)) : TI := fun σ H R => ∃ W env s, EnvR G.K W H σ env ∧ WS W s H ∧ AftI G W H (m env s) R
theorem tML_bindI {G : Gx} {W : Wd} {H : Hp} {σ : L2.St} {env : VE} {s : DS} {m : VE → M (List D)} {f : List D → DS → Res (List D)} {R0 : It → Hp → Prop} {R : List V → Hp → Prop} (he : EnvR G.K W H σ env) (hs : WS W s H) (h : AftI G W H ((m env s).bind f) R0)
    (k : ∀ W' H' vs ds s', Ext W H W' H' → EnvR G.K W' H' σ env → WS W' s' H' → Reps G.K W' H' ds vs → m env s = .ok ds s' → AftI G W' H' (f ds s') R0 → R vs H') : tML G m σ H R := by
  refine ⟨W, env, s, he, hs, ?_⟩
  cases q : m env s with
  | ok d s' =>
    rw [q] at h
    exact fun W' H' v e ws rp => k W' H' v d s' e (he.ext e) ws rp q (AftI.ext e h)
  | exc x s' => rw [q] at h; exact h
  | no => rw [q] at h; exact h
theorem tM_bindI {G : Gx} {W : Wd} {H : Hp} {σ : L2.St} {env : VE} {s : DS} {m : VE → M D} {f : D → DS → Res (List D)} {R0 : It → Hp → Prop} {R : VK} (he : EnvR G.K W H σ env) (hs : WS W s H) (h : AftI G W H ((m env s).bind f) R0)
    (k : ∀ W' H' v d s', Ext W H W' H' → EnvR G.K W' H' σ env → WS W' s' H' → Rep G.K W' H' d v → m env s = .ok d s' → AftI G W' H' (f d s') R0 → R v H') : tM G m σ H R := by
  refine ⟨W, env, s, he, hs, ?_⟩
  cases q : m env s with
  | ok d s' =>
    rw [q] at h
    exact fun W' H' v e ws rp => k W' H' v d s' e (he.ext e) ws rp q (AftI.ext e h)
  | exc x s' => rw [q] at h; exact h
  | no => rw [q] at h; exact h
abbrev EI (X : Cx) (G : Gx) (tg iter : Expr) (m : VE → M (List D)) : Prop := PI X tg iter (tMI G m)
section
variable {X : Cx} {G : Gx} {tg l a b : Expr} {m ma mb : VE → M D} {pos p : Pos}
theorem pi_imp {iter : Expr} {t t' : TI} (h : PI X tg iter t) (i : ∀ σ H R, t' σ H R → t σ H R) : PI X tg iter t' := ⟨fun pins s σ H R I q => h.run pins s σ H R I (i σ H R q)⟩
theorem feed_tup {K : PySem.W.Frag} {a : Addr} {ds : List D} {vs0 : List V} : Feed K (Itt K a) (.tup ds) (.ref a) ds := fun W H r => by
  obtain ⟨a', vs, e, hs, rs⟩ := rep_tup r
  cases e
  refine ⟨fun i d hd => ?_, vs, hs, by rw [rs.length]; exact Nat.le_refl _⟩
  obtain ⟨v, hv, rv⟩ := rs.get hd
  refine ⟨⟨vs, v, hs, hv⟩, fun x H' hy => ?_⟩
  obtain ⟨rfl, f⟩ := hy
  have := (f vs hs).symm.trans hv
  cases this
  exact ⟨Ext.refl _ _, fun _ h => h, rv⟩
theorem feed_lst {K : PySem.W.Frag} {a : Addr} {ds : List D} : Feed K (Itl K a) (.lst ds) (.ref a) ds := fun W H r => by
  obtain ⟨a', vs, e, hs, _, rs⟩ := rep_lst r
  cases e
  have hs : SqL K H a vs := .inl (.inl hs)
  refine ⟨fun i d hd => ?_, vs, hs, by rw [rs.length]; exact Nat.le_refl _⟩
  obtain ⟨v, hv, rv⟩ := rs.get hd
  refine ⟨⟨vs, v, hs, hv⟩, fun x H' hy => ?_⟩
  obtain ⟨rfl, f⟩ := hy
  have := (f vs hs).symm.trans hv
  cases this
  exact ⟨Ext.refl _ _, fun _ h => h, rv⟩
theorem feed_rng {K : PySem.W.Frag} {lo : Int} {n : Nat} : Feed K (Itr lo n) .non .non ((List.range n).map fun (i : Nat) => .int (lo + i)) := fun W H r => by
  refine ⟨fun i d hd => ?_, by simp [Itr]⟩
  rw [List.getElem?_map] at hd
  cases q : (List.range n)[i]? with
  | none => rw [q] at hd; cases hd
  | some j =>
    rw [q] at hd
    obtain ⟨hi, hj⟩ := List.getElem?_eq_some_iff.mp q
    simp only [List.length_range] at hi
    simp only [List.getElem_range] at hj
    subst hj
    simp only [Option.map_some, Option.some.injEq] at hd
    subst hd
    refine ⟨hi, fun x H' hy => ?_⟩
    obtain ⟨rfl, rfl⟩ := hy
    exact ⟨Ext.refl _ _, fun _ h => h, by simp⟩
theorem feed_str {K : PySem.W.Frag} {x : Str} : Feed K (Its x) .non .non (x.cps.toList.map fun c => .str ⟨#[c]⟩) := fun W H r => by
  refine ⟨fun i d hd => ?_, by simp [Its]⟩
  rw [List.getElem?_map] at hd
  cases q : x.cps.toList[i]? with
  | none => rw [q] at hd; cases hd
  | some j =>
    rw [q] at hd
    simp only [Option.map_some, Option.some.injEq] at hd
    subst hd
    have q' : x.cps[i]? = some j := by simpa using q
    obtain ⟨hi, _⟩ := Array.getElem?_eq_some_iff.mp q'
    refine ⟨hi, fun v H' hy => ?_⟩
    obtain ⟨rfl, c, hc, rfl⟩ := hy
    rw [q'] at hc
    cases hc
    exact ⟨Ext.refl _ _, fun _ h => h, by simp⟩
/-- a list, a tuple, a text -/
@[simp] def mSeq (m : VE → M D) : VE → M (List D) := fun env s => (m env s).bind fun d s => match d with
  | .tup ds => .ok ds s
  | .lst ds => .ok ds s
  | .str x => .ok (x.cps.toList.map fun c => .str ⟨#[c]⟩) s
  | _ => .no
theorem pi_or {iter : Expr} {w1 w2 : TI} (h1 : PI X tg iter w1) (h2 : PI X tg iter w2) : PI X tg iter (fun σ H R => w1 σ H R ∨ w2 σ H R) := ⟨fun pins s σ H R I q => q.elim (h1.run pins s σ H R I) (h2.run pins s σ H R I)⟩
theorem ei_seq (hK : X.K = G.K) (h : EE X G l m) : EI X G tg l (mSeq m) :=
  pi_imp (pi_or (pi_list h) (pi_or (pi_tup h) (pi_str h))) fun σ H R h => by
    obtain ⟨W, env, s, hen, hs, h⟩ := h
    unfold mSeq at h
    cases q : m env s with
    | ok d s' =>
      have h0 := h
      rw [q] at h
      cases d with
      | tup ds =>
        refine .inr (.inl (tM_bindI hen hs h0 fun W1 H1 v x s1 e1 he1 hs1 rx q1 h1 => ?_))
        rw [q] at q1; cases q1
        obtain ⟨a, vs, rfl, hq, rs⟩ := rep_tup rx
        exact ⟨a, rfl, ⟨vs, hK ▸ hq⟩, h1.now hs1 rx (hK ▸ feed_tup (vs0 := vs))⟩
      | lst ds =>
        refine .inl (tM_bindI hen hs h0 fun W1 H1 v x s1 e1 he1 hs1 rx q1 h1 => ?_)
        rw [q] at q1; cases q1
        obtain ⟨a, vs, rfl, hq, _, rs⟩ := rep_lst rx
        exact ⟨a, rfl, ⟨vs, .inl (.inl hq)⟩, h1.now hs1 rx (hK ▸ feed_lst)⟩
      | str x =>
        refine .inr (.inr (tM_bindI hen hs h0 fun W1 H1 v x s1 e1 he1 hs1 rx q1 h1 => ?_))
        rw [q] at q1; cases q1
        exact ⟨_, rep_str rx, h1.now hs1 (d0 := .non) (v0 := .non) (by simp) feed_str⟩
      | _ => exact h.elim
    | exc x s' =>
      rw [q] at h
      exact .inl ⟨W, env, s, hen, hs, by rw [q]; exact h⟩
    | no => rw [q] at h; exact h.elim
/-- range -/
def rngD (lo hi : Int) : List D := (List.range (hi - lo).toNat).map fun (i : Nat) => .int (lo + i)
@[simp] def bRng1 (ds : List D) : M (List D) := fun s => match ds with
  | [.int j] => if RngOk j then .ok (rngD 0 j) s else .no
  | _ => .no
@[simp] def bRng2 (ds : List D) : M (List D) := fun s => match ds with
  | [.int i, .int j] => if RngOk i ∧ RngOk j then .ok (rngD i j) s else .no
  | _ => .no
@[simp] def mRng1 (l : VE → M (List D)) : VE → M (List D) := fun env s => (l env s).bind bRng1
@[simp] def mRng2 (l : VE → M (List D)) : VE → M (List D) := fun env s => (l env s).bind bRng2
theorem ei_rng1 {ml : VE → M (List D)} (hm : X.mg "range" = none) (ha : EA X G [a] ml) (hg : Gl X "range" := by rfl) (hs : starEach [a] X.env = [(false, eval a X.env)] := by rfl) : EI X G tg (.Call (.Name "range" p) [a] [] pos) (mRng1 ml) :=
  pi_imp (pi_range1 hg hm ha hs) fun σ H R h => by
    obtain ⟨W, env, s, hen, hs, h⟩ := h
    refine tML_bindI hen hs h fun W1 H1 vs ds s1 e1 he1 hs1 rs q h1 => ?_
    unfold bRng1 at h1
    split at h1
    · split at h1
      · rename_i j hz
        obtain ⟨v, rfl, r⟩ := rs.one
        refine ⟨j, by rw [rep_int r], by have := hz.1; omega, by have := hz.2; omega, h1.now hs1 (d0 := .non) (v0 := .non) (by simp) ?_⟩
        unfold rngD
        rw [Int.sub_zero]
        exact feed_rng
      · exact h1.elim
    · exact h1.elim
theorem ei_rng2 {ml : VE → M (List D)} (hm : X.mg "range" = none) (ha : EA X G [a, b] ml) (hg : Gl X "range" := by rfl) (hs : starEach [a, b] X.env = [(false, eval a X.env), (false, eval b X.env)] := by rfl) (hs2 : starEach [b] X.env = [(false, eval b X.env)] := by rfl) :
    EI X G tg (.Call (.Name "range" p) [a, b] [] pos) (mRng2 ml) :=
  pi_imp (pi_range2 hg hm ha hs hs2) fun σ H R h => by
    obtain ⟨W, env, s, hen, hs, h⟩ := h
    refine tML_bindI hen hs h fun W1 H1 vs ds s1 e1 he1 hs1 rs q h1 => ?_
    unfold bRng2 at h1
    split at h1
    · split at h1
      · rename_i i j hz
        obtain ⟨v, v', rfl, r, r'⟩ := rs.two
        exact ⟨i, j, by rw [rep_int r, rep_int r'], ⟨by have := hz.1.1; omega, by have := hz.1.2; omega, by have := hz.2.1; omega, by have := hz.2.2; omega⟩, h1.now hs1 (d0 := .non) (v0 := .non) (by simp) feed_rng⟩
      · exact h1.elim
    · exact h1.elim
end

/-! ### comprehensions -/
@[simp] def wipeE (env : VE) : List Nat → VE
  | [] => env
  | v :: vs => (wipeE env vs).set v none
@[simp] def tsYes : VE → M Bool := fun _ s => .ok true s
abbrev ETs (X : Cx) (G : Gx) (ifs : List Expr) (m : VE → M Bool) : Prop := PTs X ifs (tMT G m)
theorem pts_imp {X : Cx} {e : List Expr} {t t' : TT} (h : PTs X e t) (i : ∀ σ H Q, t' σ H Q → t σ H Q) : PTs X e t' := ⟨fun pins s σ H Q I q => h.run pins s σ H Q I (i σ H Q q)⟩
theorem ets_nil {X : Cx} {G : Gx} : ETs X G [] tsYes := pts_imp pts_nil fun σ H Q h => by
  obtain ⟨W, env, s, hen, hs, h⟩ := h
  exact h.now hs
theorem ets_one {X : Cx} {G : Gx} {c : Expr} {m : VE → M Bool} (h : ET X G c m) : ETs X G [c] m := pts_one h
/-- one turn -/
@[simp] def lcF (p : Pat) (tt : VE → M Bool) (te : VE → M D) (env : VE) (d : D) : M (Option D) := fun s => match p.run d with
  | none => .no
  | some as => (tt (setE env as) s).bind fun b s => if b = true then (te (setE env as) s).bind fun y s => .ok (some y) s else .ok none s
def lcGo (f : D → M (Option D)) : List D → M (List D)
  | [], s => .ok [] s
  | d :: r, s => (f d s).bind fun o s => (lcGo f r s).bind fun ys s => .ok (match o with | some y => y :: ys | none => ys) s
@[simp] def mLc (p : Pat) (vs : List Nat) (mi : VE → M (List D)) (tt : VE → M Bool) (te : VE → M D) : VE → M D := fun env s => (mi env s).bind fun ds s =>
  if LenOk ds.length then noX ((lcGo (lcF p tt te (wipeE env vs)) ds s).bind fun ys s => .ok (.lst ys) s) else .no

theorem getElem?_setNone {α : Type} (l : List (Option α)) (j i : Nat) (d : α) : (l.set j none)[i]? = some (some d) → l[i]? = some (some d) ∧ i ≠ j := fun h => by
  by_cases e : j = i
  · subst e
    by_cases hl : j < l.length
    · rw [List.getElem?_set_self hl] at h; cases h
    · rw [List.getElem?_eq_none (by simpa using hl)] at h; cases h
  · rw [List.getElem?_set_ne e] at h
    exact ⟨h, fun z => e z.symm⟩
theorem wipe_get {σ : L2.St} {i : Nat} : ∀ {vs : List Nat}, i ∉ vs → (wipe σ vs)[i]? = σ[i]?
  | [], _ => rfl
  | v :: vs, h => by
    simp only [List.mem_cons, not_or] at h
    unfold wipe
    rw [List.getElem?_set_ne (fun e => h.1 e.symm)]
    exact wipe_get h.2
section
variable {K : PySem.W.Frag} {W : Wd} {H : Hp} {σ : L2.St} {env : VE}
theorem wipeE_some {i : Nat} {d : D} : ∀ {vs : List Nat}, (wipeE env vs)[i]? = some (some d) → env[i]? = some (some d) ∧ i ∉ vs
  | [], h => ⟨h, by simp⟩
  | v :: vs, h => by
    unfold wipeE at h
    obtain ⟨h1, h2⟩ := getElem?_setNone _ _ _ _ h
    obtain ⟨h3, h4⟩ := wipeE_some h1
    exact ⟨h3, by simp only [List.mem_cons, not_or]; exact ⟨h2, h4⟩⟩
theorem wipeE_length : ∀ vs : List Nat, (wipeE env vs).length = env.length
  | [] => rfl
  | v :: vs => by unfold wipeE; rw [List.length_set, wipeE_length vs]
theorem EnvR.wipe (h : EnvR K W H σ env) (vs : List Nat) : EnvR K W H (wipe σ vs) (wipeE env vs) := by
  refine ⟨by rw [wipe_length, wipeE_length, h.1], fun i d q => ?_⟩
  obtain ⟨q1, q2⟩ := wipeE_some q
  obtain ⟨v, h1, h2⟩ := h.2 i d q1
  exact ⟨v, by rw [wipe_get q2]; exact h1, h2⟩
theorem EnvR.set {i : Nat} {d : D} {v : V} (h : EnvR K W H σ env) (r : Rep K W H d v) : EnvR K W H (σ.set i (some v)) (env.set i (some d)) := by
  refine ⟨by simp [h.1], fun j e q => ?_⟩
  by_cases hj : i = j
  · subst hj
    by_cases hl : i < env.length
    · rw [List.getElem?_set_self hl] at q
      cases q
      exact ⟨v, List.getElem?_set_self (by rw [h.1]; exact hl), r⟩
    · rw [List.getElem?_eq_none (by simpa using hl)] at q; cases q
  · rw [List.getElem?_set_ne hj] at q
    obtain ⟨w, h1, h2⟩ := h.2 j e q
    exact ⟨w, by rw [List.getElem?_set_ne hj]; exact h1, h2⟩
end
theorem EnvR.setA {K : PySem.W.Frag} {W : Wd} {H : Hp} : ∀ {as : List (Nat × D)} {bs : List (Nat × V)} {σ : L2.St} {env : VE}, EnvR K W H σ env → AsR K W H as bs → EnvR K W H (setA σ bs) (setE env as)
  | [], bs, σ, env, h, g => by simp only [AsR] at g; subst g; exact h
  | (i, d) :: r, bs, σ, env, h, g => by
    simp only [AsR] at g
    obtain ⟨v, q, rfl, h1, h2⟩ := g
    show EnvR K W H (L2.Mir.setA (σ.set i (some v)) q) (setE (env.set i (some d)) r)
    exact EnvR.setA (h.set h1) h2
theorem wipe_set {vs : List Nat} : ∀ {i : Nat} {σ : L2.St} {o : Option V}, i ∈ vs → wipe (σ.set i o) vs = wipe σ vs := by
  have comm : ∀ (vs : List Nat) (σ : L2.St) (i : Nat) (o : Option V), i ∉ vs → wipe (σ.set i o) vs = (wipe σ vs).set i o := by
    intro vs
    induction vs with
    | nil => intro σ i o _; rfl
    | cons v vs ih =>
      intro σ i o h
      simp only [List.mem_cons, not_or] at h
      simp only [wipe]
      rw [ih σ i o h.2, List.set_comm _ _ h.1]
  induction vs with
  | nil => intro i σ o h; cases h
  | cons v vs ih =>
    intro i σ o h
    simp only [wipe]
    by_cases hi : i ∈ vs
    · rw [ih hi]
    · have e : i = v := (List.mem_cons.mp h).elim id fun z => absurd z hi
      subst e
      rw [comm vs σ i o hi, List.set_set]
theorem wipe_wipe {vs : List Nat} {σ : L2.St} : wipe (wipe σ vs) vs = wipe σ vs := by
  have key : ∀ (us : List Nat) (σ : L2.St), (∀ u ∈ us, u ∈ vs) → wipe (wipe σ us) vs = wipe σ vs := by
    intro us
    induction us with
    | nil => intro σ _; rfl
    | cons u us ih =>
      intro σ h
      simp only [wipe]
      rw [wipe_set (h u List.mem_cons_self), ih σ fun x hx => h x (List.mem_cons_of_mem _ hx)]
  exact key vs σ fun _ h => h
theorem wipe_setA {vs : List Nat} : ∀ {bs : List (Nat × V)} {σ : L2.St}, (∀ q ∈ bs, q.1 ∈ vs) → wipe (setA σ bs) vs = wipe σ vs
  | [], σ, _ => rfl
  | (i, v) :: r, σ, h => by
    simp only [setA]
    rw [wipe_setA fun q hq => h q (List.mem_cons_of_mem _ hq), wipe_set (h (i, v) List.mem_cons_self)]
mutual
theorem run_slots : ∀ {p : Pat} {d : D} {as : List (Nat × D)}, p.run d = some as → as.map (·.1) = p.slots
  | .n i, d, as, h => by simp only [Pat.run, Option.some.injEq] at h; subst h; rfl
  | .t ps, .tup ds, as, h => by simp only [Pat.run] at h; simp only [Pat.slots]; exact runs_slots h
  | .t _, .non, _, h => by simp [Pat.run] at h
  | .t _, .bl _, _, h => by simp [Pat.run] at h
  | .t _, .int _, _, h => by simp [Pat.run] at h
  | .t _, .str _, _, h => by simp [Pat.run] at h
  | .t _, .lst _, _, h => by simp [Pat.run] at h
  | .t _, .st, _, h => by simp [Pat.run] at h
  | .t _, .fn _, _, h => by simp [Pat.run] at h
  | .t _, .dic _ _, _, h => by simp [Pat.run] at h
  | .t _, .dicT _ _, _, h => by simp [Pat.run] at h
theorem runs_slots : ∀ {ps : List Pat} {ds : List D} {as : List (Nat × D)}, Pat.runs ps ds = some as → as.map (·.1) = Pat.slotss ps
  | [], [], as, h => by simp only [Pat.runs, Option.some.injEq] at h; subst h; rfl
  | [], _ :: _, _, h => by simp [Pat.runs] at h
  | _ :: _, [], _, h => by simp [Pat.runs] at h
  | p :: ps, d :: ds, as, h => by
    simp only [Pat.runs] at h
    split at h
    · rename_i a b qa qb
      simp only [Option.some.injEq] at h
      subst h
      simp only [List.map_append, Pat.slotss]
      rw [run_slots qa, runs_slots qb]
    · cases h
end
theorem AsR.slots {K : PySem.W.Frag} {W : Wd} {H : Hp} : ∀ {as : List (Nat × D)} {bs : List (Nat × V)}, AsR K W H as bs → bs.map (·.1) = as.map (·.1)
  | [], bs, h => by simp only [AsR] at h; subst h; rfl
  | (i, d) :: r, bs, h => by
    simp only [AsR] at h
    obtain ⟨v, q, rfl, _, h2⟩ := h
    simp [AsR.slots h2]

/-- a fresh list that no value leans on may change -/
theorem Mn.updFree {W : Wd} {H : Hp} {p : Addr} {o : HO} {xs : List V} (hp : H p = some (.lst xs)) (nf : ¬ W.F p) : Mn W H W (upd H p o) where
  tups := fun a ys h => by
    have ne : a ≠ p := fun e => by
      subst e
      rcases h with h | ⟨b, h⟩ <;> (rw [hp] at h; cases h)
    rcases h with h | ⟨b, h⟩
    · exact .inl (by rw [upd_ne ne]; exact h)
    · exact .inr ⟨b, by rw [upd_ne ne]; exact h⟩
  frs := fun a u f h => by
    have ne : a ≠ p := fun e => nf (e ▸ f)
    rw [upd_ne ne]; exact h
  fsub := fun _ h => h
  ssub := fun _ h => h
theorem WS.updFree {W : Wd} {H : Hp} {s : DS} {p : Addr} {o : HO} (h : WS W s H) (n : ¬ W.isS p) : WS W s (upd H p o) := by
  refine ⟨fun a f => dom_upd (h.1 a f), ?_⟩
  rcases h.2 with h | ⟨sa, ca, i, cells, h0, h00, h1, h2, h3, h4, h5⟩
  · exact .inl h
  · exact .inr ⟨sa, ca, i, cells, h0, h00, by rw [upd_ne fun e => n ⟨_, h0, .inl e.symm⟩]; exact h1, by rw [upd_ne fun e => n ⟨_, h0, .inr e.symm⟩]; exact h2, h3, h4, h5⟩
/-- .. as seen from a heap in which it was not yet there -/
theorem Ext.updFree {W W' : Wd} {H H' : Hp} {p : Addr} {o : HO} {xs : List V} (e : Ext W H W' H') (n : H p = none) : Ext W H W' (upd H' p o) where
  keep := fun a u h ns => by rw [upd_ne (ne_of_none h n)]; exact e.keep a u h ns
  tups := fun a ys h => by
    have ne : a ≠ p := by rcases h with h | ⟨b, h⟩ <;> exact ne_of_none h n
    rcases e.tups a ys h with q | ⟨b, q⟩
    · exact .inl (by rw [upd_ne ne]; exact q)
    · exact .inr ⟨b, by rw [upd_ne ne]; exact q⟩
  frs := fun a u f h => by rw [upd_ne (ne_of_none h n)]; exact e.frs a u f h
  dom := fun a h => by
    by_cases q : a = p
    · subst q; exact n
    · rw [upd_ne q] at h; exact e.dom a h
  fsub := e.fsub
  fnew := e.fnew
  ssub := e.ssub
  snew := e.snew
theorem Ext.addF {W W' : Wd} {H H' : Hp} {p : Addr} (e : Ext W H W' H') (n : H p = none) : Ext W H (W'.add p) H' where
  keep := e.keep
  tups := e.tups
  frs := e.frs
  dom := e.dom
  fsub := fun a h => .inl (e.fsub a h)
  fnew := fun a h => h.elim (e.fnew a) fun q => .inr (q ▸ n)
  ssub := e.ssub
  snew := e.snew
theorem WS.addF {W : Wd} {H : Hp} {s : DS} {p : Addr} {o : HO} (h : WS W s H) (hp : H p = some o) (n : ¬ W.isS p) : WS (W.add p) s H := by
  refine ⟨fun a f => f.elim (h.1 a) fun e => ⟨o, by rw [e]; exact hp⟩, ?_⟩
  rcases h.2 with h | ⟨sa, ca, i, cells, h0, h00, h1, h2, h3, h4, h5⟩
  · exact .inl h
  · exact .inr ⟨sa, ca, i, cells, h0, h00, h1, h2, h3, fun z => z.elim h4 fun e => n ⟨_, h0, .inl e.symm⟩, fun z => z.elim h5 fun e => n ⟨_, h0, .inr e.symm⟩⟩
theorem Mn.addF {W : Wd} {H : Hp} {p : Addr} : Mn W H (W.add p) H := ⟨fun _ _ h => h, fun _ _ _ h => h, fun _ h => .inl h, fun _ h => h⟩
/-- what is not tracked is neither frozen nor the state -/
theorem Ext.notS {W W' : Wd} {H H' : Hp} {p : Addr} {o : HO} (e : Ext W H W' H') (h : H p = some o) (n : ¬ W.isS p) : ¬ W'.isS p := e.isS h n
theorem Ext.notF {W W' : Wd} {H H' : Hp} {p : Addr} {o : HO} (e : Ext W H W' H') (h : H p = some o) (n : ¬ W.F p) : ¬ W'.F p := fun z => by
  rcases e.fnew p z with q | q
  · exact n q
  · rw [q] at h; cases h
/-- what is free is not the state -/
theorem WS.freeS {W : Wd} {H : Hp} {s : DS} {p : Addr} (h : WS W s H) (n : H p = none) : ¬ W.isS p := by
  rintro ⟨q, hq, hp⟩
  rcases h.2 with ⟨h, _⟩ | ⟨sa, ca, i, cells, h0, h00, h1, h2, h3, h4, h5⟩
  · rw [h] at hq; cases hq
  · rw [h0] at hq; cases hq
    rcases hp with rfl | rfl
    · rw [n] at h1; cases h1
    · rw [n] at h2; cases h2
theorem WS.freeF {W : Wd} {H : Hp} {s : DS} {p : Addr} (h : WS W s H) (n : H p = none) : ¬ W.F p := fun f => by
  obtain ⟨o, q⟩ := h.1 p f
  rw [n] at q; cases q

/-! ### the comprehension -/
section
variable {X : Cx} {G : Gx}
/-- the reading of a loop that fills the new list at L -/
theorem lc_read {p : Pat} {vs : List Nat} {tt : VE → M Bool} {te : VE → M D} {ds : List D} {σ : L2.St} {env : VE} {W : Wd} {H : Hp} {s : DS} {Q : VK} {J : It} {d0 : D} {v0 : V} {L : Addr}
    (hv : ∀ i ∈ p.slots, i ∈ vs) (hen : EnvR G.K W H σ env) (hs : WS W s H) (r0 : Rep G.K W H d0 v0) (F : Feed G.K J d0 v0 ds) (hz : ds.length ≤ sizeLine) (hL : H L = none) {all : List D} {sE : DS}
    (hgo : lcGo (lcF p tt te (wipeE env vs)) ds s = .ok all sE)
    (fin : ∀ W' H' us, Ext W H W' H' → WS W' sE H' → H' L = some (.lst us) → Reps G.K W' H' all us → ¬ W'.F L → ¬ W'.isS L → Q (.ref L) H') :
    ∃ Wm : Nat → Nat → Hp → Prop, (∃ m, Wm 0 m (upd H L (.lst []))) ∧ ∀ i m H, Wm i m H → (J.stop i H ∧ Q (.ref L) H) ∨ (J.go i H ∧ ∃ Nx : Hp → Prop, (∀ H', Nx H' → ∃ m', m' < m ∧ Wm (i + 1) m' H') ∧ ∀ x H', J.yld i H x H' → gP G.K p x (wipe σ vs) H' fun σ2 H2 => wipe σ2 vs = wipe σ vs ∧ tMT G tt σ2 H2 fun b H3 =>
      if b = true then tM G te σ2 H3 fun y H4 => ∃ acc, H4 L = some (.lst acc) ∧ acc.length < sizeLine ∧ Nx (upd H4 L (.lst (acc ++ [y]))) else Nx H3) := by
  have nS := hs.freeS hL
  have nF := hs.freeF hL
  let f := lcF p tt te (wipeE env vs)
  let P : Nat → Hp → Prop := fun i H' => ∃ W' s' acc us rem, Ext W H W' H' ∧ WS W' s' H' ∧ H' L = some (.lst us) ∧ Reps G.K W' H' acc us ∧ acc.length ≤ i ∧ ¬ W'.F L ∧ ¬ W'.isS L ∧
    lcGo f (ds.drop i) s' = .ok rem sE ∧ acc ++ rem = all
  refine ⟨fun i m H' => m = ds.length - i ∧ i ≤ ds.length ∧ P i H', ⟨_, rfl, Nat.zero_le _, W, s, [], [], all, Ext.new hL, WS.new hL hs, upd_same, by simp [Reps], by simp, nF, nS, by simpa using hgo, by simp⟩, ?_⟩
  rintro i m H1 ⟨rfl, hi, W1, s1, acc, us, rem, e1, ws1, hD, ra, la, nF1, nS1, h1, hall⟩
  have r1 := Rep.ext e1 _ _ r0
  obtain ⟨F1, F2⟩ := F W1 H1 r1
  by_cases hlt : i < ds.length
  · refine .inr ?_
    have hd : ds[i]? = some ds[i] := List.getElem?_eq_getElem hlt
    obtain ⟨go, yl⟩ := F1 i _ hd
    refine ⟨go, P (i + 1), fun H' q => ⟨ds.length - (i + 1), by omega, rfl, by omega, q⟩, fun x H2 hy => ?_⟩
    obtain ⟨e2, w2, rx⟩ := yl x H2 hy
    have ws2 := w2 s1 ws1
    rw [List.drop_eq_getElem_cons hlt] at h1
    simp only [lcGo] at h1
    have hen2 : EnvR G.K W1 H2 (wipe σ vs) (wipeE env vs) := ((hen.ext e1).ext e2).wipe vs
    -- one turn
    cases q1 : f ds[i] s1 with
    | no => rw [q1] at h1; cases h1
    | exc x' s' => rw [q1] at h1; cases h1
    | ok o s5 =>
      rw [q1] at h1
      simp only [bind_ok] at h1
      cases q7 : lcGo f (ds.drop (i + 1)) s5 with
      | no => rw [q7] at h1; cases h1
      | exc x' s' => rw [q7] at h1; cases h1
      | ok ys s6 =>
        rw [q7] at h1
        simp only [bind_ok, Res.ok.injEq] at h1
        obtain ⟨hrem, rfl⟩ := h1
        have q1' : lcF p tt te (wipeE env vs) ds[i] s1 = .ok o s5 := q1
        unfold lcF at q1'
        split at q1'
        · cases q1'
        · rename_i as qa
          refine ⟨W1, ds[i], as, rx, qa, fun bs hb => ⟨?_, ?_⟩⟩
          · rw [wipe_setA (fun q hq => hv _ ?_), wipe_wipe]
            have : q.1 ∈ bs.map (·.1) := List.mem_map_of_mem hq
            rw [hb.slots, run_slots qa] at this
            exact this
          · have hen3 := hen2.setA hb
            refine ⟨W1, _, s1, hen3, ws2, ?_⟩
            cases q2 : tt (setE (wipeE env vs) as) s1 with
            | no => rw [q2] at q1'; cases q1'
            | exc x' s' => rw [q2] at q1'; cases q1'
            | ok b s3 =>
              rw [q2] at q1'
              simp only [bind_ok] at q1'
              intro W3 H3 e3 ws3
              have hD3 : H3 L = some (.lst us) := e3.keep L _ (e2.keep L _ hD nS1) nS1
              have nS3 : ¬ W3.isS L := e3.isS (e2.keep L _ hD nS1) nS1
              have nF3 : ¬ W3.F L := e3.notF (e2.keep L _ hD nS1) nF1
              have ra3 := Reps.ext e3 _ _ (Reps.ext e2 _ _ ra)
              cases b with
              | true =>
                rw [if_pos rfl] at q1' ⊢
                cases q3 : te (setE (wipeE env vs) as) s3 with
                | no => rw [q3] at q1'; cases q1'
                | exc x' s' => rw [q3] at q1'; cases q1'
                | ok y s4 =>
                  rw [q3] at q1'
                  simp only [bind_ok, Res.ok.injEq] at q1'
                  obtain ⟨rfl, rfl⟩ := q1'
                  refine ⟨W3, _, s3, hen3.ext e3, ws3, ?_⟩
                  rw [q3]
                  intro W4 H4 v4 e4 ws4 r4
                  have hD4 := e4.keep L _ hD3 nS3
                  have nS4 := e4.isS hD3 nS3
                  have nF4 := e4.notF hD3 nF3
                  have ra4 := Reps.ext e4 _ _ ra3
                  have l4 := ra4.length
                  refine ⟨us, hD4, by omega, W4, s4, acc ++ [y], us ++ [v4], ys, ?_, ws4.updFree nS4, upd_same, ?_, by simp; omega, nF4, nS4, q7, by rw [← hall, ← hrem]; simp⟩
                  · exact Ext.updFree (xs := us) (((e1.trans e2).trans e3).trans e4) hL
                  · have m4 := Mn.updFree (o := .lst (us ++ [v4])) hD4 nF4
                    exact Reps.mn m4 _ _ (ra4.append (by simp only [Reps]; exact ⟨v4, [], rfl, r4, rfl⟩))
              | false =>
                rw [if_neg Bool.false_ne_true] at q1' ⊢
                simp only [Res.ok.injEq] at q1'
                obtain ⟨rfl, rfl⟩ := q1'
                exact ⟨W3, s3, acc, us, ys, (e1.trans e2).trans e3, ws3, hD3, ra3, by omega, nF3, nS3, q7, by rw [← hall, ← hrem]⟩
  · refine .inl ?_
    have e : i = ds.length := by omega
    subst e
    refine ⟨F2, ?_⟩
    rw [List.drop_length] at h1
    simp only [lcGo, Res.ok.injEq] at h1
    obtain ⟨rfl, rfl⟩ := h1
    rw [List.append_nil] at hall
    subst hall
    exact fin W1 H1 us e1 ws1 hD ra nF1 nS1
variable {elt tg iter : Expr} {ifs : List Expr} {scope : Scope} {own : List (Str × Nat)} {pos : Pos} {p : Pat} {mi : VE → M (List D)} {tt : VE → M Bool} {te : VE → M D}
theorem lc_tLc (hv : (p.slots.all fun i => (own.map (·.2)).contains i) = true) {σ : L2.St} {H : Hp} {Q : VK} (h : tM G (mLc p (own.map (·.2)) mi tt te) σ H Q) : tLc (tMI G mi) (gP G.K p) (tMT G tt) (tM G te) (own.map (·.2)) σ H Q := by
  obtain ⟨W, env, s, hen, hs, h⟩ := h
  refine ⟨W, env, s, hen, hs, ?_⟩
  unfold mLc at h
  cases q : mi env s with
  | no => rw [q] at h; exact h
  | exc x' s' => rw [q] at h; exact h
  | ok ds s1 =>
    rw [q] at h
    simp only [bind_ok] at h
    intro W1 H1 J d0 v0 e1 ws1 r0 F L hL
    split at h
    · rename_i hz
      cases q2 : lcGo (lcF p tt te (wipeE env (own.map (·.2)))) ds s1 with
      | no => rw [q2] at h; exact h.elim
      | exc x' s' => rw [q2] at h; exact h.elim
      | ok all sE =>
        rw [q2] at h
        refine lc_read (fun i hi => by simpa using List.all_eq_true.mp hv i hi) (hen.ext e1) ws1 r0 F hz hL q2 fun W' H' us e ws hD ra nF nS => ?_
        refine h (W'.add L) H' _ ((e1.trans e).addF (e1.dom L hL)) (ws.addF hD nS) ?_
        simp only [Rep]
        exact ⟨L, us, rfl, hD, .inr rfl, Reps.mn Mn.addF _ _ ra⟩
    · exact h.elim
theorem ee_lc (hc : X.calm = true) (hN : X.N.Nodup) (hi : EI X G tg iter mi) (ok : BlkOk X.N X.env.scope scope own)
    (hv : (p.slots.all fun i => (own.map (·.2)).contains i) = true)
    (hg : ∀ (s : Shared) (H : Hp) (C : Addr) (cl : List (Str × Addr)) (fp : List Addr), EG (X.blk s H scope (compEnvC scope cl C X.env) fp) G.K tg p) (ht : ∀ (s : Shared) (H : Hp) (C : Addr) (cl : List (Str × Addr)) (fp : List Addr), ETs (X.blk s H scope (compEnvC scope cl C X.env) fp) G ifs tt)
    (he : ∀ (s : Shared) (H : Hp) (C : Addr) (cl : List (Str × Addr)) (fp : List Addr), EE (X.blk s H scope (compEnvC scope cl C X.env) fp) G elt te) (hs : ∀ x, foldedSetIterable iter X.env x = pure x := by intro _; rfl) :
    EE X G (.ListComp elt [⟨tg, iter, ifs, 0⟩] scope pos) (mLc p (own.map (·.2)) mi tt te) :=
  pe_imp (pe_lc hc hN hi ok hg ht he hs) fun _ _ _ h => lc_tLc hv h
end

/-! ### a fresh list, not yet frozen -/
def AftF (G : Gx) (W : Wd) (H : Hp) (r : Res D) (Q : VK) : Prop := match r with
  | .ok (.lst ds) s' => ∀ W' H' p vs, Ext W H W' H' → WS W' s' H' → H p = none → H' p = some (.lst vs) → Reps G.K W' H' ds vs → ¬ W'.F p → ¬ W'.isS p → Q (.ref p) H'
  | .ok _ _ => False
  | .exc x s' => ∀ W' H' c dd, Ext W H W' H' → WS W' s' H' → G.xr G.K x c dd H' → G.E c dd H'
  | .no => False
theorem AftF.ext {G : Gx} {W W' : Wd} {H H' : Hp} {r : Res D} {Q : VK} (e : Ext W H W' H') (h : AftF G W H r Q) : AftF G W' H' r Q := by
  cases r with
  | ok d s =>
    cases d with
    | lst ds => exact fun W2 H2 p vs e2 ws hp => h W2 H2 p vs (e.trans e2) ws (e.dom p hp)
    | _ => exact h
  | exc x s => exact fun W2 H2 c dd e2 ws rp => h W2 H2 c dd (e.trans e2) ws rp
  | no => exact h
def tMF (G : Gx) (m : VE → M D) : TE := fun σ H Q => ∃ W env s, EnvR G.K W H σ env ∧ WS W s H ∧ AftF G W H (m env s) Q
abbrev EF (X : Cx) (G : Gx) (e : Expr) (m : VE → M D) : Prop := PE X e (tMF G m)
theorem AftF.lst {G : Gx} {W : Wd} {H : Hp} {s : DS} {ds : List D} {vs : List V} {Q : VK} {p : Addr} (h : AftF G W H (.ok (.lst ds) s) Q) (hs : WS W s H) (r : Reps G.K W H ds vs) (n : H p = none) : Q (.ref p) (upd H p (.lst vs)) :=
  h W _ p vs (Ext.new n) (WS.new n hs) n upd_same (Reps.ext (Ext.new n) ds vs r) (hs.freeF n) (hs.freeS n)
theorem tML_bindF {G : Gx} {W : Wd} {H : Hp} {σ : L2.St} {env : VE} {s : DS} {m : VE → M (List D)} {f : List D → DS → Res D} {Q : VK} {R : List V → Hp → Prop} (he : EnvR G.K W H σ env) (hs : WS W s H) (h : AftF G W H ((m env s).bind f) Q)
    (k : ∀ W' H' vs ds s', Ext W H W' H' → EnvR G.K W' H' σ env → WS W' s' H' → Reps G.K W' H' ds vs → m env s = .ok ds s' → AftF G W' H' (f ds s') Q → R vs H') : tML G m σ H R := by
  refine ⟨W, env, s, he, hs, ?_⟩
  cases q : m env s with
  | ok d s' =>
    rw [q] at h
    exact fun W' H' v e ws rp => k W' H' v d s' e (he.ext e) ws rp q (AftF.ext e h)
  | exc x s' => rw [q] at h; exact h
  | no => rw [q] at h; exact h
theorem tM_bindF {G : Gx} {W : Wd} {H : Hp} {σ : L2.St} {env : VE} {s : DS} {m : VE → M D} {f : D → DS → Res D} {Q : VK} {R : VK} (he : EnvR G.K W H σ env) (hs : WS W s H) (h : AftF G W H ((m env s).bind f) Q)
    (k : ∀ W' H' vs ds s', Ext W H W' H' → EnvR G.K W' H' σ env → WS W' s' H' → Rep G.K W' H' ds vs → m env s = .ok ds s' → AftF G W' H' (f ds s') Q → R vs H') : tM G m σ H R := by
  refine ⟨W, env, s, he, hs, ?_⟩
  cases q : m env s with
  | ok d s' =>
    rw [q] at h
    exact fun W' H' v e ws rp => k W' H' v d s' e (he.ext e) ws rp q (AftF.ext e h)
  | exc x s' => rw [q] at h; exact h
  | no => rw [q] at h; exact h
section
variable {X : Cx} {G : Gx} {a b e : Expr} {ma mb : VE → M D} {es : List Expr} {ml : VE → M (List D)} {pos : Pos}
theorem ef_lst {n : Nat} (h : EA X G es ml) (hl : LenM ml n) (hn : n ≤ 1000 := by decide) : EF X G (.List es pos) (mLst ml) :=
  pe_imp (pe_lst h) fun σ H Q h => by
    obtain ⟨W, env, s, hen, hs, h⟩ := h
    exact tML_bindF hen hs h fun W1 H1 vs ds s1 e1 he1 hs1 rs q h1 => ⟨by rw [rs.length, hl _ _ _ _ q]; exact small hn, fun p hp => h1.lst hs1 rs hp⟩
theorem ef_mul (ha : EE X G a ma) (hb : EE X G b mb) : EF X G (.BinOp a .Mult b pos) (mBin opMul ma mb) :=
  pe_imp (pe_op op_rep ha hb) fun σ H Q h => by
    obtain ⟨W, env, s, hen, hs, h⟩ := h
    refine tM_bindF hen hs h fun W1 H1 v x s1 e1 he1 hs1 rx _ h1 => ?_
    refine tM_bindF he1 hs1 h1 fun W2 H2 u y s2 e2 he2 hs2 ry _ h2 => ?_
    unfold opMul at h2
    split at h2
    · split at h2 <;> exact h2.elim
    · split at h2
      · rename_i hz
        obtain ⟨p, vs, rfl, g1, f1, r1⟩ := rep_lst (Rep.ext e2 _ _ rx)
        have l1 := r1.length
        exact ⟨p, _, vs, rfl, rep_int ry, g1, by have := hz.1.1; omega, by have := hz.1.2; omega, by rw [l1]; exact hz.2, fun p' hp => h2.lst hs2 (r1.rep _) hp⟩
      · exact h2.elim
    · exact h2.elim
theorem ef_add (ha : EE X G a ma) (hb : EE X G b mb) : EF X G (.BinOp a .Add b pos) (mBin opAdd ma mb) :=
  pe_imp (pe_op op_cat ha hb) fun σ H Q h => by
    obtain ⟨W, env, s, hen, hs, h⟩ := h
    refine tM_bindF hen hs h fun W1 H1 v x s1 e1 he1 hs1 rx _ h1 => ?_
    refine tM_bindF he1 hs1 h1 fun W2 H2 u y s2 e2 he2 hs2 ry _ h2 => ?_
    unfold opAdd at h2
    split at h2
    · exact h2.elim
    · split at h2 <;> exact h2.elim
    · split at h2
      · exact h2.elim
      · exact h2.elim
    · split at h2
      · rename_i hz
        have hz := hz.le
        obtain ⟨p, vs, rfl, g1, f1, r1⟩ := rep_lst (Rep.ext e2 _ _ rx)
        obtain ⟨q, us, rfl, g2, f2, r2⟩ := rep_lst ry
        have l1 := r1.length
        have l2 := r2.length
        exact ⟨p, q, vs, us, rfl, rfl, g1, g2, by omega, fun p' hp => h2.lst hs2 (r1.append r2) hp⟩
      · exact h2.elim
    · exact h2.elim
theorem ef_list {x : Str} {p : Pos} (hK : X.K = G.K) (hm : X.mg x = none) (hv : bootBuiltins x = some (.type "list")) (ha : EA X G (e :: es) ml) (hg : Gl X x := by rfl)
    (hn : x ≠ "__name__" := by decide) (hdb : (x == ("__debug__" : Str)) = false := by decide) (he : starEach (e :: es) X.env = (false, eval e X.env) :: starEach es X.env := by rfl) (hpl : (backTo pos (starEach es X.env)).any (·.1) = false := by rfl) :
    EF X G (.Call (.Name x p) (e :: es) [] pos) (mCB bList ml) :=
  pe_imp (pe_callTy call_list_of hg hm hv ha hn hdb he hpl) fun σ H Q h => by
    obtain ⟨W, env, s, hen, hs, h⟩ := h
    refine tML_bindF hen hs h fun W1 H1 vs ds s1 e1 he1 hs1 rs q h1 => ?_
    unfold bList at h1
    split at h1
    · obtain ⟨v, rfl, r⟩ := rs.one
      obtain ⟨a, us, rfl, g1, r1⟩ := rep_tup r
      exact ⟨a, us, rfl, .inr (hK ▸ g1), fun l hl => h1.lst hs1 r1 hl⟩
    · obtain ⟨v, rfl, r⟩ := rs.one
      obtain ⟨a, us, rfl, g1, _, r1⟩ := rep_lst r
      exact ⟨a, us, rfl, .inl (.inl (.inl g1)), fun l hl => h1.lst hs1 r1 hl⟩
    · exact h1.elim
theorem ef_slL {lo hi : Option Expr} {ml mh : MP} {p2 : Pos} (ha : EE X G a ma) (hl : EP' X G lo ml) (hh : EP' X G hi mh) : EF X G (.Subscript a (.Slice lo hi none p2) pos) (mSl ma ml mh) :=
  pe_imp (pe_slice sl_list ha hl hh) fun σ H Q h => by
    obtain ⟨W, env, s, hen, hs, h⟩ := h
    refine tM_bindF hen hs h fun W1 H1 v x s1 e1 he1 hs1 rx _ h1 => ?_
    refine ⟨W1, env, s1, he1, hs1, ?_⟩
    cases q : ml env s1 with
    | ok l s2 =>
      rw [q] at h1
      intro W2 H2 e2 ws2
      have h2 := AftF.ext e2 h1
      simp only [bind_ok] at h2
      refine ⟨W2, env, s2, he1.ext e2, ws2, ?_⟩
      cases q2 : mh env s2 with
      | ok u s3 =>
        rw [q2] at h2
        intro W3 H3 e3 ws3
        have h3 := AftF.ext e3 h2
        simp only [bind_ok] at h3
        have rx3 := Rep.ext e3 _ _ (Rep.ext e2 _ _ rx)
        unfold opSl at h3
        split at h3
        · obtain ⟨p, vs, rfl, g1, _, r1⟩ := rep_lst rx3
          exact ⟨p, vs, rfl, .inl (.inl g1), fun p' hp => h3.lst ws3 (r1.cut l u) hp⟩
        · split at h3 <;> exact h3.elim
        · split at h3 <;> exact h3.elim
        · exact h3.elim
      | exc x s' => rw [q2] at h2; exact h2
      | no => rw [q2] at h2; exact h2
    | exc x s' => rw [q] at h1; exact h1
    | no => rw [q] at h1; exact h1
variable {elt tg iter : Expr} {ifs : List Expr} {scope : Scope} {own : List (Str × Nat)} {p : Pat} {mi : VE → M (List D)} {tt : VE → M Bool} {te : VE → M D}
theorem lc_tLcF (hv : (p.slots.all fun i => (own.map (·.2)).contains i) = true) {σ : L2.St} {H : Hp} {Q : VK} (h : tMF G (mLc p (own.map (·.2)) mi tt te) σ H Q) : tLc (tMI G mi) (gP G.K p) (tMT G tt) (tM G te) (own.map (·.2)) σ H Q := by
  obtain ⟨W, env, s, hen, hs, h⟩ := h
  refine ⟨W, env, s, hen, hs, ?_⟩
  unfold mLc at h
  cases q : mi env s with
  | no => rw [q] at h; exact h
  | exc x' s' => rw [q] at h; exact h
  | ok ds s1 =>
    rw [q] at h
    simp only [bind_ok] at h
    intro W1 H1 J d0 v0 e1 ws1 r0 F L hL
    split at h
    · rename_i hz
      cases q2 : lcGo (lcF p tt te (wipeE env (own.map (·.2)))) ds s1 with
      | no => rw [q2] at h; exact h.elim
      | exc x' s' => rw [q2] at h; exact h.elim
      | ok all sE =>
        rw [q2] at h
        exact lc_read (fun i hi => by simpa using List.all_eq_true.mp hv i hi) (hen.ext e1) ws1 r0 F hz hL q2 fun W' H' us e ws hD ra nF nS => h W' H' L us (e1.trans e) ws (e1.dom L hL) hD ra nF nS
    · exact h.elim
end
end
end L2.Mir

set_option Elab.async false
set_option linter.all false
set_option maxRecDepth 100000
namespace L2.Mir
open PySem PySem.Spec PyProof.Rows
noncomputable section

/-- a slot: nothing, a value, a list that is the slot's own (to be changed) -/
inductive Sl where
  | no | val (d : D) | own (ds : List D)
abbrev SE := List Sl
@[simp] def Sl.hide : Sl → Option D
  | .val d => some d
  | _ => none
@[simp] def Sl.view : Sl → Option D
  | .val d => some d
  | .own ds => some (.lst ds)
  | .no => none
@[simp] def hideE (env : SE) : VE := env.map Sl.hide
@[simp] def viewE (env : SE) : VE := env.map Sl.view
inductive Fl where
  | nx (env : SE) | rt (d : D) | bk (env : SE) | ct (env : SE)
abbrev MS := SE → DS → Res Fl
mutual
/-- no list within -/
@[simp] def D.flat : D → Bool
  | .tup ds => D.flats ds
  | .lst _ => false
  | .dic _ _ => false
  | .dicT _ _ => false
  | _ => true
@[simp] def D.flats : List D → Bool
  | [] => true
  | d :: ds => D.flat d && D.flats ds
end
/-- the slot's own list's place -/
def OwnAt (env : SE) (σ : L2.St) (p : Addr) : Prop := ∃ (i : Nat) (ds : List D), env[i]? = some (.own ds) ∧ σ[i]? = some (some (.ref p))
structure StOk (K : PySem.W.Frag) (H0 : Hp) (W0 : Wd) (pins : List (D × V)) (W : Wd) (H : Hp) (σ : L2.St) (env : SE) (s : DS) : Prop where
  len : σ.length = env.length
  val : ∀ (i : Nat) (d : D), env[i]? = some (.val d) → ∃ v, σ[i]? = some (some v) ∧ Rep K W H d v
  own : ∀ (i : Nat) (ds : List D), env[i]? = some (.own ds) → ∃ p vs, σ[i]? = some (some (.ref p)) ∧ H p = some (.lst vs) ∧ Reps K W H ds vs ∧ ¬ W.F p ∧ ¬ W.isS p ∧ H0 p = none
  dist : ∀ (i j : Nat) (ds es : List D) (p : Addr), i ≠ j → env[i]? = some (.own ds) → env[j]? = some (.own es) → σ[i]? = some (some (.ref p)) → σ[j]? ≠ some (some (.ref p))
  ext : Ext W0 H0 W H
  ws : WS W s H
  pin : ∀ q ∈ pins, Rep K W H q.1 q.2

section
variable {K : PySem.W.Frag} {H0 : Hp} {W0 : Wd} {pins : List (D × V)} {W W' : Wd} {H H' : Hp} {σ : L2.St} {env : SE} {s s' : DS}
theorem StOk.hid (h : StOk K H0 W0 pins W H σ env s) : EnvR K W H σ (hideE env) := by
  refine ⟨by rw [h.len]; simp [hideE], fun i d q => ?_⟩
  unfold hideE at q
  rw [List.getElem?_map] at q
  cases q1 : env[i]? with
  | none => rw [q1] at q; cases q
  | some sl =>
    rw [q1] at q
    cases sl with
    | val e =>
      simp only [Option.map_some, Sl.hide, Option.some.injEq] at q
      subst q
      exact h.val i e q1
    | no => simp [Sl.hide] at q
    | own ds => simp [Sl.hide] at q
/-- behind an expression -/
theorem StOk.after (h : StOk K H0 W0 pins W H σ env s) (e : Ext W H W' H') (ws : WS W' s' H') : StOk K H0 W0 pins W' H' σ env s' where
  len := h.len
  val := fun i d q => let ⟨v, h1, h2⟩ := h.val i d q; ⟨v, h1, h2.ext e d v⟩
  own := fun i ds q => let ⟨p, vs, h1, h2, h3, h4, h5, h6⟩ := h.own i ds q; ⟨p, vs, h1, e.keep p _ h2 h5, h3.ext e ds vs, e.notF h2 h4, e.isS h2 h5, h6⟩
  dist := h.dist
  ext := h.ext.trans e
  ws := ws
  pin := fun q hq => (h.pin q hq).ext e _ _
theorem StOk.pins_of {pins' : List (D × V)} (h : StOk K H0 W0 pins W H σ env s) (hp : ∀ q ∈ pins', Rep K W H q.1 q.2) : StOk K H0 W0 pins' W H σ env s := ⟨h.len, h.val, h.own, h.dist, h.ext, h.ws, hp⟩
/-- a slot gets a value -/
theorem StOk.set {i : Nat} {d : D} {v : V} (h : StOk K H0 W0 pins W H σ env s) (r : Rep K W H d v) : StOk K H0 W0 pins W H (σ.set i (some v)) (env.set i (.val d)) s where
  len := by simp [h.len]
  val := fun j e q => by
    by_cases hj : i = j
    · subst hj
      by_cases hl : i < env.length
      · rw [List.getElem?_set_self hl] at q
        cases q
        exact ⟨v, List.getElem?_set_self (by rw [h.len]; exact hl), r⟩
      · rw [List.getElem?_eq_none (by simpa using hl)] at q; cases q
    · rw [List.getElem?_set_ne hj] at q
      rw [List.getElem?_set_ne hj]
      exact h.val j e q
  own := fun j es q => by
    by_cases hj : i = j
    · subst hj
      by_cases hl : i < env.length
      · rw [List.getElem?_set_self hl] at q; cases q
      · rw [List.getElem?_eq_none (by simpa using hl)] at q; cases q
    · rw [List.getElem?_set_ne hj] at q
      rw [List.getElem?_set_ne hj]
      exact h.own j es q
  dist := fun j k ds es p hjk q1 q2 q3 => by
    have n1 : i ≠ j := fun e => by
      subst e
      by_cases hl : i < env.length
      · rw [List.getElem?_set_self hl] at q1; cases q1
      · rw [List.getElem?_eq_none (by simpa using hl)] at q1; cases q1
    have n2 : i ≠ k := fun e => by
      subst e
      by_cases hl : i < env.length
      · rw [List.getElem?_set_self hl] at q2; cases q2
      · rw [List.getElem?_eq_none (by simpa using hl)] at q2; cases q2
    rw [List.getElem?_set_ne n1] at q1 q3
    rw [List.getElem?_set_ne n2] at q2 ⊢
    exact h.dist j k ds es p hjk q1 q2 q3
  ext := h.ext
  ws := h.ws
  pin := h.pin
/-- a slot gets a fresh list of its own -/
theorem StOk.setOwn {i : Nat} {ds : List D} {p : Addr} {vs : List V} (h : StOk K H0 W0 pins W H σ env s) (hp : H p = some (.lst vs)) (r : Reps K W H ds vs) (nF : ¬ W.F p) (nS : ¬ W.isS p) (n0 : H0 p = none)
    (nw : ∀ (j : Nat) (es : List D), j ≠ i → env[j]? = some (.own es) → σ[j]? ≠ some (some (.ref p))) : StOk K H0 W0 pins W H (σ.set i (some (.ref p))) (env.set i (.own ds)) s where
  len := by simp [h.len]
  val := fun j e q => by
    by_cases hj : i = j
    · subst hj
      by_cases hl : i < env.length
      · rw [List.getElem?_set_self hl] at q; cases q
      · rw [List.getElem?_eq_none (by simpa using hl)] at q; cases q
    · rw [List.getElem?_set_ne hj] at q
      rw [List.getElem?_set_ne hj]
      exact h.val j e q
  own := fun j es q => by
    by_cases hj : i = j
    · subst hj
      by_cases hl : i < env.length
      · rw [List.getElem?_set_self hl] at q
        cases q
        exact ⟨p, vs, List.getElem?_set_self (by rw [h.len]; exact hl), hp, r, nF, nS, n0⟩
      · rw [List.getElem?_eq_none (by simpa using hl)] at q; cases q
    · rw [List.getElem?_set_ne hj] at q
      rw [List.getElem?_set_ne hj]
      exact h.own j es q
  dist := fun j k d1 d2 p' hjk q1 q2 q3 => by
    by_cases hj : i = j
    · subst hj
      rw [List.getElem?_set_ne hjk] at q2 ⊢
      by_cases hl : i < σ.length
      · rw [List.getElem?_set_self hl] at q3
        cases q3
        exact nw k d2 (fun e => hjk e.symm) q2
      · rw [List.getElem?_eq_none (by simpa using hl)] at q3; cases q3
    · rw [List.getElem?_set_ne hj] at q1 q3
      by_cases hk : i = k
      · subst hk
        by_cases hl : i < σ.length
        · rw [List.getElem?_set_self hl]
          intro z
          cases z
          exact nw j d1 (fun e => hj e.symm) q1 q3
        · rw [List.getElem?_eq_none (by simpa using hl)]; intro z; cases z
      · rw [List.getElem?_set_ne hk] at q2 ⊢
        exact h.dist j k d1 d2 p' hjk q1 q2 q3
  ext := h.ext
  ws := h.ws
  pin := h.pin
/-- the slot's own list changes -/
theorem StOk.mut {i : Nat} {ds ds' : List D} {p : Addr} {vs vs' : List V} (h : StOk K H0 W0 pins W H σ env s) (hi : env[i]? = some (.own ds)) (hσ : σ[i]? = some (some (.ref p))) (hp : H p = some (.lst vs)) (r : Reps K W H ds' vs') :
    StOk K H0 W0 pins W (upd H p (.lst vs')) σ (env.set i (.own ds')) s := by
  obtain ⟨p', vs0, e1, e2, e3, nF, nS, n0⟩ := h.own i ds hi
  rw [hσ] at e1
  cases e1
  have m : Mn W H W (upd H p (.lst vs')) := Mn.updFree hp nF
  have hil : i < env.length := (List.getElem?_eq_some_iff.mp hi).1
  refine ⟨by simp [h.len], fun j e q => ?_, fun j es q => ?_, fun j k d1 d2 p' hjk q1 q2 q3 => ?_, Ext.updFree (xs := vs) h.ext n0, h.ws.updFree nS, fun q hq => Rep.mn m _ _ (h.pin q hq)⟩
  · by_cases hj : i = j
    · subst hj
      rw [List.getElem?_set_self hil] at q; cases q
    · rw [List.getElem?_set_ne hj] at q
      obtain ⟨v, h1, h2⟩ := h.val j e q
      exact ⟨v, h1, Rep.mn m _ _ h2⟩
  · by_cases hj : i = j
    · subst hj
      rw [List.getElem?_set_self hil] at q
      cases q
      exact ⟨p, vs', hσ, upd_same, Reps.mn m _ _ r, nF, nS, n0⟩
    · rw [List.getElem?_set_ne hj] at q
      obtain ⟨p1, us, h1, h2, h3, h4, h5, h6⟩ := h.own j es q
      have ne : p1 ≠ p := fun e => by
        subst e
        exact h.dist i j ds es p1 hj hi q hσ h1
      exact ⟨p1, us, h1, by rw [upd_ne ne]; exact h2, Reps.mn m _ _ h3, h4, h5, h6⟩
  · by_cases hj : i = j
    · subst hj
      rw [List.getElem?_set_ne hjk] at q2
      exact h.dist i k ds d2 p' hjk hi q2 q3
    · rw [List.getElem?_set_ne hj] at q1
      by_cases hk : i = k
      · subst hk
        exact h.dist j i d1 ds p' hjk q1 hi q3
      · rw [List.getElem?_set_ne hk] at q2
        exact h.dist j k d1 d2 p' hjk q1 q2 q3

/-! ### the own lists seen for a while -/
def Wd.see (W : Wd) (env : SE) (σ : L2.St) : Wd := ⟨fun a => W.F a ∨ OwnAt env σ a, W.S⟩
def Wd.unsee (W : Wd) (env : SE) (σ : L2.St) : Wd := ⟨fun a => W.F a ∧ ¬ OwnAt env σ a, W.S⟩
theorem StOk.ownAt (h : StOk K H0 W0 pins W H σ env s) {p : Addr} (o : OwnAt env σ p) : (∃ vs, H p = some (.lst vs)) ∧ ¬ W.F p ∧ ¬ W.isS p ∧ H0 p = none := by
  obtain ⟨i, ds, h1, h2⟩ := o
  obtain ⟨p', vs, e1, e2, e3, e4, e5, e6⟩ := h.own i ds h1
  rw [h2] at e1
  cases e1
  exact ⟨⟨vs, e2⟩, e4, e5, e6⟩
theorem StOk.seeMn (h : StOk K H0 W0 pins W H σ env s) : Mn W H (W.see env σ) H := ⟨fun _ _ h => h, fun _ _ _ h => h, fun _ h => .inl h, fun _ h => h⟩
theorem StOk.seeWS (h : StOk K H0 W0 pins W H σ env s) : WS (W.see env σ) s H := by
  refine ⟨fun a f => f.elim (h.ws.1 a) fun o => let ⟨⟨vs, q⟩, _⟩ := h.ownAt o; ⟨_, q⟩, ?_⟩
  rcases h.ws.2 with g | ⟨sa, ca, i, cells, h0, h00, h1, h2, h3, h4, h5⟩
  · exact .inl g
  · exact .inr ⟨sa, ca, i, cells, h0, h00, h1, h2, h3, fun z => z.elim h4 fun o => (h.ownAt o).2.2.1 ⟨_, h0, .inl rfl⟩, fun z => z.elim h5 fun o => (h.ownAt o).2.2.1 ⟨_, h0, .inr rfl⟩⟩
theorem StOk.seen (h : StOk K H0 W0 pins W H σ env s) : EnvR K (W.see env σ) H σ (viewE env) := by
  refine ⟨by rw [h.len]; simp [viewE], fun i d q => ?_⟩
  unfold viewE at q
  rw [List.getElem?_map] at q
  cases q1 : env[i]? with
  | none => rw [q1] at q; cases q
  | some sl =>
    rw [q1] at q
    cases sl with
    | val e =>
      simp only [Option.map_some, Sl.view, Option.some.injEq] at q
      subst q
      obtain ⟨v, h1, h2⟩ := h.val i e q1
      exact ⟨v, h1, Rep.mn h.seeMn _ _ h2⟩
    | no => simp [Sl.view] at q
    | own ds =>
      simp only [Option.map_some, Sl.view, Option.some.injEq] at q
      subst q
      obtain ⟨p, vs, h1, h2, h3, h4, h5, h6⟩ := h.own i ds q1
      exact ⟨_, h1, by simp only [Rep]; exact ⟨p, vs, rfl, h2, .inr ⟨i, ds, q1, h1⟩, Reps.mn h.seeMn _ _ h3⟩⟩
/-- forgotten again -/
theorem StOk.unseeExt (h : StOk K H0 W0 pins W H σ env s) (e : Ext (W.see env σ) H W' H') : Ext W H (W'.unsee env σ) H' where
  keep := e.keep
  tups := e.tups
  frs := fun a o f q => e.frs a o (.inl f) q
  dom := e.dom
  fsub := fun a f => ⟨e.fsub a (.inl f), fun o => (h.ownAt o).2.1 f⟩
  fnew := fun a f => by
    rcases e.fnew a f.1 with (q | q) | q
    · exact .inl q
    · exact absurd q f.2
    · exact .inr q
  ssub := e.ssub
  snew := e.snew
theorem unseeWS (ws : WS W s H) : WS (W.unsee env σ) s H := by
  refine ⟨fun a f => ws.1 a f.1, ?_⟩
  rcases ws.2 with g | ⟨sa, ca, i, cells, h0, h00, h1, h2, h3, h4, h5⟩
  · exact .inl g
  · exact .inr ⟨sa, ca, i, cells, h0, h00, h1, h2, h3, fun z => h4 z.1, fun z => h5 z.1⟩
mutual
theorem Rep.flatW : ∀ (d : D) (v : V), d.flat = true → (∀ p, W.S = some p → W'.S = some p) → Rep K W H d v → Rep K W' H d v
  | .non, _, _, _, h => by simpa [Rep] using h
  | .bl _, _, _, _, h => by simpa [Rep] using h
  | .int _, _, _, _, h => by simpa [Rep] using h
  | .str _, _, _, _, h => by simpa [Rep] using h
  | .tup ds, _, f, hS, h => by
    simp only [Rep] at h ⊢
    obtain ⟨a, vs, rfl, hs, hr⟩ := h
    exact ⟨a, vs, rfl, hs, Reps.flatW ds vs (by simpa [D.flat] using f) hS hr⟩
  | .lst ds, _, f, _, _ => by simp [D.flat] at f
  | .fn _, _, _, _, h => by simpa [Rep] using h
  | .st, _, _, hS, h => by
    simp only [Rep] at h ⊢
    obtain ⟨p, hp, rfl⟩ := h
    exact ⟨p, hS p hp, rfl⟩
  | .dic ks ds, _, f, _, _ => by simp [D.flat] at f
  | .dicT ks ds, _, f, _, _ => by simp [D.flat] at f
theorem Reps.flatW : ∀ (ds : List D) (vs : List V), D.flats ds = true → (∀ p, W.S = some p → W'.S = some p) → Reps K W H ds vs → Reps K W' H ds vs
  | [], _, _, _, h => by simpa [Reps] using h
  | d :: ds, _, f, hS, h => by
    simp only [Reps] at h ⊢
    simp only [D.flats, Bool.and_eq_true] at f
    obtain ⟨v, r, rfl, h1, h2⟩ := h
    exact ⟨v, r, rfl, Rep.flatW d v f.1 hS h1, Reps.flatW ds r f.2 hS h2⟩
end
/-- at a def's end all may be frozen -/
theorem StOk.seeExt0 (h : StOk K H0 W0 pins W H σ env s) : Ext W0 H0 (W.see env σ) H where
  keep := h.ext.keep
  tups := h.ext.tups
  frs := h.ext.frs
  dom := h.ext.dom
  fsub := fun a f => .inl (h.ext.fsub a f)
  fnew := fun a f => f.elim (h.ext.fnew a) fun o => .inr (h.ownAt o).2.2.2
  ssub := h.ext.ssub
  snew := h.ext.snew
end

/-! ### what is wanted behind a statement -/
def AftS (G : Gx) (H0 : Hp) (W0 : Wd) (pins : List (D × V)) (r : Res Fl) (Dn : Ends) : Prop := match r with
  | .ok (.nx env) s => ∀ W H σ, StOk G.K H0 W0 pins W H σ env s → Dn.nx σ H
  | .ok (.bk env) s => ∀ W H σ, StOk G.K H0 W0 pins W H σ env s → Dn.bk σ H
  | .ok (.ct env) s => ∀ W H σ, StOk G.K H0 W0 pins W H σ env s → Dn.ct σ H
  | .ok (.rt d) s => ∀ W H v, Ext W0 H0 W H → WS W s H → Rep G.K W H d v → Dn.rt v H
  | .exc x s => ∀ W H c dd, Ext W0 H0 W H → WS W s H → G.xr G.K x c dd H → G.E c dd H
  | .no => False
def tMS (G : Gx) (m : MS) : TS := fun Dn σ H => ∃ H0 W0 pins W env s, StOk G.K H0 W0 pins W H σ env s ∧ AftS G H0 W0 pins (m env s) Dn
abbrev ES (X : Cx) (G : Gx) (st : Stmt) (m : MS) : Prop := PS X st (tMS G m)
abbrev ESs (X : Cx) (G : Gx) (st : List Stmt) (m : MS) : Prop := PSs X st (tMS G m)
theorem ps_imp {X : Cx} {st : Stmt} {t t' : TS} (h : PS X st t) (i : ∀ D σ H, t' D σ H → t D σ H) : PS X st t' := ⟨fun pins s σ H D I q => h.run pins s σ H D I (i D σ H q)⟩
theorem pss_imp {X : Cx} {st : List Stmt} {t t' : TS} (h : PSs X st t) (i : ∀ D σ H, t' D σ H → t D σ H) : PSs X st t' := ⟨fun pins s σ H D I q => h.run pins s σ H D I (i D σ H q)⟩
section
variable {X : Cx} {G : Gx} {st : Stmt} {rest : List Stmt} {m m1 m2 : MS} {e c : Expr} {me : VE → M D} {mt : VE → M Bool} {pos : Pos}
@[simp] def sNx : MS := fun env s => .ok (.nx env) s
@[simp] def sSeq (m1 m2 : MS) : MS := fun env s => (m1 env s).bind fun fl s => match fl with
  | .nx env' => m2 env' s
  | fl => .ok fl s
theorem es_nil : ESs X G [] sNx := pss_imp pss_nil fun D σ H h => by
  obtain ⟨H0, W0, pins, W, env, s, ok, h⟩ := h
  exact h W H σ ok
theorem es_cons (h1 : ES X G st m1) (h2 : ESs X G rest m2) : ESs X G (st :: rest) (sSeq m1 m2) := pss_imp (pss_cons h1 h2) fun D σ H h => by
  obtain ⟨H0, W0, pins, W, env, s, ok, h⟩ := h
  refine ⟨H0, W0, pins, W, env, s, ok, ?_⟩
  unfold sSeq at h
  cases q : m1 env s with
  | ok fl s' =>
    rw [q] at h
    cases fl with
    | nx env' => exact fun W' H' σ' ok' => ⟨H0, W0, pins, W', env', s', ok', h⟩
    | rt d => exact h
    | bk env' => exact h
    | ct env' => exact h
  | exc x s' => rw [q] at h; exact h
  | no => rw [q] at h; exact h
theorem es_one (h1 : ES X G st m) : ESs X G [st] m := pss_one h1
theorem es_pass : ES X G (.Pass pos) sNx := ps_imp ps_pass fun D σ H h => by
  obtain ⟨H0, W0, pins, W, env, s, ok, h⟩ := h
  exact h W H σ ok
@[simp] def sBk : MS := fun env s => .ok (.bk env) s
@[simp] def sCt : MS := fun env s => .ok (.ct env) s
theorem es_break : ES X G (.Break pos) sBk := ps_imp ps_break fun D σ H h => by
  obtain ⟨H0, W0, pins, W, env, s, ok, h⟩ := h
  exact h W H σ ok
theorem es_cont : ES X G (.Continue pos) sCt := ps_imp ps_continue fun D σ H h => by
  obtain ⟨H0, W0, pins, W, env, s, ok, h⟩ := h
  exact h W H σ ok
theorem es_doc {x j p p'} : ES X G (.Expr (.Constant (.str x) j p) p') sNx := ps_imp ps_doc fun D σ H h => by
  obtain ⟨H0, W0, pins, W, env, s, ok, h⟩ := h
  exact h W H σ ok
/-- freeze a slot's own list, ahead of a statement -/
@[simp] def frz (env : SE) (i : Nat) : SE := match env[i]? with
  | some (.own ds) => env.set i (.val (.lst ds))
  | _ => env
theorem StOk.frz {K : PySem.W.Frag} {H0 : Hp} {W0 : Wd} {pins : List (D × V)} {W : Wd} {H : Hp} {σ : L2.St} {env : SE} {s : DS} (h : StOk K H0 W0 pins W H σ env s) (i : Nat) : ∃ W', StOk K H0 W0 pins W' H σ (L2.Mir.frz env i) s := by
  unfold L2.Mir.frz
  split
  · rename_i ds hi
    obtain ⟨p, vs, e1, e2, e3, nF, nS, n0⟩ := h.own i ds hi
    have m : Mn W H (W.add p) H := Mn.addF
    have hil : i < env.length := (List.getElem?_eq_some_iff.mp hi).1
    refine ⟨W.add p, by simp [h.len], fun j e q => ?_, fun j es q => ?_, fun j k d1 d2 p' hjk q1 q2 q3 => ?_, h.ext.addF n0, h.ws.addF e2 nS, fun q hq => Rep.mn m _ _ (h.pin q hq)⟩
    · by_cases hj : i = j
      · subst hj
        rw [List.getElem?_set_self hil] at q
        cases q
        exact ⟨_, e1, by simp only [Rep]; exact ⟨p, vs, rfl, e2, .inr rfl, Reps.mn m _ _ e3⟩⟩
      · rw [List.getElem?_set_ne hj] at q
        obtain ⟨v, h1, h2⟩ := h.val j e q
        exact ⟨v, h1, Rep.mn m _ _ h2⟩
    · by_cases hj : i = j
      · subst hj
        rw [List.getElem?_set_self hil] at q; cases q
      · rw [List.getElem?_set_ne hj] at q
        obtain ⟨p1, us, h1, h2, h3, h4, h5, h6⟩ := h.own j es q
        have ne : p1 ≠ p := fun e => by
          subst e
          exact h.dist i j ds es p1 hj hi q e1 h1
        exact ⟨p1, us, h1, h2, Reps.mn m _ _ h3, fun z => z.elim h4 ne, h5, h6⟩
    · by_cases hj : i = j
      · subst hj
        rw [List.getElem?_set_self hil] at q1; cases q1
      · by_cases hk : i = k
        · subst hk
          rw [List.getElem?_set_self hil] at q2; cases q2
        · rw [List.getElem?_set_ne hj] at q1
          rw [List.getElem?_set_ne hk] at q2
          exact h.dist j k d1 d2 p' hjk q1 q2 q3
  · exact ⟨W, h⟩
@[simp] def sFrz (i : Nat) (m : MS) : MS := fun env s => m (frz env i) s
theorem es_frz (i : Nat) (h : ES X G st m) : ES X G st (sFrz i m) := ps_imp h fun D σ H h => by
  obtain ⟨H0, W0, pins, W, env, s, ok, h⟩ := h
  obtain ⟨W', ok'⟩ := ok.frz i
  exact ⟨H0, W0, pins, W', _, s, ok', h⟩

/-! ### an expression in a statement -/
/-- v: own lists are seen for the while, the answer then holds no list -/
@[simp] def exq (v : Bool) (m : VE → M D) : SE → M D := fun env s => if v = true then (m (viewE env) s).bind fun d s => if d.flat = true then .ok d s else .no else m (hideE env) s
theorem ex_read {v : Bool} {H0 : Hp} {W0 : Wd} {pins : List (D × V)} {W : Wd} {H : Hp} {σ : L2.St} {env : SE} {s : DS} {f : D → DS → Res Fl} {Dn : Ends} {R : VK} (ok : StOk G.K H0 W0 pins W H σ env s) (h : AftS G H0 W0 pins ((exq v me env s).bind f) Dn)
    (k : ∀ W' H' u d s', Ext W H W' H' → StOk G.K H0 W0 pins W' H' σ env s' → Rep G.K W' H' d u → exq v me env s = .ok d s' → AftS G H0 W0 pins (f d s') Dn → R u H') : tM G me σ H R := by
  cases v with
  | false =>
    refine ⟨W, hideE env, s, ok.hid, ok.ws, ?_⟩
    have e0 : exq false me env s = me (hideE env) s := rfl
    rw [e0] at h k
    cases q : me (hideE env) s with
    | ok d s' =>
      rw [q] at h
      exact fun W' H' u e ws rp => k W' H' u d s' e (ok.after e ws) rp q h
    | exc x s' =>
      rw [q] at h
      exact fun W' H' c dd e ws rp => h W' H' c dd (ok.ext.trans e) ws rp
    | no => rw [q] at h; exact h
  | true =>
    refine ⟨W.see env σ, viewE env, s, ok.seen, ok.seeWS, ?_⟩
    have e0 : exq true me env s = (me (viewE env) s).bind fun d s => if d.flat = true then .ok d s else .no := rfl
    rw [e0] at h k
    cases q : me (viewE env) s with
    | ok d s' =>
      rw [q] at h k
      simp only [bind_ok] at h k
      by_cases fl : d.flat = true
      · rw [if_pos fl] at h k
        intro W' H' u e ws rp
        have e2 := ok.unseeExt e
        exact k (W'.unsee env σ) H' u d s' e2 (ok.after e2 (unseeWS ws)) (Rep.flatW (W := W') (W' := W'.unsee env σ) d u fl (fun _ z => z) rp) rfl h
      · rw [if_neg fl] at h; exact h.elim
    | exc x s' =>
      rw [q] at h
      exact fun W' H' c dd e ws rp => h (W'.unsee env σ) H' c dd (ok.ext.trans (ok.unseeExt e)) (unseeWS ws) rp
    | no => rw [q] at h; exact h
/-- a test in a statement -/
theorem et_read {H0 : Hp} {W0 : Wd} {pins : List (D × V)} {W : Wd} {H : Hp} {σ : L2.St} {env : SE} {s : DS} {f : Bool → DS → Res Fl} {Dn : Ends} {R : Bool → Hp → Prop} (ok : StOk G.K H0 W0 pins W H σ env s) (h : AftS G H0 W0 pins ((mt (viewE env) s).bind f) Dn)
    (k : ∀ W' H' b s', Ext W H W' H' → StOk G.K H0 W0 pins W' H' σ env s' → AftS G H0 W0 pins (f b s') Dn → R b H') : tMT G mt σ H R := by
  refine ⟨W.see env σ, viewE env, s, ok.seen, ok.seeWS, ?_⟩
  cases q : mt (viewE env) s with
  | ok d s' =>
    rw [q] at h
    intro W' H' e ws
    have e2 := ok.unseeExt e
    exact k (W'.unsee env σ) H' d s' e2 (ok.after e2 (unseeWS ws)) h
  | exc x s' =>
    rw [q] at h
    exact fun W' H' c dd e ws rp => h (W'.unsee env σ) H' c dd (ok.ext.trans (ok.unseeExt e)) (unseeWS ws) rp
  | no => rw [q] at h; exact h
@[simp] def sDrop (v : Bool) (me : VE → M D) : MS := fun env s => (exq v me env s).bind fun _ s => .ok (.nx env) s
theorem es_expr (v : Bool) (he : EE X G e me) (hs : swapsWith e none pos.line X.env = pure false := by rfl) : ES X G (.Expr e pos) (sDrop v me) := ps_imp (ps_expr he hs) fun D σ H h => by
  obtain ⟨H0, W0, pins, W, env, s, ok, h⟩ := h
  exact ex_read ok h fun W' H' u d s' _ ok' r _ h' => h' W' H' σ ok'
@[simp] def sSet (v : Bool) (i : Nat) (me : VE → M D) : MS := fun env s => (exq v me env s).bind fun d s => .ok (.nx (env.set i (.val d))) s
theorem es_set (v : Bool) (i : Nat) {x : Str} {pos' : Pos} (hN : X.N.Nodup) (he : EE X G e me) (hi : X.N[i]? = some x := by rfl) (hx : Loc X.env.scope x := by first | exact .inl rfl | exact .inr rfl) (hs : swapsWith e (some (.Name x pos')) pos.line X.env = pure false := by rfl) (hf : X.fn x = true ∨ X.env.scope.names.lookup x = some .local := by first | exact .inl rfl | exact .inr rfl | assumption) :
    ES X G (.Assign [.Name x pos'] e pos) (sSet v i me) := ps_imp (ps_set hN hi hx he hs hf) fun D σ H h => by
  obtain ⟨H0, W0, pins, W, env, s, ok, h⟩ := h
  exact ex_read ok h fun W' H' u d s' _ ok' r _ h' => h' W' H' _ (ok'.set r)
/-- return: all own lists may be handed out -/
@[simp] def sRet (me : VE → M D) : MS := fun env s => (me (viewE env) s).bind fun d s => .ok (.rt d) s
theorem es_ret (he : EE X G e me) : ES X G (.Return (some e) pos) (sRet me) := ps_imp (ps_ret he) fun D σ H h => by
  obtain ⟨H0, W0, pins, W, env, s, ok, h⟩ := h
  refine ⟨W.see env σ, viewE env, s, ok.seen, ok.seeWS, ?_⟩
  unfold sRet at h
  cases q : me (viewE env) s with
  | ok d s' =>
    rw [q] at h
    exact fun W' H' u e ws rp => h W' H' u (ok.seeExt0.trans e) ws rp
  | exc x s' =>
    rw [q] at h
    exact fun W' H' c dd e ws rp => h W' H' c dd (ok.seeExt0.trans e) ws rp
  | no => rw [q] at h; exact h
@[simp] def sRetN : MS := fun env s => .ok (.rt .non) s
theorem es_retN : ES X G (.Return none pos) sRetN := ps_imp ps_retN fun D σ H h => by
  obtain ⟨H0, W0, pins, W, env, s, ok, h⟩ := h
  exact h W H _ ok.ext ok.ws (by simp)
@[simp] def sIf (mt : VE → M Bool) (m1 m2 : MS) : MS := fun env s => (mt (viewE env) s).bind fun b s => if b = true then m1 env s else m2 env s
theorem es_if {a b : List Stmt} (hc : ET X G c mt) (ha : ESs X G a m1) (hb : ESs X G b m2) : ES X G (.If c a b pos) (sIf mt m1 m2) := ps_imp (ps_if hc ha hb) fun D σ H h => by
  obtain ⟨H0, W0, pins, W, env, s, ok, h⟩ := h
  refine et_read ok h fun W' H' b s' _ ok' h' => ?_
  cases b with
  | true => exact iteT ⟨H0, W0, pins, W', env, s', ok', h'⟩
  | false => exact iteF ⟨H0, W0, pins, W', env, s', ok', h'⟩
/-- targets -/
@[simp] def setSl (env : SE) : List (Nat × D) → SE
  | [] => env
  | (i, d) :: r => setSl (env.set i (.val d)) r
theorem StOk.setA {K : PySem.W.Frag} {H0 : Hp} {W0 : Wd} {pins : List (D × V)} {W : Wd} {H : Hp} {s : DS} : ∀ {as : List (Nat × D)} {bs : List (Nat × V)} {σ : L2.St} {env : SE}, StOk K H0 W0 pins W H σ env s → AsR K W H as bs → StOk K H0 W0 pins W H (setA σ bs) (setSl env as) s
  | [], bs, σ, env, h, g => by simp only [AsR] at g; subst g; exact h
  | (i, d) :: r, bs, σ, env, h, g => by
    simp only [AsR] at g
    obtain ⟨v, q, rfl, h1, h2⟩ := g
    show StOk K H0 W0 pins W H (L2.Mir.setA (σ.set i (some v)) q) (setSl (env.set i (.val d)) r) s
    exact StOk.setA (h.set h1) h2
@[simp] def sAsg (v : Bool) (p : Pat) (me : VE → M D) : MS := fun env s => (exq v me env s).bind fun d s => match p.run d with
  | some as => .ok (.nx (setSl env as)) s
  | none => .no
theorem AsR.mn {K : PySem.W.Frag} {W W' : Wd} {H H' : Hp} : ∀ {as : List (Nat × D)} {bs : List (Nat × V)}, (∀ d v, Rep K W H d v → Rep K W' H' d v) → AsR K W H as bs → AsR K W' H' as bs
  | [], bs, _, h => by simpa [AsR] using h
  | (i, d) :: r, bs, f, h => by
    simp only [AsR] at h ⊢
    obtain ⟨v, q, rfl, h1, h2⟩ := h
    exact ⟨v, q, rfl, f d v h1, AsR.mn f h2⟩
theorem es_asg (v : Bool) {tg : Expr} {p : Pat} (he : EE X G e me) (hg : EG X G.K tg p) (hs : swapsWithSole [tg] e pos.line X.env = pure false := by rfl) (hw : swappedStores [tg] e X.env = pure none := by rfl)
    (h1 : (assignEach [tg] X.env).map (·.2) = [assign tg X.env] := by rfl) : ES X G (.Assign [tg] e pos) (sAsg v p me) := ps_imp (ps_asg he hg hs hw h1) fun D σ H h => by
  obtain ⟨H0, W0, pins, W, env, s, ok, h⟩ := h
  refine ex_read ok h fun W' H' u d s' _ ok' r _ h' => ?_
  split at h'
  · rename_i as q
    exact ⟨W', d, as, r, q, fun bs hb => h' W' H' _ (ok'.setA hb)⟩
  · exact h'.elim
/-- a, b = e1, e2 -/
@[simp] def exqL (v : Bool) (m : VE → M (List D)) : SE → M (List D) := fun env s => if v = true then (m (viewE env) s).bind fun d s => if D.flats d = true then .ok d s else .no else m (hideE env) s
theorem exL_read {v : Bool} {ml : VE → M (List D)} {H0 : Hp} {W0 : Wd} {pins : List (D × V)} {W : Wd} {H : Hp} {σ : L2.St} {env : SE} {s : DS} {f : List D → DS → Res Fl} {Dn : Ends} {R : List V → Hp → Prop} (ok : StOk G.K H0 W0 pins W H σ env s) (h : AftS G H0 W0 pins ((exqL v ml env s).bind f) Dn)
    (k : ∀ W' H' u d s', Ext W H W' H' → StOk G.K H0 W0 pins W' H' σ env s' → Reps G.K W' H' d u → AftS G H0 W0 pins (f d s') Dn → R u H') : tML G ml σ H R := by
  cases v with
  | false =>
    refine ⟨W, hideE env, s, ok.hid, ok.ws, ?_⟩
    have e0 : exqL false ml env s = ml (hideE env) s := rfl
    rw [e0] at h
    cases q : ml (hideE env) s with
    | ok d s' =>
      rw [q] at h
      exact fun W' H' u e ws rp => k W' H' u d s' e (ok.after e ws) rp h
    | exc x s' =>
      rw [q] at h
      exact fun W' H' c dd e ws rp => h W' H' c dd (ok.ext.trans e) ws rp
    | no => rw [q] at h; exact h
  | true =>
    refine ⟨W.see env σ, viewE env, s, ok.seen, ok.seeWS, ?_⟩
    have e0 : exqL true ml env s = (ml (viewE env) s).bind fun d s => if D.flats d = true then .ok d s else .no := rfl
    rw [e0] at h
    cases q : ml (viewE env) s with
    | ok d s' =>
      rw [q] at h
      simp only [bind_ok] at h
      by_cases fl : D.flats d = true
      · rw [if_pos fl] at h
        intro W' H' u e ws rp
        have e2 := ok.unseeExt e
        exact k (W'.unsee env σ) H' u d s' e2 (ok.after e2 (unseeWS ws)) (Reps.flatW (W := W') (W' := W'.unsee env σ) d u fl (fun _ z => z) rp) h
      · rw [if_neg fl] at h; exact h.elim
    | exc x s' =>
      rw [q] at h
      exact fun W' H' c dd e ws rp => h (W'.unsee env σ) H' c dd (ok.ext.trans (ok.unseeExt e)) (unseeWS ws) rp
    | no => rw [q] at h; exact h
@[simp] def sPar (v : Bool) (i j : Nat) (ml : VE → M (List D)) : MS := fun env s => (exqL v ml env s).bind fun ds s => match ds with
  | [d, d'] => .ok (.nx ((env.set i (.val d)).set j (.val d'))) s
  | _ => .no
theorem es_par (v : Bool) (i j : Nat) {x y : Str} {a b : Expr} {ml : VE → M (List D)} {px py pt : Pos} {kt k2 pt2} (hc : X.calm = true) (hN : X.N.Nodup) (ha : EA X G [a, b] ml) (hi : X.N[i]? = some x := by rfl) (hj : X.N[j]? = some y := by rfl) (hij : i ≠ j := by decide)
    (hx : X.env.scope.names.lookup x = some .local := by rfl) (hy : X.env.scope.names.lookup y = some .local := by rfl)
    (hw : swappedStores [.Tuple [.Name x px, .Name y py] kt pt] (.Tuple [a, b] k2 pt2) X.env = pure (some [x, y]) := by rfl)
    (hs : swapsWithSole [.Tuple [.Name x px, .Name y py] kt pt] (.Tuple [a, b] k2 pt2) pos.line X.env = pure false := by rfl) :
    ES X G (.Assign [.Tuple [.Name x px, .Name y py] kt pt] (.Tuple [a, b] k2 pt2) pos) (sPar v i j ml) := ps_imp (ps_par hc hN hi hj hij hx hy ha hw hs) fun D σ H h => by
  obtain ⟨H0, W0, pins, W, env, s, ok, h⟩ := h
  refine exL_read ok h fun W' H' u d s' _ ok' r h' => ?_
  split at h'
  · obtain ⟨v1, v2, rfl, r1, r2⟩ := r.two
    exact ⟨v1, v2, rfl, h' W' H' _ ((ok'.set r1).set r2)⟩
  · exact h'.elim

/-! ### loops -/
def whileGo (c : VE → M Bool) (body : MS) : Nat → MS
  | 0, _, _ => .no
  | n + 1, env, s => (c (viewE env) s).bind fun b s => if b = true then (body env s).bind fun fl s => (match fl with
      | .nx env' => whileGo c body n env' s
      | .ct env' => whileGo c body n env' s
      | .bk env' => .ok (.nx env') s
      | .rt d => .ok (.rt d) s) else .ok (.nx env) s
/-- turns allowed: more than any int or length that stands -/
def dMeas : D → Nat
  | .int i => i.natAbs
  | .lst ds => ds.length
  | .tup ds => ds.length
  | _ => 0
def slMeas : Sl → Nat
  | .val d => dMeas d
  | .own ds => ds.length
  | .no => 0
def measE (env : SE) : Nat := 1000 + (env.map slMeas).sum
def sWhile (c : VE → M Bool) (body : MS) : MS := fun env s => whileGo c body (measE env) env s
theorem es_while {body : List Stmt} {mb : MS} (hp : PassesOwn (model X.prog X.w) X.A X.env X.xe) (hc : ET X G c mt) (hb : ESs X G body mb) : ES X G (.While c body [] pos) (sWhile mt mb) := ps_imp (ps_while hp hc hb) fun D σ H h => by
  obtain ⟨H0, W0, pins, W, env, s, ok, h⟩ := h
  refine ⟨fun m σ H => ∃ W env s, StOk G.K H0 W0 pins W H σ env s ∧ AftS G H0 W0 pins (whileGo mt mb m env s) D, ⟨measE env, W, env, s, ok, h⟩, fun m σ H q => ?_⟩
  obtain ⟨W, env, s, ok, h⟩ := q
  cases m with
  | zero => exact h.elim
  | succ m =>
    simp only [whileGo] at h
    refine et_read ok h fun W' H' b s' _ ok' h' => ?_
    cases b with
    | false => exact iteF (h' W' H' σ ok')
    | true =>
      simp only [if_true] at h' ⊢
      refine ⟨fun σ' H' => ∃ W env s, StOk G.K H0 W0 pins W H' σ' env s ∧ AftS G H0 W0 pins (whileGo mt mb m env s) D, fun σ' H' q => ⟨m, Nat.lt_succ_self m, q⟩, H0, W0, pins, W', env, s', ok', ?_⟩
      cases q : mb env s' with
      | ok fl s2 =>
        rw [q] at h'
        simp only [bind_ok] at h'
        cases fl with
        | nx env' => exact fun W2 H2 σ2 ok2 => ⟨W2, env', s2, ok2, h'⟩
        | ct env' => exact fun W2 H2 σ2 ok2 => ⟨W2, env', s2, ok2, h'⟩
        | bk env' => exact h'
        | rt d => exact h'
      | exc x s2 => rw [q] at h'; exact h'
      | no => rw [q] at h'; exact h'
def forGo (p : Pat) (body : MS) : List D → MS
  | [], env, s => .ok (.nx env) s
  | d :: r, env, s => match p.run d with
    | none => .no
    | some as => (body (setSl env as) s).bind fun fl s => match fl with
      | .nx env' => forGo p body r env' s
      | .ct env' => forGo p body r env' s
      | .bk env' => .ok (.nx env') s
      | .rt d => .ok (.rt d) s
@[simp] def sFor (p : Pat) (mi : VE → M (List D)) (body : MS) : MS := fun env s => (mi (hideE env) s).bind fun ds s => forGo p body ds env s
theorem es_for {tg iter : Expr} {body : List Stmt} {mb : MS} {p : Pat} {mi : VE → M (List D)} (hp : PassesOwn (model X.prog X.w) X.A X.env X.xe) (hc : X.calm = true) (hi : EI X G tg iter mi) (hg : EG X G.K tg p) (hb : ESs X G body mb)
    (hs : ∀ x, foldedSetIterable iter X.env x = pure x := by intro _; rfl) : ES X G (.For tg iter body [] pos) (sFor p mi mb) := ps_imp (ps_for hp hc hi hg hb hs) fun D σ H h => by
  obtain ⟨H0, W0, pins, W, env, s, ok, h⟩ := h
  refine ⟨W, hideE env, s, ok.hid, ok.ws, ?_⟩
  unfold sFor at h
  cases q : mi (hideE env) s with
  | no => rw [q] at h; exact h
  | exc x s' =>
    rw [q] at h
    exact fun W' H' c dd e ws rp => h W' H' c dd (ok.ext.trans e) ws rp
  | ok ds s1 =>
    rw [q] at h
    simp only [bind_ok] at h
    intro W1 H1 J d0 v0 e1 ws1 r0 F
    let P : Nat → L2.St → Hp → Prop := fun i σ H => ∃ W env s, StOk G.K H0 W0 ((d0, v0) :: pins) W H σ env s ∧ AftS G H0 W0 pins (forGo p mb (ds.drop i) env s) D
    have unpin : ∀ {W H σ env s}, StOk G.K H0 W0 ((d0, v0) :: pins) W H σ env s → StOk G.K H0 W0 pins W H σ env s := fun ok => ok.pins_of fun q hq => ok.pin q (List.mem_cons_of_mem _ hq)
    refine ⟨fun i m σ H => m = ds.length - i ∧ i ≤ ds.length ∧ P i σ H, ⟨_, rfl, Nat.zero_le _, W1, env, s1, (ok.after e1 ws1).pins_of (fun q hq => ?_), h⟩, ?_⟩
    · rcases List.mem_cons.mp hq with rfl | hq
      · exact r0
      · exact (ok.pin q hq).ext e1 _ _
    rintro i m σ2 H2 ⟨rfl, hi, W2, env2, s2, ok2, h2⟩
    have rp := ok2.pin _ List.mem_cons_self
    obtain ⟨F1, F2⟩ := F W2 H2 rp
    by_cases hlt : i < ds.length
    · refine .inr ?_
      have hd : ds[i]? = some ds[i] := List.getElem?_eq_getElem hlt
      obtain ⟨go, yl⟩ := F1 i _ hd
      refine ⟨go, P (i + 1), fun σ' H' q => ⟨ds.length - (i + 1), by omega, rfl, by omega, q⟩, fun x H3 hy => ?_⟩
      obtain ⟨e3, w3, rx⟩ := yl x H3 hy
      rw [List.drop_eq_getElem_cons hlt] at h2
      simp only [forGo] at h2
      split at h2
      · exact h2.elim
      · rename_i as qa
        have ok3 := ok2.after e3 (w3 s2 ok2.ws)
        refine ⟨W2, ds[i], as, rx, qa, fun bs hb2 => ⟨H0, W0, (d0, v0) :: pins, W2, _, s2, ok3.setA hb2, ?_⟩⟩
        cases q5 : mb (setSl env2 as) s2 with
        | no => rw [q5] at h2; exact h2
        | exc x' s' => rw [q5] at h2; exact h2
        | ok fl s5 =>
          rw [q5] at h2
          simp only [bind_ok] at h2
          cases fl with
          | nx env' => exact fun W5 H5 σ5 ok5 => ⟨W5, env', s5, ok5, h2⟩
          | ct env' => exact fun W5 H5 σ5 ok5 => ⟨W5, env', s5, ok5, h2⟩
          | bk env' => exact fun W5 H5 σ5 ok5 => h2 W5 H5 σ5 (unpin ok5)
          | rt d => exact h2
    · refine .inl ?_
      have e : i = ds.length := by omega
      subst e
      rw [List.drop_length] at h2
      exact ⟨F2, h2 W2 H2 σ2 (unpin ok2)⟩
end
end
end L2.Mir

set_option Elab.async false
set_option linter.all false
set_option maxRecDepth 100000
namespace L2.Mir
open PySem PySem.Spec PyProof.Rows
noncomputable section

section
variable {X : Cx} {G : Gx} {e c o : Expr} {me mi : VE → M D} {pos : Pos}
/-! ### x = a fresh list, the slot's own -/
theorem exF_read {v : Bool} {H0 : Hp} {W0 : Wd} {pins : List (D × V)} {W : Wd} {H : Hp} {σ : L2.St} {env : SE} {s : DS} {f : List D → DS → Res Fl} {Dn : Ends} {R : VK} (ok : StOk G.K H0 W0 pins W H σ env s)
    (h : AftS G H0 W0 pins ((if v = true then (me (viewE env) s).bind fun d s => (match d with | .lst ds => if D.flats ds = true then f ds s else .no | _ => .no) else (me (hideE env) s).bind fun d s => (match d with | .lst ds => f ds s | _ => .no))) Dn)
    (k : ∀ W' H' p vs ds s', Ext W H W' H' → StOk G.K H0 W0 pins W' H' σ env s' → H p = none → H' p = some (.lst vs) → Reps G.K W' H' ds vs → ¬ W'.F p → ¬ W'.isS p → AftS G H0 W0 pins (f ds s') Dn → R (.ref p) H') : tMF G me σ H R := by
  cases v with
  | false =>
    simp only [Bool.false_eq_true, if_false] at h
    refine ⟨W, hideE env, s, ok.hid, ok.ws, ?_⟩
    cases q : me (hideE env) s with
    | ok d s' =>
      rw [q] at h
      cases d with
      | lst ds => exact fun W' H' p vs e ws hp hp' r nF nS => k W' H' p vs ds s' e (ok.after e ws) hp hp' r nF nS h
      | _ => exact h
    | exc x s' =>
      rw [q] at h
      exact fun W' H' c dd e ws rp => h W' H' c dd (ok.ext.trans e) ws rp
    | no => rw [q] at h; exact h
  | true =>
    simp only [if_true] at h
    refine ⟨W.see env σ, viewE env, s, ok.seen, ok.seeWS, ?_⟩
    cases q : me (viewE env) s with
    | ok d s' =>
      rw [q] at h
      cases d with
      | lst ds =>
        simp only [bind_ok] at h
        by_cases fl : D.flats ds = true
        · rw [if_pos fl] at h
          intro W' H' p vs e ws hp hp' r nF nS
          have e2 := ok.unseeExt e
          exact k (W'.unsee env σ) H' p vs ds s' e2 (ok.after e2 (unseeWS ws)) hp hp' (Reps.flatW (W := W') (W' := W'.unsee env σ) ds vs fl (fun _ z => z) r) (fun z => nF z.1) nS h
        · rw [if_neg fl] at h; exact h.elim
      | _ => exact h
    | exc x s' =>
      rw [q] at h
      exact fun W' H' c dd e ws rp => h (W'.unsee env σ) H' c dd (ok.ext.trans (ok.unseeExt e)) (unseeWS ws) rp
    | no => rw [q] at h; exact h
@[simp] def sSetO (v : Bool) (i : Nat) (me : VE → M D) : MS := fun env s => if v = true then (me (viewE env) s).bind fun d s => (match d with | .lst ds => if D.flats ds = true then .ok (.nx (env.set i (.own ds))) s else .no | _ => .no) else (me (hideE env) s).bind fun d s => (match d with | .lst ds => .ok (.nx (env.set i (.own ds))) s | _ => .no)
theorem setO_fin {i : Nat} {H0 : Hp} {W0 : Wd} {pins : List (D × V)} {W W' : Wd} {H H' : Hp} {σ : L2.St} {env : SE} {s s' : DS} {p : Addr} {vs : List V} {ds : List D} (ok : StOk G.K H0 W0 pins W H σ env s) (ok' : StOk G.K H0 W0 pins W' H' σ env s') (hp : H p = none) (hp' : H' p = some (.lst vs)) (r : Reps G.K W' H' ds vs) (nF : ¬ W'.F p) (nS : ¬ W'.isS p) :
    StOk G.K H0 W0 pins W' H' (σ.set i (some (.ref p))) (env.set i (.own ds)) s' :=
  ok'.setOwn hp' r nF nS (ok.ext.dom p hp) fun j es _ q1 q2 => by
    obtain ⟨p', us, e1, e2, _⟩ := ok.own j es q1
    rw [q2] at e1
    cases e1
    rw [hp] at e2
    cases e2
theorem es_setO (v : Bool) (i : Nat) {x : Str} {pos' : Pos} (hN : X.N.Nodup) (he : EF X G e me) (hi : X.N[i]? = some x := by rfl) (hx : Loc X.env.scope x := by first | exact .inl rfl | exact .inr rfl) (hs : swapsWith e (some (.Name x pos')) pos.line X.env = pure false := by rfl) (hf : X.fn x = true ∨ X.env.scope.names.lookup x = some .local := by first | exact .inl rfl | exact .inr rfl | assumption) :
    ES X G (.Assign [.Name x pos'] e pos) (sSetO v i me) := ps_imp (ps_set hN hi hx he hs hf) fun D σ H h => by
  obtain ⟨H0, W0, pins, W, env, s, ok, h⟩ := h
  exact exF_read (f := fun ds s => .ok (.nx (env.set i (.own ds))) s) ok h fun W' H' p vs ds s' _ ok' hp hp' r nF nS h' => h' W' H' _ (setO_fin ok ok' hp hp' r nF nS)
/-! ### x = [.. for ..] on one row -/
section
variable {i : Nat} {y : Str} {py : Pos} {elt tg iter : Expr} {ifs : List Expr} {scope : Scope} {own : List (Str × Nat)} {spos : Pos} {p : Pat} {ml : VE → M (List D)} {tt : VE → M Bool} {te : VE → M D}
theorem es_setLc (v : Bool) (i : Nat) (hc : X.calm = true) (hN : X.N.Nodup) (hsw : swapsWith (.ListComp elt [⟨tg, iter, ifs, 0⟩] scope pos) (some (.Name y py)) spos.line X.env = pure true) (hi : EI X G tg iter ml) (ok : BlkOk X.N X.env.scope scope own)
    (hv : (p.slots.all fun i => (own.map (·.2)).contains i) = true)
    (hg : ∀ (s : Shared) (H : Hp) (C : Addr) (cl : List (Str × Addr)) (fp : List Addr), EG (X.blk s H scope (compEnvC scope cl C X.env) fp) G.K tg p) (ht : ∀ (s : Shared) (H : Hp) (C : Addr) (cl : List (Str × Addr)) (fp : List Addr), ETs (X.blk s H scope (compEnvC scope cl C X.env) fp) G ifs tt)
    (he : ∀ (s : Shared) (H : Hp) (C : Addr) (cl : List (Str × Addr)) (fp : List Addr), EE (X.blk s H scope (compEnvC scope cl C X.env) fp) G elt te) (hy : X.N[i]? = some y := by rfl) (hyl : X.env.scope.names.lookup y = some .local := by rfl) (hs : ∀ x, foldedSetIterable iter X.env x = pure x := by intro _; rfl) :
    ES X G (.Assign [.Name y py] (.ListComp elt [⟨tg, iter, ifs, 0⟩] scope pos) spos) (sSet v i (mLc p (own.map (·.2)) ml tt te)) := ps_imp (ps_setLc hc hN hy hyl hsw hi ok hg ht he hs) fun D σ H h => by
  obtain ⟨H0, W0, pins, W, env, s, ok, h⟩ := h
  exact lc_tLc hv (ex_read ok h fun W' H' u d s' _ ok' r _ h' => h' W' H' _ (ok'.set r))
theorem es_setLcO (v : Bool) (i : Nat) (hc : X.calm = true) (hN : X.N.Nodup) (hsw : swapsWith (.ListComp elt [⟨tg, iter, ifs, 0⟩] scope pos) (some (.Name y py)) spos.line X.env = pure true) (hi : EI X G tg iter ml) (ok : BlkOk X.N X.env.scope scope own)
    (hv : (p.slots.all fun i => (own.map (·.2)).contains i) = true)
    (hg : ∀ (s : Shared) (H : Hp) (C : Addr) (cl : List (Str × Addr)) (fp : List Addr), EG (X.blk s H scope (compEnvC scope cl C X.env) fp) G.K tg p) (ht : ∀ (s : Shared) (H : Hp) (C : Addr) (cl : List (Str × Addr)) (fp : List Addr), ETs (X.blk s H scope (compEnvC scope cl C X.env) fp) G ifs tt)
    (he : ∀ (s : Shared) (H : Hp) (C : Addr) (cl : List (Str × Addr)) (fp : List Addr), EE (X.blk s H scope (compEnvC scope cl C X.env) fp) G elt te) (hy : X.N[i]? = some y := by rfl) (hyl : X.env.scope.names.lookup y = some .local := by rfl) (hs : ∀ x, foldedSetIterable iter X.env x = pure x := by intro _; rfl) :
    ES X G (.Assign [.Name y py] (.ListComp elt [⟨tg, iter, ifs, 0⟩] scope pos) spos) (sSetO v i (mLc p (own.map (·.2)) ml tt te)) := ps_imp (ps_setLc hc hN hy hyl hsw hi ok hg ht he hs) fun D σ H h => by
  obtain ⟨H0, W0, pins, W, env, s, ok, h⟩ := h
  exact lc_tLcF hv (exF_read (f := fun ds s => .ok (.nx (env.set i (.own ds))) s) ok h fun W' H' p vs ds s' _ ok' hp hp' r nF nS h' => h' W' H' _ (setO_fin ok ok' hp hp' r nF nS))
end
/-! ### x.append(e), x[k] = e -/
@[simp] def ownOf (env : SE) (i : Nat) : Option (List D) := match env[i]? with
  | some (.own ds) => some ds
  | _ => none
theorem ownOf_some {env : SE} {i : Nat} {ds : List D} (h : ownOf env i = some ds) : env[i]? = some (.own ds) := by
  unfold ownOf at h
  split at h
  · rename_i q; rw [q]; cases h; rfl
  · cases h
@[simp] def sApp (v : Bool) (i : Nat) (me : VE → M D) : MS := fun env s => match ownOf env i with
  | none => .no
  | some ds => (exq v me env s).bind fun d s => if LenOk (ds.length + 1) then .ok (.nx (env.set i (.own (ds ++ [d])))) s else .no
theorem es_app (v : Bool) (i : Nat) {x : Str} {p1 p2 : Pos} (he : EE X G e me) (hK : X.K = G.K)
    (hN : X.N[i]? = some x := by rfl) (hv : Vis X.env.scope x := by first | exact Or.inl rfl | exact Or.inr (Or.inl rfl) | exact Or.inr (Or.inr rfl)) (hd : (x == ("__debug__" : Str)) = false := by decide) (hcd : (x == ("__classdict__" : Str)) = false := by decide)
    (hm : ∀ {te : TE}, PE X e te → PE X (.Call (.Attribute (.Name x p1) "append" p2) [e] [] pos) (tBM X.K "list" rAppend (tVar i) (tCons te tNil))) {pos' : Pos}
    (hs : swapsWith (.Call (.Attribute (.Name x p1) "append" p2) [e] [] pos) none pos'.line X.env = pure false := by rfl) :
    ES X G (.Expr (.Call (.Attribute (.Name x p1) "append" p2) [e] [] pos) pos') (sApp v i me) := ps_imp (ps_expr (hm he) hs) fun D σ H h => by
  obtain ⟨H0, W0, pins, W, env, s, ok, h⟩ := h
  unfold sApp at h
  split at h
  · exact h.elim
  · rename_i ds q
    have hi := ownOf_some q
    obtain ⟨p, vs, e1, e2, _, nF, nS, _⟩ := ok.own i ds hi
    refine ⟨_, e1, .inl ⟨rfl, vs, .inl (.inl e2)⟩, ?_⟩
    refine ex_read ok h fun W' H' u d s' ex ok' r _ h' => ?_
    split at h'
    · rename_i hz
      obtain ⟨p', vs', f1, f2, f3, _⟩ := ok'.own i ds hi
      rw [e1] at f1
      cases f1
      refine ⟨p, vs', u, rfl, rfl, f2, by rw [f3.length]; exact hz, ?_⟩
      refine h' W' _ σ (ok'.mut (vs' := vs' ++ [u]) hi e1 f2 ?_)
      exact f3.append (by simp only [Reps]; exact ⟨u, [], rfl, r, rfl⟩)
    · exact h'.elim
@[simp] def sSetI (v : Bool) (i : Nat) (mk : VE → M D) (me : VE → M D) : MS := fun env s => (exq v me env s).bind fun d s => match ownOf env i with
  | none => .no
  | some ds => (exq true mk env s).bind fun k s => match k with
    | .int n => (match ixN ds.length n with
      | some j => .ok (.nx (env.set i (.own (ds.set j d)))) s
      | none => .no)
    | _ => .no
theorem es_setI (v : Bool) (i : Nat) {x : Str} {p1 p2 : Pos} {ix : Expr} {mk : VE → M D} (he : EE X G e me) (hx : EE X G ix mk)
    (hN : X.N[i]? = some x := by rfl) (hv : Vis X.env.scope x := by first | exact Or.inl rfl | exact Or.inr (Or.inl rfl) | exact Or.inr (Or.inr rfl)) (hd : (x == ("__debug__" : Str)) = false := by decide) (hcd : (x == ("__classdict__" : Str)) = false := by decide)
    (ha : ∀ v, assign (.Subscript (.Name x p1) ix p2) X.env v = (do
      let ov ← holding [v] (eval (.Name x p1) X.env)
      let iv ← holding [v, ov] (eval ix X.env)
      standAt p2
      holding [v, ov, iv] (setItem ov iv v)
      release [v, ov, iv] []) := by intro _; rfl)
    (hs : swapsWithSole [.Subscript (.Name x p1) ix p2] e pos.line X.env = pure false := by rfl) (hw : swappedStores [.Subscript (.Name x p1) ix p2] e X.env = pure none := by rfl)
    (h1 : (assignEach [.Subscript (.Name x p1) ix p2] X.env).map (·.2) = [assign (.Subscript (.Name x p1) ix p2) X.env] := by rfl) :
    ES X G (.Assign [.Subscript (.Name x p1) ix p2] e pos) (sSetI v i mk me) := ps_imp (ps_asg he (pg_sub (pe_var hN hv hd hcd) hx set_list ha) hs hw h1) fun D σ H h => by
  obtain ⟨H0, W0, pins, W, env, s, ok, h⟩ := h
  refine ex_read ok h fun W' H' u d s' ex ok' r _ h' => ?_
  split at h'
  · exact h'.elim
  · rename_i ds q
    have hi := ownOf_some q
    obtain ⟨p, vs, e1, e2, _, nF, nS, _⟩ := ok'.own i ds hi
    refine ⟨_, e1, ?_⟩
    refine ex_read ok' h' fun W2 H2 u2 k s2 ex2 ok2 r2 _ h2 => ?_
    split at h2
    · rename_i n
      split at h2
      · rename_i j hj
        obtain ⟨p', vs', f1, f2, f3, _⟩ := ok2.own i ds hi
        rw [e1] at f1
        cases f1
        refine ⟨p, vs', _, j, rfl, rep_int r2, f2, by rw [f3.length]; exact hj, ?_⟩
        exact h2 W2 _ σ (ok2.mut (vs' := vs'.set j u) hi e1 f2 (f3.set (Rep.ext ex2 _ _ r) j))
      · exact h2.elim
    · exact h2.elim
end

/-! ### a def -/
@[simp] def startE (n : Nat) (ds : List D) : SE := ds.map Sl.val ++ List.replicate (n - ds.length) Sl.no
@[simp] def runDef (n : Nat) (m : MS) (ds : List D) : M D := fun s => (m (startE n ds) s).bind fun fl s => match fl with
  | .rt d => .ok d s
  | .nx _ => .ok .non s
  | _ => .no
theorem start_ok {K : PySem.W.Frag} {W : Wd} {H : Hp} {s : DS} {N : List Str} {vs : List V} {ds : List D} (r : Reps K W H ds vs) (ws : WS W s H) : StOk K H W [] W H (start N vs) (startE N.length ds) s where
  len := by simp [start, startE, r.length]
  val := fun i d q => by
    unfold startE at q
    have l := r.length
    by_cases hi : i < ds.length
    · rw [List.getElem?_append_left (by simpa using hi), List.getElem?_map, List.getElem?_eq_getElem hi] at q
      simp only [Option.map_some, Option.some.injEq, Sl.val.injEq] at q
      obtain ⟨v, h1, h2⟩ := r.get (i := i) (d := d) (by rw [List.getElem?_eq_getElem hi, q])
      refine ⟨v, ?_, h2⟩
      unfold start
      rw [List.getElem?_append_left (by simpa [l] using hi), List.getElem?_map, h1]
      rfl
    · rw [List.getElem?_append_right (by simp; omega)] at q
      rw [List.getElem?_replicate] at q
      split at q <;> simp at q
  own := fun i ds' q => by
    unfold startE at q
    by_cases hi : i < ds.length
    · rw [List.getElem?_append_left (by simpa using hi), List.getElem?_map, List.getElem?_eq_getElem hi] at q
      simp at q
    · rw [List.getElem?_append_right (by simp; omega)] at q
      rw [List.getElem?_replicate] at q
      split at q <;> simp at q
  dist := fun i j ds' es p hij q _ _ => by
    exfalso
    unfold startE at q
    by_cases hi : i < ds.length
    · rw [List.getElem?_append_left (by simpa using hi), List.getElem?_map, List.getElem?_eq_getElem hi] at q
      simp at q
    · rw [List.getElem?_append_right (by simp; omega)] at q
      rw [List.getElem?_replicate] at q
      split at q <;> simp at q
  ext := Ext.refl W H
  ws := ws
  pin := fun q hq => by cases hq
section
variable {P : Program} {w : World} {K : PySem.W.Frag} {mg : Str → Option Value} {base : Heap} {xr : XR}
theorem def_read {G : Gx} {m : MS} {N : List Str} {W : Wd} {H : Hp} {vs : List V} {ds : List D} {s : DS} {Q : VK} (rs : Reps G.K W H ds vs) (ws : WS W s H) (h : Aft G W H (runDef N.length m ds s) Q) :
    tMS G m { nx := fun _ H' => Q .non H', rt := Q } (start N vs) H := by
  refine ⟨H, W, [], W, _, s, start_ok rs ws, ?_⟩
  unfold runDef at h
  cases q : m (startE N.length ds) s with
  | no => rw [q] at h; exact h
  | exc x s' => rw [q] at h; exact h
  | ok fl s' =>
    rw [q] at h
    simp only [bind_ok] at h
    cases fl with
    | nx env => exact fun W' H' σ ok => h W' H' _ ok.ext ok.ws (by simp)
    | rt d => exact h
    | bk env => exact h.elim
    | ct env => exact h.elim
/-- a def that raises nothing -/
theorem fn_ok {x qual : Str} {st : Stmt} {f : Addr} {fd : FuncData} {N ps : List Str} {k : Nat} {m : MS} (F : Fun K x qual st f fd) (S : FnScope N ps (defScope st))
    (hbody : ∀ (cdv : Value) (A : Around) (outer : List Env) (s : Shared) (H : Hp) (E : XK), Room k (A.deeper (envOfC qual (defScope st) s.heap.objs.size f cdv)) →
      ESs (cxOf CX0 P w K mg base N qual (defScope st) f cdv A outer s H E).nox ⟨K, xr, E⟩ (defBody st) m) :
    FnOk P w K mg base CX0 (k + 1) f fd ps (spM K xr ps.length (runDef N.length m)) := by
  refine F.ok S (fun vs H Q E h => h.1) (fun cdv A outer s H vs Q E hr h => ?_)
  obtain ⟨hl, W, ds, ds', rs, ws, h⟩ := h
  exact ⟨_, hbody cdv A outer s H E hr, def_read rs ws h⟩
end

theorem fn_ok' {P : Program} {w : World} {K : PySem.W.Frag} {mg : Str → Option Value} {base : Heap} {xr : XR} {x qual : Str} {st : Stmt} {f : Addr} {fd : FuncData} {N ps : List Str} {m : MS} {lv n : Nat} {fm : List D → M D} (k : Nat) (hk : lv = k + 1) (hn : n = ps.length) (hf : fm = runDef N.length m) (F : Fun K x qual st f fd) (S : FnScope N ps (defScope st))
    (hbody : ∀ (cdv : Value) (A : Around) (outer : List Env) (s : Shared) (H : Hp) (E : XK), Room k (A.deeper (envOfC qual (defScope st) s.heap.objs.size f cdv)) →
      ESs (cxOf CX0 P w K mg base N qual (defScope st) f cdv A outer s H E).nox ⟨K, xr, E⟩ (defBody st) m) :
    FnOk P w K mg base CX0 lv f fd ps (spM K xr n fm) := by
  subst hk hn hf
  exact fn_ok F S hbody

/-! ### the draws' state -/
/-- what _law_state makes of the script -/
def stCells (ns : List Int) : List Int := let c := (ns.take 63).map fun i => if i < 0 then -i else i
  if c.length = 0 then [0] else c
def spState (K : PySem.W.Frag) : Sp := fun vs H Q _ => ∃ (a : Addr) (ns : List Int), vs = [.ref a] ∧ SqL K H a (ns.map V.int) ∧ ns.length ≤ 63 ∧
  ∀ H' p c, Same H H' → H p = none → H c = none → p ≠ c → H' p = some (.lst [.int 0, .ref c]) → H' c = some (.lst ((stCells ns).map V.int)) → Q (.ref p) H'
/-- one draw -/
def takeC (most at' : Int) (cells : List Int) : Int × Int × List Int :=
  if most < 2 then (0, at', cells)
  else
    let i := (at' % (cells.length : Int)).toNat
    let cell := cells.getD i 0
    if 1000000000000000000 ≤ cell then (cell % most, at', cells.set i (cell / most))
    else
      let mixed := (cell * 48271 + (at' + 1) * 69621) % 2147483647
      let mixed := (mixed * 16807 + (at' + 1) * 7919) % 1000000007
      (mixed / 7 % most, at' + 1, cells)
def fTake (ds : List D) : M D := fun s => match ds, s with
  | [.st, .int most], some (at', cells) => if cells.length ≠ 0 ∧ TakeOk most then (.ok (.int (takeC most at' cells).1) (some ((takeC most at' cells).2.1, (takeC most at' cells).2.2))) else .no
  | _, _ => .no
def spTake : Sp := fun vs H Q _ => ∃ (sa ca : Addr) (at' most : Int) (cells : List Int), vs = [.ref sa, .int most] ∧ H sa = some (.lst [.int at', .ref ca]) ∧ H ca = some (.lst (cells.map V.int)) ∧ sa ≠ ca ∧ cells.length ≠ 0 ∧ (most < 2 ∨ most.natAbs.log2 < 9000) ∧
  ∀ H', (∀ a, a ≠ sa → a ≠ ca → H' a = H a) → H' sa = some (.lst [.int (takeC most at' cells).2.1, .ref ca]) → H' ca = some (.lst ((takeC most at' cells).2.2.map V.int)) → Q (.int (takeC most at' cells).1) H'
theorem take_imp {K : PySem.W.Frag} {xr : XR} : ∀ vs H Q E, spM K xr 2 fTake vs H Q E → spTake vs H Q E := by
  intro vs H Q E h
  obtain ⟨hl, W, ds, s, rs, ws, h⟩ := h
  unfold fTake at h
  split at h
  · rename_i most at' cells
    split at h
    · rename_i hz
      obtain ⟨v, v', rfl, r1, r2⟩ := rs.two
      simp only [Rep] at r1
      obtain ⟨p, hp, rfl⟩ := r1
      rcases ws.2 with ⟨g1, g2⟩ | ⟨sa, ca, i, cells', h0, h00, h1, h2, h3, h4, h5⟩
      · cases g2
      · cases h00
        rw [h0] at hp
        cases hp
        refine ⟨sa, ca, at', most, cells, by rw [rep_int r2], h1, h2, h3, hz.1, hz.2, fun H' k e1 e2 => ?_⟩
        have nS : ∀ a, ¬ W.isS a → a ≠ sa ∧ a ≠ ca := fun a n => ⟨fun e => n ⟨_, h0, .inl e⟩, fun e => n ⟨_, h0, .inr e⟩⟩
        have stay : ∀ a o, H a = some o → (∀ xs, o ≠ .lst xs) → H' a = some o := fun a o q ne => by
          rw [k a (fun e => by rw [e, h1] at q; cases q; exact ne _ rfl) (fun e => by rw [e, h2] at q; cases q; exact ne _ rfl)]; exact q
        refine h W H' (.int _) ⟨fun a o q n => by rw [k a (nS a n).1 (nS a n).2]; exact q, fun a xs q => ?_, fun a o f q => ?_, fun a q => ?_, fun _ f => f, fun _ f => .inl f, fun _ f => f, fun _ f => .inl f⟩ ⟨fun a f => ?_, .inr ⟨sa, ca, _, _, h0, rfl, e1, e2, h3, h4, h5⟩⟩ (rep_int_iff.mpr rfl)
        · rcases q with q | ⟨b, q⟩
          · exact .inl (stay _ _ q fun _ z => by cases z)
          · exact .inr ⟨b, stay _ _ q fun _ z => by cases z⟩
        · rw [k a (fun e => h4 (e ▸ f)) (fun e => h5 (e ▸ f))]; exact q
        · by_cases c1 : a = sa
          · rw [c1, e1] at q; cases q
          · by_cases c2 : a = ca
            · rw [c2, e2] at q; cases q
            · rw [← k a c1 c2]; exact q
        · rw [k a (fun e => h4 (e ▸ f)) (fun e => h5 (e ▸ f))]; exact ws.1 a f
    · exact h.elim
  · exact h.elim
/-- the law's promise -/
def spLaw (K : PySem.W.Frag) : Sp := fun vs H Q _ => ∃ (a : Addr) (ns : List Int), vs = [.ref a] ∧ SqL K H a (ns.map V.int) ∧ ns.length ≤ 63 ∧ ∀ H', Q (.bl true) H'
/-- the law's first row makes the state (slot i), the rest is by its mirror -/
def lawOk (n i : Nat) (m : MS) : Prop := ∀ ns : List Int, ns.length ≤ 63 → ∃ s', m ((List.replicate n Sl.no).set i (.val .st)) (some (0, stCells ns)) = .ok (.rt (.bl true)) s'
section
variable {X : Cx} {G : Gx}
theorem law_read {n i : Nat} {m : MS} (hl : lawOk n i m) {ns : List Int} (hns : ns.length ≤ 63) {Q : VK} (q : ∀ H', Q (.bl true) H') {σ : L2.St} (hσ : σ.length = n) {H : Hp} {p c : Addr} (hpc : p ≠ c) (e1 : H p = some (.lst [.int 0, .ref c])) (e2 : H c = some (.lst ((stCells ns).map V.int))) {nx : L2.St → Hp → Prop} :
    tMS G m { nx := nx, rt := Q } (σ.set i (some (.ref p))) H := by
  obtain ⟨s', h⟩ := hl ns hns
  have get : ∀ (j : Nat) (x : Sl), ((List.replicate n Sl.no).set i (.val .st))[j]? = some x → (x = .no) ∨ (j = i ∧ x = .val .st ∧ i < n) := fun j x q => by
    by_cases hj : i = j
    · subst hj
      by_cases hi : i < n
      · rw [List.getElem?_set_self (by simpa using hi)] at q
        cases q
        exact .inr ⟨rfl, rfl, hi⟩
      · rw [List.getElem?_eq_none (by simpa using hi)] at q; cases q
    · rw [List.getElem?_set_ne hj, List.getElem?_replicate] at q
      split at q
      · cases q; exact .inl rfl
      · cases q
  refine ⟨H, ⟨fun _ => False, some (p, c)⟩, [], ⟨fun _ => False, some (p, c)⟩, (List.replicate n Sl.no).set i (.val .st), some (0, stCells ns), ⟨by simp [hσ], fun j d q1 => ?_, fun j ds q1 => ?_, fun j k ds es p' _ q1 => ?_, Ext.refl _ _, ⟨fun _ f => f.elim, .inr ⟨p, c, 0, stCells ns, rfl, rfl, e1, e2, hpc, fun f => f, fun f => f⟩⟩, fun q hq => by cases hq⟩, ?_⟩
  · rcases get j _ q1 with z | ⟨rfl, z, hi⟩
    · cases z
    · cases z
      refine ⟨.ref p, List.getElem?_set_self (by rw [hσ]; exact hi), ?_⟩
      simp only [Rep]
      exact ⟨(p, c), rfl, rfl⟩
  · rcases get j _ q1 with z | ⟨_, z, _⟩ <;> cases z
  · rcases get j _ q1 with z | ⟨_, z, _⟩ <;> cases z
  · rw [h]
    exact fun W' H' v _ _ r => by rw [r.bl_of]; exact q H'
end
end
end L2.Mir
namespace L2.Mir
open PySem PySem.Spec PyProof.Rows
noncomputable section
section
variable {X : Cx} {G : Gx} {pos : Pos}
@[simp] def sPar3 (v : Bool) (i j l : Nat) (ml : VE → M (List D)) : MS := fun env s => (exqL v ml env s).bind fun ds s => match ds with
  | [d, d', d''] => .ok (.nx (((env.set i (.val d)).set j (.val d')).set l (.val d''))) s
  | _ => .no
theorem Reps.three {K : PySem.W.Frag} {W : Wd} {H : Hp} {d d' d'' : D} {vs : List V} (r : Reps K W H [d, d', d''] vs) : ∃ v v' v'', vs = [v, v', v''] ∧ Rep K W H d v ∧ Rep K W H d' v' ∧ Rep K W H d'' v'' := by
  simp only [Reps] at r
  obtain ⟨v, w, rfl, h, v', w', rfl, h', v'', w'', rfl, h'', rfl⟩ := r
  exact ⟨v, v', v'', rfl, h, h', h''⟩
theorem es_par3 (v : Bool) (i j l : Nat) {x y z : Str} {a b c : Expr} {ml : VE → M (List D)} {px py pz pt : Pos} {kt k2 pt2} (hc : X.calm = true) (hN : X.N.Nodup) (ha : EA X G [a, b, c] ml) (hi : X.N[i]? = some x := by rfl) (hj : X.N[j]? = some y := by rfl) (hl : X.N[l]? = some z := by rfl) (hij : i ≠ j := by decide) (hil : i ≠ l := by decide) (hjl : j ≠ l := by decide)
    (hx : X.env.scope.names.lookup x = some .local := by rfl) (hy : X.env.scope.names.lookup y = some .local := by rfl) (hz : X.env.scope.names.lookup z = some .local := by rfl)
    (hw : swappedStores [.Tuple [.Name x px, .Name y py, .Name z pz] kt pt] (.Tuple [a, b, c] k2 pt2) X.env = pure (some [x, y, z]) := by rfl)
    (hs : swapsWithSole [.Tuple [.Name x px, .Name y py, .Name z pz] kt pt] (.Tuple [a, b, c] k2 pt2) pos.line X.env = pure false := by rfl) :
    ES X G (.Assign [.Tuple [.Name x px, .Name y py, .Name z pz] kt pt] (.Tuple [a, b, c] k2 pt2) pos) (sPar3 v i j l ml) := ps_imp (ps_par3 hc hN hi hj hl hij hil hjl hx hy hz ha hw hs) fun D σ H h => by
  obtain ⟨H0, W0, pins, W, env, s, ok, h⟩ := h
  refine exL_read ok h fun W' H' u d s' _ ok' r h' => ?_
  split at h'
  · obtain ⟨v1, v2, v3, rfl, r1, r2, r3⟩ := r.three
    exact ⟨v1, v2, v3, rfl, h' W' H' _ (((ok'.set r1).set r2).set r3)⟩
  · exact h'.elim
def ipD (f : Int → Int → Int) (x y : D) : M D := fun s => match x, y with
  | .int i, .int j => .ok (.int (f i j)) s
  | _, _ => .no
end
end
end L2.Mir

set_option Elab.async false
set_option linter.all false
set_option maxRecDepth 100000
namespace L2.Mir
open PySem PySem.Spec PyProof.Rows
noncomputable section

/-! ### == by its cases -/
def deqs (xs ys : List D) : Bool := PyData.eqvAll (toPys xs) (toPys ys)
@[simp] theorem deq_int (i j : Int) : deq (.int i) (.int j) = decide (i = j) := by simp [deq, toPy, PyData.eqv, Bool.beq_eq_decide_eq]
@[simp] theorem deq_bl (i j : Bool) : deq (.bl i) (.bl j) = decide (i = j) := by simp [deq, toPy, PyData.eqv, Bool.beq_eq_decide_eq]
@[simp] theorem deq_str (i j : Str) : deq (.str i) (.str j) = decide (i = j) := by simp [deq, toPy, PyData.eqv, Bool.beq_eq_decide_eq]
@[simp] theorem deq_non : deq .non .non = true := by simp [deq, toPy, PyData.eqv]
@[simp] theorem deq_tup (xs ys : List D) : deq (.tup xs) (.tup ys) = deqs xs ys := by simp [deq, toPy, PyData.eqv, deqs]
@[simp] theorem deq_lst (xs ys : List D) : deq (.lst xs) (.lst ys) = deqs xs ys := by simp [deq, toPy, PyData.eqv, deqs]
@[simp] theorem deqs_nil : deqs [] [] = true := by simp [deqs, toPys, PyData.eqvAll]
@[simp] theorem deqs_cons (x y : D) (xs ys : List D) : deqs (x :: xs) (y :: ys) = (deq x y && deqs xs ys) := by simp [deqs, toPys, PyData.eqvAll, deq]
@[simp] theorem deqs_nc (y : D) (ys : List D) : deqs [] (y :: ys) = false := by simp [deqs, toPys, PyData.eqvAll]
@[simp] theorem deqs_cn (y : D) (ys : List D) : deqs (y :: ys) [] = false := by simp [deqs, toPys, PyData.eqvAll]
@[simp] theorem deq_bl_int (b : Bool) (j : Int) : deq (.bl b) (.int j) = ((if b then 1 else 0) == j) := by simp [deq, toPy, PyData.eqv]
@[simp] theorem deq_int_bl (i : Int) (b : Bool) : deq (.int i) (.bl b) = (i == (if b then 1 else 0)) := by simp [deq, toPy, PyData.eqv]
@[simp] theorem deq_non_tup (xs : List D) : deq .non (.tup xs) = false := by simp [deq, toPy, PyData.eqv]
@[simp] theorem deq_tup_non (xs : List D) : deq (.tup xs) .non = false := by simp [deq, toPy, PyData.eqv]
@[simp] theorem deq_non_lst (xs : List D) : deq .non (.lst xs) = false := by simp [deq, toPy, PyData.eqv]
@[simp] theorem deq_lst_non (xs : List D) : deq (.lst xs) .non = false := by simp [deq, toPy, PyData.eqv]
@[simp] theorem deq_non_int (i : Int) : deq .non (.int i) = false := by simp [deq, toPy, PyData.eqv]
@[simp] theorem deq_int_non (i : Int) : deq (.int i) .non = false := by simp [deq, toPy, PyData.eqv]
@[simp] theorem deq_non_bl (i : Bool) : deq .non (.bl i) = false := by simp [deq, toPy, PyData.eqv]
@[simp] theorem deq_bl_non (i : Bool) : deq (.bl i) .non = false := by simp [deq, toPy, PyData.eqv]
@[simp] theorem deq_non_str (i : Str) : deq .non (.str i) = false := by simp [deq, toPy, PyData.eqv]
@[simp] theorem deq_str_non (i : Str) : deq (.str i) .non = false := by simp [deq, toPy, PyData.eqv]
@[simp] theorem deq_tup_lst (xs ys : List D) : deq (.tup xs) (.lst ys) = false := by simp [deq, toPy, PyData.eqv]
@[simp] theorem deq_lst_tup (xs ys : List D) : deq (.lst xs) (.tup ys) = false := by simp [deq, toPy, PyData.eqv]
@[simp] theorem deq_tup_int (xs : List D) (i : Int) : deq (.tup xs) (.int i) = false := by simp [deq, toPy, PyData.eqv]
@[simp] theorem deq_int_tup (xs : List D) (i : Int) : deq (.int i) (.tup xs) = false := by simp [deq, toPy, PyData.eqv]
@[simp] theorem deq_lst_int (xs : List D) (i : Int) : deq (.lst xs) (.int i) = false := by simp [deq, toPy, PyData.eqv]
@[simp] theorem deq_int_lst (xs : List D) (i : Int) : deq (.int i) (.lst xs) = false := by simp [deq, toPy, PyData.eqv]
@[simp] theorem deq_str_int (x : Str) (i : Int) : deq (.str x) (.int i) = false := by simp [deq, toPy, PyData.eqv]
@[simp] theorem deq_int_str (x : Str) (i : Int) : deq (.int i) (.str x) = false := by simp [deq, toPy, PyData.eqv]
@[simp] theorem deq_tup_str (xs : List D) (i : Str) : deq (.tup xs) (.str i) = false := by simp [deq, toPy, PyData.eqv]
@[simp] theorem deq_str_tup (xs : List D) (i : Str) : deq (.str i) (.tup xs) = false := by simp [deq, toPy, PyData.eqv]
@[simp] theorem deq_tup_bl (xs : List D) (i : Bool) : deq (.tup xs) (.bl i) = false := by simp [deq, toPy, PyData.eqv]
@[simp] theorem deq_bl_tup (xs : List D) (i : Bool) : deq (.bl i) (.tup xs) = false := by simp [deq, toPy, PyData.eqv]

/-! ### indices by numbers -/
@[simp] theorem atI_zero {α : Type} (x : α) (xs : List α) : L2.atI (x :: xs) 0 = some x := atI_nat (j := 0) rfl
@[simp] theorem atI_one {α : Type} (x y : α) (xs : List α) : L2.atI (x :: y :: xs) 1 = some y := atI_nat (j := 1) rfl
@[simp] theorem atI_two {α : Type} (x y z : α) (xs : List α) : L2.atI (x :: y :: z :: xs) 2 = some z := atI_nat (j := 2) rfl

/-! ### steps of a block -/
theorem sSeq_nx {m1 m2 : MS} {env env' : SE} {s s' : DS} (h : m1 env s = .ok (.nx env') s') : sSeq m1 m2 env s = m2 env' s' := by simp [h]
theorem sSeq_rt {m1 m2 : MS} {env : SE} {s s' : DS} {d : D} (h : m1 env s = .ok (.rt d) s') : sSeq m1 m2 env s = .ok (.rt d) s' := by simp [h]
theorem runDef_rt {n : Nat} {m : MS} {ds : List D} {s s' : DS} {d : D} (h : m (startE n ds) s = .ok (.rt d) s') : runDef n m ds s = .ok d s' := by
  unfold runDef; rw [h]; rfl

/-! ### the draws -/
def StateOk (s : DS) : Prop := ∃ at' cells, s = some (at', cells) ∧ cells.length ≠ 0
theorem stateOk_st (ns : List Int) : StateOk (some (0, stCells ns)) := by
  refine ⟨0, stCells ns, rfl, ?_⟩
  unfold stCells
  simp only []
  split
  · simp
  · assumption
theorem fTake_ok {s : DS} (h : StateOk s) (most : Int) (hm : TakeOk most) : ∃ r s', fTake [.st, .int most] s = .ok (.int r) s' ∧ StateOk s' ∧ 0 ≤ r ∧ (r < most ∨ (most < 2 ∧ r = 0)) := by
  obtain ⟨at', cells, rfl, hc⟩ := h
  refine ⟨(takeC most at' cells).1, some ((takeC most at' cells).2.1, (takeC most at' cells).2.2), by simp [fTake, hc, hm], ?_⟩
  unfold takeC
  split
  · exact ⟨⟨at', cells, rfl, hc⟩, Int.le_refl _, .inr ⟨by assumption, rfl⟩⟩
  · rename_i h2
    simp only []
    split
    · exact ⟨⟨_, _, rfl, by simpa using hc⟩, Int.emod_nonneg _ (by omega), .inl (Int.emod_lt_of_pos _ (by omega))⟩
    · exact ⟨⟨_, _, rfl, hc⟩, Int.emod_nonneg _ (by omega), .inl (Int.emod_lt_of_pos _ (by omega))⟩
end
end L2.Mir

set_option Elab.async false
set_option linter.all false
set_option maxRecDepth 100000
namespace L2.Mir
open PySem PySem.Spec PyProof.Rows
noncomputable section

/-! ### the greatest common divisor by rests -/
theorem gcd_step (a b : Int) : Int.gcd b (a % b) = Int.gcd a b := by
  have h := Int.gcd_mul_left_add_left b (a % b) (a / b)
  rw [Int.mul_ediv_add_emod] at h
  rw [h, Int.gcd_comm]
/-- a loop of turns that makes (a, b) into (b, a mod b) till b is 0 -/
theorem gcd_turns {B : MS} {p : Pat} {i : Nat} {E : Int → Int → Sl → SE} (hp : p = .n i) (h0 : ∀ a t s, B (E a 0 t) s = .ok (.bk (E a 0 t)) s) (h1 : ∀ a b t s, 0 < b → B (E a b t) s = .ok (.nx (E b (a % b) t)) s)
    (hset : ∀ a b t d, (E a b t).set i (.val d) = E a b (.val d)) (s : DS) : ∀ (k : Nat) (a b : Int) (t : Sl) (ds : List D), 0 ≤ a → 0 ≤ b → b < 2 ^ k → 2 * k + 1 ≤ ds.length →
    ∃ t', forGo p B ds (E a b t) s = .ok (.nx (E (Int.gcd a b) 0 t')) s := by
  subst hp
  intro k
  induction k with
  | zero =>
    intro a b t ds ha hb hk hl
    have e : b = 0 := by simp at hk; omega
    subst e
    cases ds with
    | nil => simp at hl
    | cons d r => exact ⟨.val d, by simp [forGo, hset, h0, Int.natAbs_of_nonneg ha]⟩
  | succ k ih =>
    intro a b t ds ha hb hk hl
    by_cases e : b = 0
    · subst e
      cases ds with
      | nil => simp at hl
      | cons d r => exact ⟨.val d, by simp [forGo, hset, h0, Int.natAbs_of_nonneg ha]⟩
    · have hp : 0 < b := by omega
      have r0 : 0 ≤ a % b := Int.emod_nonneg _ e
      have r1 : a % b < b := Int.emod_lt_of_pos _ hp
      match ds, hl with
      | d :: d' :: r, hl =>
        by_cases e2 : a % b = 0
        · refine ⟨.val d', ?_⟩
          have g := gcd_step a b
          rw [e2] at g
          simp only [Int.gcd_zero] at g
          have hh : (b.natAbs : Int) = b := Int.natAbs_of_nonneg hb
          rw [g] at hh
          simp [forGo, hset, h1 _ _ _ _ hp, e2, h0, hh]
        · have hp2 : 0 < a % b := by omega
          have q0 : 0 ≤ b % (a % b) := Int.emod_nonneg _ e2
          have q1 : b % (a % b) < a % b := Int.emod_lt_of_pos _ hp2
          have q2 : b % (a % b) + (a % b) * (b / (a % b)) = b := Int.emod_add_mul_ediv ..
          have q3 : 1 ≤ b / (a % b) := Int.le_ediv_of_mul_le hp2 (by omega)
          have q4 : (a % b) * 1 ≤ (a % b) * (b / (a % b)) := Int.mul_le_mul_of_nonneg_left q3 r0
          have q5 : b % (a % b) < 2 ^ k := by
            have : (2 : Int) ^ (k + 1) = 2 * 2 ^ k := by rw [Int.pow_succ]; omega
            omega
          obtain ⟨t', ht⟩ := ih (a % b) (b % (a % b)) (.val d') r r0 q0 q5 (by simp at hl; omega)
          rw [gcd_step, gcd_step] at ht
          exact ⟨t', by simp [forGo, hset, h1 _ _ _ _ hp, h1 _ _ _ _ hp2, ht]⟩
      | [d], hl => simp at hl
      | [], hl => simp at hl

/-! ### sizes -/
theorem mulOk_of {i j : Int} {a b : Nat} (ha : i.natAbs < 2 ^ a) (hb : j.natAbs < 2 ^ b) (h : a + b ≤ 1000000) : mulOk i j = true := by
  unfold mulOk
  refine @decide_eq_true _ (_) ?_
  by_cases h0 : a = 0
  · subst h0
    left
    have : i.natAbs < 1 := by simpa using ha
    omega
  · by_cases h1 : b = 0
    · subst h1
      right; left
      have : j.natAbs < 1 := by simpa using hb
      omega
    · right; right
      have x := log2_lt_of_pow ha (by omega)
      have y := log2_lt_of_pow hb (by omega)
      omega

@[simp] theorem mulOk_L {i j : Int} (h : i.natAbs < 18446744073709551616) : mulOk i j = true := by
  unfold mulOk; refine @decide_eq_true _ (_) ?_; left; omega
@[simp] theorem mulOk_R {i j : Int} (h : j.natAbs < 18446744073709551616) : mulOk i j = true := by
  unfold mulOk; refine @decide_eq_true _ (_) ?_; right; left; omega

/-! ### parts are rational numbers -/
def qD (q : Rat) : D := .tup [.int q.num, .int q.den]
theorem qD_inj {x y : Rat} (h : qD x = qD y) : x = y := by
  simp only [qD, D.tup.injEq, List.cons.injEq, D.int.injEq, and_true] at h
  exact Rat.ext h.1 (by omega)
@[simp] theorem okD_q (n : Nat) (q : Rat) : okD (n + 1) (qD q) = true := by simp [qD]
@[simp] theorem okD_q60 (q : Rat) : okD 60 (qD q) = true := okD_q 59 q
@[simp] theorem flat_q (q : Rat) : D.flat (qD q) = true := by simp [qD]
@[simp] theorem deq_q (x y : Rat) : deq (qD x) (qD y) = decide (x = y) := by
  simp only [qD, deq_tup, deqs_cons, deq_int, deqs_nil, Bool.and_true]
  rw [← Bool.decide_and]
  congr 1
  simp only [eq_iff_iff]
  exact ⟨fun h => Rat.ext h.1 (by omega), fun h => by subst h; simp⟩
@[simp] theorem isNonD_q (q : Rat) : isNonD (qD q) = some false := rfl
@[simp] theorem tyN_q (q : Rat) : tyN (qD q) = some "tuple" := rfl
/-- sizes of parts, in binary digits -/
def szQ (k : Nat) (q : Rat) : Prop := q.num.natAbs < 2 ^ k ∧ q.den < 2 ^ k
theorem szQ.mono {k j : Nat} {q : Rat} (h : szQ k q) (hj : k ≤ j) : szQ j q :=
  ⟨Nat.lt_of_lt_of_le h.1 (Nat.pow_le_pow_right (by decide) hj), Nat.lt_of_lt_of_le h.2 (Nat.pow_le_pow_right (by decide) hj)⟩
theorem divInt_sz {a b : Int} {k : Nat} (ha : a.natAbs < 2 ^ k) (hb : b.natAbs < 2 ^ k) (hb0 : b ≠ 0) : szQ k (Rat.divInt a b) := by
  refine ⟨?_, ?_⟩
  · rw [Rat.num_divInt]
    refine Nat.lt_of_le_of_lt ?_ ha
    have h1 : ((b.gcd a : Nat) : Int) ∣ b.sign * a := Int.dvd_mul_of_dvd_right (Int.gcd_dvd_right ..)
    rw [Int.natAbs_ediv_of_dvd h1, Int.natAbs_mul]
    refine Nat.le_trans (Nat.div_le_self _ _) ?_
    have : b.sign.natAbs ≤ 1 := by
      rcases Int.lt_trichotomy b 0 with h | h | h
      · rw [Int.sign_eq_neg_one_of_neg h]; decide
      · omega
      · rw [Int.sign_eq_one_of_pos h]; decide
    exact Nat.le_trans (Nat.mul_le_mul_right _ this) (by omega)
  · rw [Rat.den_divInt, if_neg hb0]
    exact Nat.lt_of_le_of_lt (Nat.div_le_self _ _) hb
theorem pow_lt_mul {a b i j : Nat} (ha : a < 2 ^ i) (hb : b < 2 ^ j) : a * b < 2 ^ (i + j) := by
  rw [Nat.pow_add]; exact Nat.mul_lt_mul'' ha hb
theorem den_ne (q : Rat) : (q.den : Int) ≠ 0 := by have := q.den_pos; omega
theorem add_divInt (x y : Rat) : Rat.divInt (x.num * y.den + y.num * x.den) (x.den * y.den) = x + y := by
  rw [Rat.add_def', ← Rat.divInt_ofNat]; simp
theorem sub_divInt (x y : Rat) : Rat.divInt (x.num * y.den - y.num * x.den) (x.den * y.den) = x - y := by
  rw [Rat.sub_def', ← Rat.divInt_ofNat]; simp
theorem mul_divInt (x y : Rat) : Rat.divInt (x.num * y.num) (x.den * y.den) = x * y := by
  rw [Rat.mul_def', ← Rat.divInt_ofNat]; simp
theorem div_divInt (x y : Rat) : Rat.divInt (x.num * y.den) (x.den * y.num) = x / y := by
  rw [Rat.div_def, Rat.inv_def, ← Rat.num_divInt_den x, Rat.divInt_mul_divInt, Rat.num_divInt_den]
theorem szQ.mul {x y : Rat} {i j : Nat} (hx : szQ i x) (hy : szQ j y) : szQ (i + j) (x * y) := by
  rw [← mul_divInt]
  refine divInt_sz ?_ ?_ (by simp [x.den_nz, y.den_nz])
  · rw [Int.natAbs_mul]; exact pow_lt_mul hx.1 hy.1
  · rw [Int.natAbs_mul]; exact pow_lt_mul hx.2 hy.2
theorem szQ.neg {x : Rat} {i : Nat} (hx : szQ i x) : szQ i (-x) := ⟨by simpa using hx.1, hx.2⟩
theorem szQ.add {x y : Rat} {i j : Nat} (hx : szQ i x) (hy : szQ j y) : szQ (i + j + 1) (x + y) := by
  rw [← add_divInt]
  have h1 := pow_lt_mul hx.1 hy.2
  have h2 := pow_lt_mul hy.1 hx.2
  rw [Nat.add_comm j i] at h2
  refine divInt_sz ?_ ?_ (by simp [x.den_nz, y.den_nz])
  · refine Nat.lt_of_le_of_lt (Int.natAbs_add_le _ _) ?_
    rw [Int.natAbs_mul, Int.natAbs_mul, Int.natAbs_natCast, Int.natAbs_natCast, Nat.pow_succ]
    omega
  · rw [Int.natAbs_mul, Int.natAbs_natCast, Int.natAbs_natCast]
    have := pow_lt_mul hx.2 hy.2
    rw [Nat.pow_succ]
    omega
theorem szQ.sub {x y : Rat} {i j : Nat} (hx : szQ i x) (hy : szQ j y) : szQ (i + j + 1) (x - y) := by
  rw [Rat.sub_eq_add_neg]; exact hx.add hy.neg
/-- a normal pair -/
theorem qD_divInt (a b : Int) (hb : 0 < b) : qD (Rat.divInt a b) = .tup [.int (a / (Int.gcd a b : Nat)), .int (b / (Int.gcd a b : Nat))] := by
  unfold qD
  rw [Rat.num_divInt, Rat.den_divInt, if_neg (by omega), Int.sign_eq_one_of_pos hb, Int.one_mul, Int.gcd_comm b a]
  congr 3
  rw [Int.natCast_ediv]
  congr 2
  omega
end
end L2.Mir
namespace L2.Mir
open PySem PySem.Spec PyProof.Rows
noncomputable section
/-! ### comprehensions as maps -/
theorem lcGo_map {f : D → M (Option D)} {g : D → D} {s : DS} : ∀ {ds : List D}, (∀ d ∈ ds, f d s = .ok (some (g d)) s) → lcGo f ds s = .ok (ds.map g) s
  | [], _ => rfl
  | d :: ds, h => by
    simp only [lcGo]
    rw [h d List.mem_cons_self, bind_ok, lcGo_map fun x hx => h x (List.mem_cons_of_mem _ hx)]
    rfl
theorem lcGo_id {f : D → M (Option D)} {s : DS} {ds : List D} (h : ∀ d ∈ ds, f d s = .ok (some d) s) : lcGo f ds s = .ok ds s := by
  rw [lcGo_map (g := id) h, List.map_id]
theorem lcGo_filter {f : D → M (Option D)} {p : D → Bool} {s : DS} : ∀ {ds : List D}, (∀ d ∈ ds, f d s = .ok (if p d = true then some d else none) s) → lcGo f ds s = .ok (ds.filter p) s
  | [], _ => rfl
  | d :: ds, h => by
    simp only [lcGo]
    rw [h d List.mem_cons_self, bind_ok, lcGo_filter fun x hx => h x (List.mem_cons_of_mem _ hx), bind_ok]
    cases q : p d <;> simp [q]
/-- .. over encoded items -/
theorem lcGo_mapE {α : Type} {f : D → M (Option D)} {e : α → D} {g : α → D} {s : DS} : ∀ {l : List α}, (∀ a ∈ l, f (e a) s = .ok (some (g a)) s) → lcGo f (l.map e) s = .ok (l.map g) s
  | [], _ => rfl
  | d :: ds, h => by
    simp only [lcGo, List.map_cons]
    rw [h d List.mem_cons_self, bind_ok, lcGo_mapE fun x hx => h x (List.mem_cons_of_mem _ hx)]
    rfl
theorem rngD_len (lo hi : Int) : (rngD lo hi).length = (hi - lo).toNat := by simp [rngD]
theorem rngD_nat (n : Nat) : rngD 0 n = (List.range n).map fun (i : Nat) => D.int i := by
  unfold rngD
  simp
theorem atI_getElem {α : Type} {xs : List α} {i : Nat} (h : i < xs.length) : L2.atI xs (i : Int) = some xs[i] := atI_nat (List.getElem?_eq_getElem h)
/-- draws fill a list -/
theorem lcGo_draw {f : D → M (Option D)} {P : D → Prop} (h : ∀ d s, StateOk s → ∃ y s', f d s = .ok (some y) s' ∧ StateOk s' ∧ P y) : ∀ (ds : List D) (s : DS), StateOk s → ∃ ys s', lcGo f ds s = .ok ys s' ∧ StateOk s' ∧ ys.length = ds.length ∧ ∀ y ∈ ys, P y
  | [], s, hs => ⟨[], s, rfl, hs, rfl, by simp⟩
  | d :: ds, s, hs => by
    obtain ⟨y, s1, h1, h2, h3⟩ := h d s hs
    obtain ⟨ys, s2, g1, g2, g3, g4⟩ := lcGo_draw h ds s1 h2
    refine ⟨y :: ys, s2, by simp [lcGo, h1, g1], g2, by simp [g3], fun z hz => ?_⟩
    rcases List.mem_cons.mp hz with rfl | hz
    · exact h3
    · exact g4 z hz
end
end L2.Mir

set_option Elab.async false
set_option linter.all false
set_option maxRecDepth 100000
set_option maxHeartbeats 4000000
namespace L2.Mir
open PySem PySem.Spec PyProof.Rows
noncomputable section

/-! ### exceptions of the program's own: their making says super().__init__(pre + par), then self.fld = par -/
/-- the j-th def of a class's text -/
def inCls (s : Stmt) (j : Nat) : Stmt := match s with
  | .ClassDef _ _ _ b _ _ _ _ _ _ _ => b.getD j (.Pass ⟨0, 0, 0, 0⟩)
  | _ => .Pass ⟨0, 0, 0, 0⟩
structure ExI (P : Program) (K : PySem.W.Frag) (C : Addr) (qual par fld pre : Str) (st : Stmt) : Prop where
  cls : OexC K C
  ve : PySem.W.subIn K (.ref C) (.type "ValueError") = some true
  me : PySem.W.mroIn K C (.ref C) = some true
  sup : PySem.W.ks_superIn K C C "__init__" = some (some (.builtin "ValueError.__init__"))
  tp : PySem.W.nsIn K cStatics "thirdparty.any" = some none
  fno : PySem.W.findIn K (.ref C) fld = some none
  fn : ∃ (fI cc cda : Addr) (oc : Value) (od : Option Addr) (kV doc pm : Value) (an : Option Addr) (ct : Value) (osl : Array (Option Value)) (ccl : Value) (cdd : Option Addr) (vs : Array Value) (ccs : Array (Option Value)) (cl : Value) (cld : Option Addr) (csl : Array (Option Value)) (file : Str) (tf : Tok),
    PySem.W.findIn K (.ref C) "__init__" = some (some (.ref fI)) ∧ PySem.W.typeIn K (.ref fI) = some (.type "function") ∧
    K.lookup fI = some ⟨oc, od, .func (PySem.W.ksFn "__init__" qual (defArgs st) (defBody st) (defScope st) .none kV doc pm an (.ref cda) ct cc), osl⟩ ∧ PySem.W.codeIn K (.ref cda) qual = true ∧
    K.lookup cda = some ⟨ccl, cdd, .fields vs, ccs⟩ ∧ vs[2]? = some (.str file tf) ∧ ((P.main.file : Str) == file) = true ∧ K.lookup cc = some ⟨cl, cld, .cell (some (.ref C)), csl⟩
  top : (P.main.scope.names.lookup ("super" : Str)).isSome = false
  bnd : ∀ (kV doc pm : Value) (an : Option Addr) (cdv ct : Value) (cc : Addr) (a b : Value), bindArgs (PySem.W.ksFn "__init__" qual (defArgs st) (defBody st) (defScope st) .none kV doc pm an cdv ct cc) ⟨[a, b], []⟩ = pure [(("self" : Str), a), (par, b)]
  scK : (defScope st).kind = .function
  scC : (defScope st).isCoroutine = false
  scG : (defScope st).isGenerator = false
  scS : (defScope st).names.lookup ("super" : Str) = some .globalImplicit
  scF : (defScope st).names.lookup ("__class__" : Str) = some .free
  sc0 : (defScope st).names.lookup ("self" : Str) = some .local
  sc1 : (defScope st).names.lookup par = some .local
  scN : ∀ x ∈ (defScope st).names, x.2 ≠ .cell
  ne : par ≠ "self"
  head : ∃ ar : Arg, ((defArgs st).posonlyargs ++ (defArgs st).args).head? = some ar ∧ ar.arg = "self"
  body : ∃ (p0 p1 p2 p3 p4 p5 p6 p7 p8 p9 p10 p11 : Pos) (j : Nat), defBody st = [.Expr (.Call (.Attribute (.Call (.Name "super" p0) [] [] p1) "__init__" p2) [.BinOp (.Constant (.str pre) j p3) .Add (.Name par p4) p5] [] p6) p7,
    .Assign [.Attribute (.Name "self" p8) fld p9] (.Name par p10) p11] ∧ (p2.endLine == p6.line) = true
  nd : (par == ("__debug__" : Str)) = false
section
variable {P : Program} {w : World} {A : Around} {E : Value → Shared → Prop} {K : PySem.W.Frag} {C : Addr} {qual par fld pre : Str} {st : Stmt} {mg mb : Str → Option Value}
theorem super_form {env : Env} {o e : Expr} {nm : Str} {p2 p6 : Pos} (hl : (p2.endLine == p6.line) = true) (he : starEach [e] env = [(false, eval e env)] := by rfl) : eval (.Call (.Attribute o nm p2) [e] [] p6) env = (do
      let ov ← attributeBase o nm env (eval o env)
      standAt p2.atName
      let (f, first) ← holding [ov] (getMethod ov nm (do return (← importBound o env).getD true))
      callWith p6 f first (backTo p6 (starEach [e] env)) []) := by
  have hp : methodCallPos true o env p2 p6 = pure p6 := by
    unfold methodCallPos
    rw [hl]
    rfl
  show (do
    let ov ← attributeBase o nm env (eval o env)
    standAt p2.atName
    methodCall o nm p2 p6 env ov 1 (backTo p6 (starEach [e] env)) []) = _
  unfold methodCall
  rw [he]
  have hf : methodCallForm 1 (backTo p6 [(false, eval e env)]) [] = true := rfl
  rw [hf, hp]
  rfl
theorem exi_call (T : ExI P K C qual par fld pre st) {h : Heap} {g : Array GenState} {d : Drawn} {t : Nat} {os : OsState} {v : Str} {tk : Tok} {Q : Value → Shared → Prop} (X : K.In h) (hr : Room 1 A)
    (hg : h.Ns mainGlobals mg) (hms : mg "super" = none) (hb : h.Ns builtinsNs mb) (hbs : mb "super" = some (.type "super")) (lim : h.NoLimit) (hl : pre.length + v.length ≤ sizeLine)
    (hq : ∀ (h' : Heap) (t' : Nat) (e dx t0 : Addr), (∀ b o, h.get? b = some o → h'.get? b = some o) → h.objs.size ≤ e → h.objs.size ≤ dx → dx ≠ e →
      h'.get? e = some ({ cls := .ref C, dict := some dx, data := .fields #[.ref t0, .none, .none, .none, .bool false, .none] } : Obj) → h'.Ns1 dx (fun y => if y = fld then some (.str v tk) else none) → Q (.ref e) ⟨h', g, d, t', os⟩) :
    wpAny (model P w) A (call (.ref C) [.str v tk]) Q E ⟨h, g, d, t, os⟩ := by
  obtain ⟨nm, q, N, bs, bm, sn, sub, ab, col, dd, k0, k1, k2, k3, k5, hC, hbm⟩ := T.cls.cls
  obtain ⟨fI, cc, cda, oc, od, kV, doc, pm, an, ct, osl, ccl, cdd, vs, ccs, cl, cld, csl, file, tf, iI, iT, iL, iC, iD, iF, iM, iX⟩ := T.fn
  obtain ⟨p0, p1, p2, p3, p4, p5, p6, p7, p8, p9, p10, p11, j, hbody, hline⟩ := T.body
  obtain ⟨ar, har, hself⟩ := T.head
  have hcl : PySem.W.clsIn K C = some { name := nm, bases := bs, mro := .ref C :: bm, ns := N, qualname := q, hasDict := true, slotNames := sn, subclasses := sub, abstract := ab, collection := col, hasDel := false } := by unfold PySem.W.clsIn; rw [hC] <;> rfl
  have kA : ∀ b o, h.get? b = some o → ((h.push (PySem.W.kdv_tup [.str v tk])).push (PySem.HandSPX.excO C h.objs.size)).get? b = some o := fun b o e => Heap.get?_push_of_some _ (Heap.get?_push_of_some _ e)
  have eA : ((h.push (PySem.W.kdv_tup [.str v tk])).push (PySem.HandSPX.excO C h.objs.size)).get? (h.objs.size + 1) = some (PySem.HandSPX.excO C h.objs.size) := by heap_get
  have hne : ∀ {b : Addr} {o : Obj}, h.get? b = some o → b ≠ h.objs.size + 1 := fun {b o} z => Nat.ne_of_lt (Nat.lt_succ_of_lt (Heap.lt_size z))
  refine wpAny_call (PySem.HandSPX.call_own PySem.F.excBase_ValueError (fun Y => PySem.HandSPX.refsVE_contains Y bm hbm) (X _ _ hC) (PySem.W.looks_findIn X iI) (fun self => PySem.W.bind_fn X self iT) (by show 1 ≤ sizeLine; rw [sizeLine_eq]; decide) ?_)
  generalize (h.push (PySem.W.kdv_tup [.str v tk])).push (PySem.HandSPX.excO C h.objs.size) = hA at *
  generalize he : h.objs.size + 1 = e at *
  have XA : K.In hA := X.keeps kA
  refine ks_codeAny_call_defAt (fd := PySem.W.ksFn "__init__" qual (defArgs st) (defBody st) (defScope st) .none kV doc pm an (.ref cda) ct cc) (body := defBody st) (binds := [(("self" : Str), .ref e), (par, .str v tk)]) (hr.make C [.str v tk] []).depth (XA _ _ iL) rfl (lim.keeps kA) (PySem.W.codeRec_of XA iC) rfl (.of_eq (T.bnd ..)) T.scN ?_ (fun hB hns kB => ?_) T.scC T.scG T.scK
  · intro x hx
    rcases List.mem_cons.mp hx with rfl | hx
    · exact T.sc0
    · rcases List.mem_cons.mp hx with rfl | hx
      · exact T.sc1
      · cases hx
  · generalize hA' : (A.under (.builtin "type.__call__" ⟨.ref C :: [.str v tk], []⟩)) = A1
    show _root_.PySem.wpAt _ (A1.deeper (PySem.W.ksEnv qual (defScope st) hA.objs.size fI (.ref cda) cc)) (.func (defBody st) (PySem.W.ksEnv qual (defScope st) hA.objs.size fI (.ref cda) cc)) (execs (defBody st) (PySem.W.ksEnv qual (defScope st) hA.objs.size fI (.ref cda) cc)) _ _ _
    rw [hbody]
    have XB : K.In hB := XA.keeps kB
    have gB : hB.Ns mainGlobals mg := hg.keeps fun b o z => kB b o (kA b o z)
    have bB : hB.Ns builtinsNs mb := hb.keeps fun b o z => kB b o (kA b o z)
    have eB := kB _ _ eA
    have hks : (PySem.W.ksEnv qual (defScope st) hA.objs.size fI (.ref cda) cc).kindOf "super" = some .globalImplicit := T.scS
    have hkc : (PySem.W.ksEnv qual (defScope st) hA.objs.size fI (.ref cda) cc).kindOf "__class__" = some .free := T.scF
    have hk0 : (PySem.W.ksEnv qual (defScope st) hA.objs.size fI (.ref cda) cc).kindOf "self" = some .local := T.sc0
    have hk1 : (PySem.W.ksEnv qual (defScope st) hA.objs.size fI (.ref cda) cc).kindOf par = some .local := T.sc1
    have hkk : (PySem.W.ksEnv qual (defScope st) hA.objs.size fI (.ref cda) cc).scope.kind = .function := T.scK
    have v0 : (fun x => [(("self" : Str), Value.ref e), (par, .str v tk)].reverse.lookup x) "self" = some (.ref e) := by
      have q : (("self" : Str) == par) = false := by simpa using T.ne.symm
      simp [List.lookup, q]
    have v1 : (fun x => [(("self" : Str), Value.ref e), (par, .str v tk)].reverse.lookup x) par = some (.str v tk) := by
      simp [List.lookup]
    have hi : interactive (PySem.W.ksEnv qual (defScope st) hA.objs.size fI (.ref cda) cc) = false := by
      unfold interactive
      rw [hkk]
      rfl
    refine ks_wpAt_execs_cons (ks_wpAt_Expr_any (ks_wpAt_MethodCall (pl := do return (← importBound (.Call (.Name "super" p0) [] [] p1) (PySem.W.ksEnv qual (defScope st) hA.objs.size fI (.ref cda) cc)).getD true) ?_ (super_form hline)) hi)
    refine ks_wpAt_super_base hks hkc rfl rfl (XB _ _ iL) rfl har rfl (XB _ _ iD) rfl iF iM T.top ?_
    refine PySem.W.ks_loadName_global hkk hks (Calls.loadGlobal_builtin gB hms bB hbs ⟨rfl, ?_⟩)
    refine wpAny_loadName_free hkk hkc rfl ⟨_, XB _ _ iX, rfl⟩ ?_
    rw [hself]
    refine wpAny_loadName_local hkk hk0 hns v0 ?_
    refine ks_wpAny_isType_cls (XB _ _ hC) rfl ⟨rfl, ?_⟩
    refine ks_wpAny_call_super (XB _ _ hC) rfl eB rfl (fun c z => by cases z) (PySem.W.looks_mroIn XB T.me) (fun hD eD kD => ?_)
    have XD : K.In hD := XB.keeps kD
    have iD' := kD _ _ eB
    have hfa : PySem.W.alongIn K "__init__" (((Value.ref C :: bm).dropWhile (· != .ref C)).drop 1) = some (some (.builtin "ValueError.__init__")) := by
      have z := T.sup
      unfold PySem.W.ks_superIn at z
      rw [hcl] at z
      exact z
    have hcn : e ≠ C := fun z => hne (X _ _ hC) z.symm
    have ID : PySem.W.InstAt hD e (PySem.HandSPX.excO C h.objs.size) C none := ⟨iD', rfl, rfl, trivial⟩
    refine PySem.W.kxs_getMethod PySem.W.kxs_ValueError eD (PySem.W.looks_opaque XD T.tp) (l₀ := .ref C :: bm) (fun A Q E s k q => wpAny_bind ((PySem.W.looks_clsIn XD hcl) A _ E s k (wpAny_pure q))) rfl XD hfa (ID.type.andThen (PySem.W.looks_subIn XD T.ve)) hcn rfl ?_
    have hu : (hD.push (PySem.W.kxs_mw "ValueError.__init__" e)).get? hD.objs.size = some (PySem.W.kxs_mw "ValueError.__init__" e) := Heap.get?_push_at rfl rfl
    have kU : ∀ b o, hD.get? b = some o → (hD.push (PySem.W.kxs_mw "ValueError.__init__" e)).get? b = some o := fun b o z => Heap.get?_push_of_some _ z
    have eU := kU _ _ iD'
    generalize hD.push (PySem.W.kxs_mw "ValueError.__init__" e) = hU at *
    have XU : K.In hU := XD.keeps kU
    have nU := hns.keeps fun b o z => kU b o (kD b o z)
    refine PySem.W.kxs_callWith (i := "ValueError.__init__") (x := e) rfl ?_
    refine Calls.evalArgs_plain (Calls.spliced_cons ?_)
    refine wpAny_BinOp (Calls.Constant_str ?_)
    refine wpAny_Name (wpAny_loadName_local hkk hk1 nU v1 ?_) T.nd
    refine PyProof.Rows.add_str (fun t' tk' => ?_) hl
    refine Calls.spliced_nil ⟨hu, ?_⟩
    have FB := PySem.F.excBase_ValueError
    refine wpAny_call (codeAny_of_tree ?_)
    show wpAny _ _ (callAny (.ref hD.objs.size) ⟨[.str (pre ++ v) t'], []⟩) _ _ _
    simp only [callAny]
    refine wpAny_bind (wpAny_load hu ?_)
    simp only [PySem.W.kxs_mw, show (Value.type "method-wrapper" == Value.type "method" || Value.type "method-wrapper" == Value.type "builtin_function_or_method" || Value.type "method-wrapper" == Value.type "method-wrapper") = true by decide, if_true]
    refine PySem.W.KFB.if_so (by decide) ?_
    refine wpAny_bind (PySem.W.check_bound_init FB.toExcCallFacts (XU _ _ hC) eU rfl ?_)
    refine wpAny_bind (wpAny_pure (wpAny_pure ?_))
    refine ⟨plainId_quiet FB.init.plain _, codeAny_builtin FB.initEntry ?_⟩
    refine PySem.W.exc_init_tree (cls := .ref C) (t0 := h.objs.size) (dv := none) (c2 := .none) (c3 := .none) (b4 := .bool false) eU (by show 1 ≤ sizeLine; rw [sizeLine_eq]; decide) (fun hE kE eE tE => ?_)
    have sB : ∀ b o, hA.get? b = some o → hU.get? b = some o := fun b o z => kU b o (kD b o (kB b o z))
    have sE : ∀ b o, h.get? b = some o → hE.get? b = some o := fun b o z => kE b o (hne z) (sB b o (kA b o z))
    have XE : K.In hE := X.keeps sE
    have lA : hA.objs.size ≠ e := fun z => by
      have := Heap.lt_size eA
      rw [z] at this
      exact absurd this (Nat.lt_irrefl _)
    have nE : hE.Ns hA.objs.size (fun x => [(("self" : Str), Value.ref e), (par, .str v tk)].reverse.lookup x) := by
      obtain ⟨oL, es, ep, hL, r⟩ := nU
      exact ⟨oL, es, ep, kE _ _ lA hL, r⟩
    refine ks_wpAt_execs_cons (ks_wpAt_Assign_Attr (wpAt_of_wpAny (wpAny_Name (wpAny_loadName_local hkk hk1 nE v1 ?_) T.nd)) rfl)
    refine wpAny_Name (wpAny_loadName_local hkk hk0 nE v0 ?_)
    refine PySem.W.set_plain XE (ox := { cls := .ref C, data := .fields #[.ref hU.objs.size, .none, .none, .none, .bool false, .none] }) (od := none) ⟨eE, rfl, rfl, trivial⟩ T.cls.sa ?_
    refine PySem.HandSPX.exc_osa XE eE hcl (show PySem.HandSPX.refsVE (.ref C :: bm) = true from hbm) rfl T.fno (fun h' tk' dx k dn dne hx hn => ?_)
    refine wpAt_of_wpAny (wpAny_execs_nil ?_)
    refine ⟨rfl, hq h' _ e dx hU.objs.size (fun b o z => k b o (hne z) (sE b o z)) (by omega) ?_ dne hx hn⟩
    have z : e < hE.objs.size := Heap.lt_size eE
    rw [← he] at z
    exact Nat.le_trans (Nat.le_of_lt (Nat.lt_of_succ_lt z)) dn
/-- .. as a rule: what a raise raises -/
theorem pmk_exi {X : Cx} (T : ExI X.prog X.K C qual par fld pre st) {x : Str} {e : Expr} {ta : TA} {p pos : Pos} (hr : Room 1 X.A) (hg : Gl X x) (hm : X.mg x = some (.ref C)) (hs : X.mg "super" = none) (ha : PA X [e] ta)
    (hdb : (x == ("__debug__" : Str)) = false := by decide) (he : starEach [e] X.env = (false, eval e X.env) :: starEach [] X.env := by rfl) (hpl : (backTo pos (starEach [] X.env)).any (·.1) = false := by rfl) :
    PMk X (.Call (.Name x p) [e] [] pos) (fun σ H Q => ta σ H fun vs H1 => ∃ v : Str, vs = [.str v] ∧ pre.length + v.length ≤ sizeLine ∧ ∀ dd, H1 dd = none → Q (.ref C) (some dd) (upd H1 dd (.xd [(fld, .str v)]))) := by
  intro pins s σ H Q I h
  refine wpAny_Call_Name_kw (ld_glob I hg hm ?_ hdb)
  refine PySem.W.callWith_K (h₀ := X.base) I.ok.mod.kin T.cls.kC (thn (ha.run pos pins s σ H _ I h) fun us s1 hh => ?_) he hpl
  obtain ⟨vs, H1, I1, r1, v, ev, hz, q1⟩ := hh
  refine ⟨I1.kIn, ?_⟩
  subst ev
  show wpAny _ _ (call (.ref C) us) _ _ _
  cases r1 with
  | @cons _ u _ ur ra rn =>
  cases rn
  obtain ⟨tk, rfl⟩ : ∃ tk, u = .str v tk := ra
  obtain ⟨hp, g, dr, tt, os⟩ := s1
  obtain ⟨mb, hb1, hb2⟩ := I1.mod.blt
  refine exi_call T I1.kIn hr (I1.mod.glob.keeps I1.bk) hs (hb1.keeps I1.bk) ((hb2 _ (by decide)).trans (by rfl)) (I1.mod.nolimit.keeps I1.bk) hz (fun h' t' e dx t0 k he hd hne hx hn => ?_)
  have na : H1 e = none := I1.hok.fresh he
  have nd : H1 dx = none := I1.hok.fresh hd
  have ed : e ≠ dx := Ne.symm hne
  have ht : hp.get? e = none := by
    cases z : hp.get? e with
    | none => rfl
    | some o => exact absurd (Heap.lt_size z) (Nat.not_lt.mpr he)
  obtain ⟨G, g1, g2⟩ := restrict h' fun b => decide (b ≠ e)
  have gk : ∀ b, b ≠ e → G.get? b = h'.get? b := fun b hb => g1 b (decide_eq_true hb)
  have ge : G.get? e = none := g2 e (by simp)
  have kG : ∀ b o, hp.get? b = some o → G.get? b = some o := fun b o z => by
    have hb : b ≠ e := fun y => by rw [y, ht] at z; cases z
    rw [gk b hb]
    exact k b o z
  have J := I1.laid (a := dx) (o := .xd [(fld, .str v)]) (t' := t') (h' := G) kG hd ⟨_, hn.at fun o y => (gk dx hne).trans y, fun f => ?_⟩
  · refine ⟨e, _, _, _, _, .ref C, some dx, rfl, J, fun b o z => ?_, ge, hx, ⟨rfl, rfl⟩, rfl, rfl, by rw [upd_ne ed]; exact na, rfl, I1.bare, raises_own T.cls.exC T.cls.tyC, q1 dx nd⟩
    by_cases hb : b = e
    · subst hb
      rw [show (G.get? b) = none from ge] at z
      cases z
    · exact (gk b hb).symm.trans z
  · rw [lookup_put]
    by_cases hf : f = fld
    · rw [if_pos hf, if_pos hf]
      exact ⟨tk, rfl⟩
    · rw [if_neg hf, if_neg hf]
      exact True.intro
end
end
end L2.Mir

set_option Elab.async false
set_option linter.all false
set_option maxRecDepth 100000
set_option maxHeartbeats 4000000
namespace L2.Mir
open PySem PySem.Spec PyProof.Rows
noncomputable section

/-! ### exceptions by value: class k of the list, its one field a text -/
def xrOf (cs : List (Addr × Str)) : XR := fun _ x c dd H => ∃ (C : Addr) (fld w : Str) (d : Addr), cs[x.kind]? = some (C, fld) ∧ x.args = [.str w] ∧ c = .ref C ∧ dd = some d ∧ H d = some (.xd [(fld, .str w)])
@[simp] def sRaise (k : Nat) (w : Str) : MS := fun _ s => .exc ⟨k, [.str w]⟩ s
section
variable {X : Cx} {G : Gx} {C : Addr} {qual par fld pre w x : Str} {st : Stmt} {cs : List (Addr × Str)} {k j : Nat} {p p2 pos pos' : Pos}
theorem es_raise (T : ExI X.prog X.K C qual par fld pre st) (hc : X.calm = true) (tk : Takes X fun c d _ H => G.E c d H) (hx : G.xr = xrOf cs) (hk : cs[k]? = some (C, fld)) (hr : Room 1 X.A) (hm : X.mg x = some (.ref C)) (hs : X.mg "super" = none)
    (hz : pre.length + w.length ≤ sizeLine) (hg : Gl X x := by rfl) (hdb : (x == ("__debug__" : Str)) = false := by decide) : ES X G (.Raise (some (.Call (.Name x p) [.Constant (.str w) j p2] [] pos)) none pos') (sRaise k w) :=
  ps_imp (L2.ps_raise hc tk (pmk_exi T hr hg hm hs (pa_cons pe_str pa_nil) hdb)) fun D σ H h => by
    obtain ⟨H0, W0, pins, W, env, s, ok, h⟩ := h
    refine ⟨w, rfl, hz, fun dd n => ?_⟩
    exact h W (upd H dd (.xd [(fld, .str w)])) _ _ (ok.ext.trans (Ext.new n)) (WS.new n ok.ws) (by rw [hx]; exact ⟨C, fld, w, dd, hk, rfl, rfl, rfl, upd_same⟩)

/-! ### calls of defs that may raise -/
variable {n : Nat} {f : Addr} {fd : FuncData} {ps : List Str} {fm : List D → M D} {xr : XR} {e : Expr} {es : List Expr} {ml : VE → M (List D)}
theorem ee_callX (F : FnOk X.prog X.w X.K X.mg X.base (L2.CX X.prog X.w) k f fd ps (spM X.K G.xr n fm)) (tk : Takes X fun c d _ H => G.E c d H) (hr : Room k X.A) (hm : X.mg x = some (.ref f)) (hk : PySem.W.keepIn X.K (.ref f) = true) (hb : Binds X.K fd ps [])
    (hK : X.K = G.K) (ha : EA X G (e :: es) ml) (hl : LenM ml n) (hg : Gl X x := by rfl) (hdb : (x == ("__debug__" : Str)) = false := by decide) (he : starEach (e :: es) X.env = (false, eval e X.env) :: starEach es X.env := by rfl)
    (hpl : (backTo pos (starEach es X.env)).any (·.1) = false := by rfl) : EE X G (.Call (.Name x p) (e :: es) [] pos) (mCB fm ml) :=
  pe_imp (pe_call (E := G.E) F hr hg hm hk hb .nil (passes_call tk fun _ _ _ _ h => h) ha hdb he hpl) fun σ H Q h => by
    obtain ⟨W, env, s, hen, hs, h⟩ := h
    refine tML_bind hen hs h fun W1 H1 vs ds s1 e1 he1 hs1 rs q h1 => ?_
    exact ⟨by rw [List.append_nil, rs.length, hl _ _ _ _ q], W1, ds, s1, by rw [List.append_nil, hK]; exact rs, hs1, by rw [hK]; exact h1⟩
/-- .. that raises nothing here -/
theorem ee_callL (F : FnOk X.prog X.w X.K X.mg X.base (L2.CX X.prog X.w) k f fd ps (spM X.K xr n fm)) (hr : Room k X.A) (hm : X.mg x = some (.ref f)) (hk : PySem.W.keepIn X.K (.ref f) = true) (hb : Binds X.K fd ps [])
    (hK : X.K = G.K) (ha : EA X G (e :: es) ml) (hl : LenM ml n) (hg : Gl X x := by rfl) (hdb : (x == ("__debug__" : Str)) = false := by decide) (he : starEach (e :: es) X.env = (false, eval e X.env) :: starEach es X.env := by rfl)
    (hpl : (backTo pos (starEach es X.env)).any (·.1) = false := by rfl) : EE X G (.Call (.Name x p) (e :: es) [] pos) (mCall fm ml) :=
  pe_imp (pe_call (E := E0) F hr hg hm hk hb .nil passL ha hdb he hpl) fun σ H Q h => by
    obtain ⟨W, env, s, hen, hs, h⟩ := h
    refine tML_bind hen hs h fun W1 H1 vs ds s1 e1 he1 hs1 rs q h1 => ?_
    refine ⟨by rw [List.append_nil, rs.length, hl _ _ _ _ q], W1, ds, s1, by rw [List.append_nil, hK]; exact rs, hs1, ?_⟩
    cases q2 : fm ds s1 with
    | ok d s2 =>
      rw [q2] at h1
      intro W' H' v ex ws rp
      exact h1 W' H' v ex ws (hK ▸ rp)
    | exc _ _ => rw [q2] at h1; exact h1.elim
    | no => rw [q2] at h1; exact h1.elim
end
/-- a def that may raise -/
theorem fn_okX {P : Program} {w : World} {K : PySem.W.Frag} {mg : Str → Option Value} {base : Heap} {xr : XR} {x qual : Str} {st : Stmt} {f : Addr} {fd : FuncData} {N ps : List Str} {m : MS} {lv n : Nat} {fm : List D → M D} (k : Nat) (hk : lv = k + 1) (hn : n = ps.length) (hf : fm = runDef N.length m) (F : Fun K x qual st f fd) (S : FnScope N ps (defScope st))
    (hbody : ∀ (cdv : Value) (A : Around) (outer : List Env) (s : Shared) (H : Hp) (E : XK), Room k (A.deeper (envOfC qual (defScope st) s.heap.objs.size f cdv)) →
      Takes (cxOf (L2.CX P w) P w K mg base N qual (defScope st) f cdv A outer s H E) (fun c d _ H' => E c d H') →
      PassesOwn (model P w) (A.deeper (envOfC qual (defScope st) s.heap.objs.size f cdv)) (envOfC qual (defScope st) s.heap.objs.size f cdv) (cxOf (L2.CX P w) P w K mg base N qual (defScope st) f cdv A outer s H E).xe →
      ESs (cxOf (L2.CX P w) P w K mg base N qual (defScope st) f cdv A outer s H E) ⟨K, xr, E⟩ (defBody st) m) :
    FnOk P w K mg base (L2.CX P w) lv f fd ps (spM K xr n fm) := by
  subst hk hn hf
  refine F.okX S (fun vs H Q E h => h.1) (fun cdv A outer s H vs Q E hr h => ?_)
  obtain ⟨hl, W, ds, ds', rs, ws, h⟩ := h
  exact ⟨_, hbody cdv A outer s H E hr (takes_of rfl rfl rfl rfl) (passes_of rfl), def_read rs ws h⟩
end
end L2.Mir

set_option Elab.async false
set_option linter.all false
set_option maxRecDepth 100000
set_option maxHeartbeats 4000000
namespace L2.Mir
open PySem PySem.Spec PyProof.Rows
noncomputable section

/-! ### what raises, within a try -/
def tR (K : PySem.W.Frag) (xr : XR) (W : WX) (m : VE → M D) : TE := fun σ H _ => ∃ Wd env s x s', EnvR K Wd H σ env ∧ WS Wd s H ∧ m env s = .exc x s' ∧ ∀ W' H' c dd, Ext Wd H W' H' → WS W' s' H' → xr K x c dd H' → W c dd σ H'
@[simp] def mCR (f : List D → M D) (l : VE → M (List D)) : VE → M D := fun env s => (noX (l env s)).bind f
inductive RR where
  | exc (x : Xc) (env : SE) (s : DS) | no
abbrev MR := SE → DS → RR
def tRS (K : PySem.W.Frag) (xr : XR) (W : WX) (m : MR) : TS := fun _ σ H => ∃ H0 W0 pins Wd env s x env' s', StOk K H0 W0 pins Wd H σ env s ∧ m env s = .exc x env' s' ∧ ∀ W' H' c dd σ', StOk K H0 W0 pins W' H' σ' env' s' → xr K x c dd H' → W c dd σ' H'
@[simp] def rHide (m : VE → M D) : MR := fun env s => match m (hideE env) s with
  | .exc x s' => .exc x env s'
  | _ => .no
@[simp] def rIf (mt : VE → M Bool) (m1 m2 : MR) : MR := fun env s => match mt (viewE env) s with
  | .ok b s' => if b = true then m1 env s' else m2 env s'
  | _ => .no
@[simp] def rSeq (m1 : MS) (m2 : MR) : MR := fun env s => match m1 env s with
  | .ok (.nx env') s' => m2 env' s'
  | _ => .no
@[simp] def rNo : MR := fun _ _ => .no
section
variable {X : Cx} {W : WX} {xr : XR} {k n : Nat} {f : Addr} {fd : FuncData} {ps : List Str} {fm : List D → M D} {x : Str} {p pos : Pos} {e : Expr} {es : List Expr} {ml : VE → M (List D)} {m : VE → M D} {st : Stmt} {rest : List Stmt}
theorem re_call (F : FnOk X.prog X.w X.K X.mg X.base (L2.CX X.prog X.w) k f fd ps (spM X.K xr n fm)) (tk : Takes X W) (hr : Room k X.A) (hm : X.mg x = some (.ref f)) (hk : PySem.W.keepIn X.K (.ref f) = true) (hb : Binds X.K fd ps [])
    (ha : EA X ⟨X.K, xr, E0⟩ (e :: es) ml) (hl : LenM ml n) (hg : Gl X x := by rfl) (hdb : (x == ("__debug__" : Str)) = false := by decide) (he : starEach (e :: es) X.env = (false, eval e X.env) :: starEach es X.env := by rfl)
    (hpl : (backTo pos (starEach es X.env)).any (·.1) = false := by rfl) : PE X (.Call (.Name x p) (e :: es) [] pos) (tR X.K xr W (mCR fm ml)) :=
  pe_imp (pe_callSD (E := fun σ => WE W σ) (dvs := []) F hr hg hm hk hb .nil (fun σ => L2.passAt tk σ) ha hdb he hpl) fun σ H Q h => by
    obtain ⟨Wd, env, s, x, s', hen, hs, hq, h⟩ := h
    refine ⟨Wd, env, s, hen, hs, ?_⟩
    unfold mCR at hq
    cases q : ml env s with
    | exc y s1 => rw [q] at hq; cases hq
    | no => rw [q] at hq; cases hq
    | ok ds s1 =>
      rw [q] at hq
      have hq : fm ds s1 = .exc x s' := hq
      intro W1 H1 vs e1 ws1 rs
      refine ⟨by rw [List.append_nil, rs.length, hl _ _ _ _ q], W1, ds, s1, by rw [List.append_nil]; exact rs, ws1, ?_⟩
      rw [hq]
      exact fun W' H' c dd e2 ws2 r => h W' H' c dd (e1.trans e2) ws2 r
theorem rs_expr (he : PE X e (tR X.K xr W m)) (hs : swapsWith e none pos.line X.env = pure false := by rfl) : PS X (.Expr e pos) (tRS X.K xr W (rHide m)) := ps_imp (ps_expr he hs) fun D σ H h => by
  obtain ⟨H0, W0, pins, Wd, env, s, x, env', s', ok, hq, h⟩ := h
  unfold rHide at hq
  split at hq
  · rename_i y s1 q
    cases hq
    exact ⟨Wd, hideE env, s, x, s', ok.hid, ok.ws, q, fun W' H' c dd e ws r => h W' H' c dd σ (ok.after e ws) r⟩
  · cases hq
theorem rs_ret (he : PE X e (tR X.K xr W m)) : PS X (.Return (some e) pos) (tRS X.K xr W (rHide m)) := ps_imp (ps_ret he) fun D σ H h => by
  obtain ⟨H0, W0, pins, Wd, env, s, x, env', s', ok, hq, h⟩ := h
  unfold rHide at hq
  split at hq
  · rename_i y s1 q
    cases hq
    exact ⟨Wd, hideE env, s, x, s', ok.hid, ok.ws, q, fun W' H' c dd e ws r => h W' H' c dd σ (ok.after e ws) r⟩
  · cases hq
theorem rs_set (i : Nat) {x : Str} {pos' : Pos} (hN : X.N.Nodup) (he : PE X e (tR X.K xr W m)) (hi : X.N[i]? = some x := by rfl) (hx : Loc X.env.scope x := by first | exact .inl rfl | exact .inr rfl) (hs : swapsWith e (some (.Name x pos')) pos.line X.env = pure false := by rfl) (hf : X.fn x = true ∨ X.env.scope.names.lookup x = some .local := by first | exact .inl rfl | exact .inr rfl | assumption) :
    PS X (.Assign [.Name x pos'] e pos) (tRS X.K xr W (rHide m)) := ps_imp (ps_set hN hi hx he hs hf) fun D σ H h => by
  obtain ⟨H0, W0, pins, Wd, env, s, x, env', s', ok, hq, h⟩ := h
  unfold rHide at hq
  split at hq
  · rename_i y s1 q
    cases hq
    exact ⟨Wd, hideE env, s, x, s', ok.hid, ok.ws, q, fun W' H' c dd e ws r => h W' H' c dd σ (ok.after e ws) r⟩
  · cases hq
theorem re_if {c a b : Expr} {mt : VE → M Bool} {m1 m2 : VE → M D} (hc : ET X ⟨X.K, xr, E0⟩ c mt) (ha : PE X a (tR X.K xr W m1)) (hb : PE X b (tR X.K xr W m2)) : PE X (.IfExp c a b pos) (tR X.K xr W (fun env s => (noX (mt env s)).bind fun b s => if b = true then m1 env s else m2 env s)) :=
  pe_imp (pe_ifExp hc ha hb) fun σ H Q h => by
    obtain ⟨Wd, env, s, x, s', hen, hs, hq, h⟩ := h
    refine ⟨Wd, env, s, hen, hs, ?_⟩
    have hq : ((noX (mt env s)).bind fun b s => if b = true then m1 env s else m2 env s) = Res.exc x s' := hq
    cases q : mt env s with
    | exc y s1 => rw [q] at hq; cases hq
    | no => rw [q] at hq; cases hq
    | ok b s1 =>
      rw [q] at hq
      simp only [noX_ok, bind_ok] at hq
      intro W1 H1 e1 ws1
      cases b with
      | true => exact iteT ⟨W1, env, s1, x, s', hen.ext e1, ws1, hq, fun W' H' c dd e2 ws2 r => h W' H' c dd (e1.trans e2) ws2 r⟩
      | false => exact iteF ⟨W1, env, s1, x, s', hen.ext e1, ws1, hq, fun W' H' c dd e2 ws2 r => h W' H' c dd (e1.trans e2) ws2 r⟩
theorem rs_if {c : Expr} {a b : List Stmt} {mt : VE → M Bool} {m1 m2 : MR} (hc : ET X ⟨X.K, xr, E0⟩ c mt) (ha : PSs X a (tRS X.K xr W m1)) (hb : PSs X b (tRS X.K xr W m2)) : PS X (.If c a b pos) (tRS X.K xr W (rIf mt m1 m2)) := ps_imp (ps_if hc ha hb) fun D σ H h => by
  obtain ⟨H0, W0, pins, Wd, env, s, x, env', s', ok, hq, h⟩ := h
  unfold rIf at hq
  refine ⟨Wd.see env σ, viewE env, s, ok.seen, ok.seeWS, ?_⟩
  cases q : mt (viewE env) s with
  | exc y s1 => rw [q] at hq; cases hq
  | no => rw [q] at hq; cases hq
  | ok b s1 =>
    rw [q] at hq
    intro W1 H1 e1 ws1
    have e2 := ok.unseeExt e1
    have ok2 := ok.after e2 (unseeWS ws1)
    cases b with
    | true => exact iteT ⟨H0, W0, pins, _, env, s1, x, env', s', ok2, hq, h⟩
    | false => exact iteF ⟨H0, W0, pins, _, env, s1, x, env', s', ok2, hq, h⟩
theorem rss_one {mr : MR} (h : PS X st (tRS X.K xr W mr)) : PSs X (st :: rest) (tRS X.K xr W mr) := pss_imp (pss_cons h pss_never) fun D σ H h => h
theorem rss_no : PSs X rest (tRS X.K xr W rNo) := ⟨fun _ _ _ _ _ _ h => by
  obtain ⟨H0, W0, pins, Wd, env, s, x, env', s', ok, hq, h⟩ := h
  cases hq⟩
theorem rss_seq {m1 : MS} {m2 : MR} (h1 : ES X ⟨X.K, xr, E0⟩ st m1) (h2 : PSs X rest (tRS X.K xr W m2)) : PSs X (st :: rest) (tRS X.K xr W (rSeq m1 m2)) := pss_imp (pss_cons h1 h2) fun D σ H h => by
  obtain ⟨H0, W0, pins, Wd, env, s, x, env', s', ok, hq, h⟩ := h
  refine ⟨H0, W0, pins, Wd, env, s, ok, ?_⟩
  unfold rSeq at hq
  split at hq
  · rename_i env1 s1 q
    rw [q]
    exact fun W1 H1 σ1 ok1 => ⟨H0, W0, pins, W1, env1, s1, x, env', s', ok1, hq, h⟩
  · cases hq

/-! ### try .. except -/
theorem ps_either {t u : TS} (h1 : PS X st t) (h2 : PS X st u) : PS X st (fun D σ H => t D σ H ∨ u D σ H) := ⟨fun pins s σ H D I h => h.elim (h1.run pins s σ H D I) (h2.run pins s σ H D I)⟩
/-- a suite: the exception's text w -/
structure Su (X : Cx) (xr : XR) (i : Nat) (C : Addr) (fld : Str) (suite : List Stmt) (ms : Str → MS) : Prop where
  ex : ∃ ts : Addr → Value → Option Addr → TS, (∀ (a : Addr) (oe : Obj) (cls : Value) (d : Option Addr) (pn : List (Addr × Obj)), Zc cls d oe → (∃ vs, oe.data = .fields vs) → PSs (X.suite a ((a, oe) :: pn)) suite (ts a cls d)) ∧
    ∀ (E : XK) (D : Ends) H0 W0 pins W a dd w σ env s H, StOk X.K H0 W0 pins W H σ env s → σ[i]? = some (some (.ref a)) → H dd = some (.xd [(fld, .str w)]) → AftS ⟨X.K, xr, E⟩ H0 W0 pins (noX (ms w env s)) D → ts a (.ref C) (some dd) D σ H
theorem su_word {i : Nat} {C : Addr} {fld nm : Str} {p1 p2 p3 : Pos} (T : XfC X.K C) (hno : PySem.W.findIn X.K (.ref C) fld = some none) (hi : X.N[i]? = some nm) (hv : Vis X.env.scope nm := by first | exact Or.inl rfl | exact Or.inr (Or.inl rfl) | exact Or.inr (Or.inr rfl)) (hd : (nm == ("__debug__" : Str)) = false := by decide)
    (hcd : (nm == ("__classdict__" : Str)) = false := by decide) (hb : attributeBase (.Name nm p1) fld X.env (eval (.Name nm p1) X.env) = eval (.Name nm p1) X.env := by rfl) :
    Su X xr i C fld [.Return (some (.Attribute (.Name nm p1) fld p2)) p3] (fun w => fun _ s => .ok (.rt (.str w)) s) :=
  ⟨fun a cls d => tRet (tXf a cls d C fld (tVar i)), fun a oe cls d pn hz hf => pss_one (ps_ret (pe_xf T hno hz hf (pv (X := X.suite a ((a, oe) :: pn)) i hi hv hd hcd) hb)), fun E D H0 W0 pins W a dd w σ env s H ok hσ hx h =>
    ⟨.ref a, hσ, rfl, rfl, dd, _, .str w, rfl, hx, by simp [List.lookup], h W H (.str w) ok.ext ok.ws (by simp [Rep])⟩⟩
theorem su_any {i : Nat} {C : Addr} {fld : Str} {suite : List Stmt} {m : MS} (h : ∀ (a : Addr) (oe : Obj) (pn : List (Addr × Obj)), ESs (X.suite a ((a, oe) :: pn)) ⟨X.K, xr, E0⟩ suite m) : Su X xr i C fld suite (fun _ => m) :=
  ⟨fun _ _ _ => tMS ⟨X.K, xr, E0⟩ m, fun a oe cls d pn _ _ => h a oe pn, fun E D H0 W0 pins W a dd w σ env s H ok hσ hx h => by
    refine ⟨H0, W0, pins, W, env, s, ok, ?_⟩
    cases q : m env s with
    | ok fl s' =>
      rw [q] at h
      cases fl <;> exact h
    | exc y s' => rw [q] at h; exact h.elim
    | no => rw [q] at h; exact h.elim⟩
end
/-- a slot forgotten -/
theorem StOk.drop {K : PySem.W.Frag} {H0 : Hp} {W0 : Wd} {pins : List (D × V)} {W : Wd} {H : Hp} {σ : L2.St} {env : SE} {s : DS} (h : StOk K H0 W0 pins W H σ env s) (i : Nat) (o : Option V) : StOk K H0 W0 pins W H (σ.set i o) (env.set i .no) s where
  len := by simp [h.len]
  val := fun j e q => by
    by_cases hj : i = j
    · subst hj
      by_cases hl : i < env.length
      · rw [List.getElem?_set_self hl] at q; cases q
      · rw [List.getElem?_eq_none (by simpa using hl)] at q; cases q
    · rw [List.getElem?_set_ne hj] at q
      rw [List.getElem?_set_ne hj]
      exact h.val j e q
  own := fun j es q => by
    by_cases hj : i = j
    · subst hj
      by_cases hl : i < env.length
      · rw [List.getElem?_set_self hl] at q; cases q
      · rw [List.getElem?_eq_none (by simpa using hl)] at q; cases q
    · rw [List.getElem?_set_ne hj] at q
      rw [List.getElem?_set_ne hj]
      exact h.own j es q
  dist := fun j k ds es p hjk q1 q2 q3 => by
    have n1 : i ≠ j := fun e => by
      subst e
      by_cases hl : i < env.length
      · rw [List.getElem?_set_self hl] at q1; cases q1
      · rw [List.getElem?_eq_none (by simpa using hl)] at q1; cases q1
    have n2 : i ≠ k := fun e => by
      subst e
      by_cases hl : i < env.length
      · rw [List.getElem?_set_self hl] at q2; cases q2
      · rw [List.getElem?_eq_none (by simpa using hl)] at q2; cases q2
    rw [List.getElem?_set_ne n1] at q1 q3
    rw [List.getElem?_set_ne n2] at q2 ⊢
    exact h.dist j k ds es p hjk q1 q2 q3
  ext := h.ext
  ws := h.ws
  pin := h.pin
/-- a suite with a name at slot i: the name goes behind it -/
@[simp] def sGone (i : Nat) (ms : Str → MS) : Str → MS := fun w env s => if i < env.length then (match ms w (env.set i .no) s with
  | .ok (.nx e) s => .ok (.nx (e.set i .no)) s
  | .ok (.bk e) s => .ok (.bk (e.set i .no)) s
  | .ok (.ct e) s => .ok (.ct (e.set i .no)) s
  | r => r) else .no
/-- a try: the body raises nothing, or what mr tells -/
@[simp] def sTry (k : Nat) (mr : MR) (mb : MS) (ms : Str → MS) : MS := fun env s => match mr env s with
  | .exc x env' s' => if x.kind = k then (match x.args with
    | [.str w] => noX (ms w env' s')
    | _ => .no) else .no
  | .no => noX (mb env s)
theorem AftS.noX {G : Gx} {H0 : Hp} {W0 : Wd} {pins : List (D × V)} {r : Res Fl} {D : Ends} {E : XK} (h : AftS G H0 W0 pins (noX r) D) : AftS ⟨G.K, G.xr, E⟩ H0 W0 pins r D := by
  cases r with
  | ok fl s => cases fl <;> exact h
  | exc y s => exact h.elim
  | no => exact h.elim
section
variable {X : Cx} {G : Gx} {cs : List (Addr × Str)} {C : Addr} {fld nm x : Str} {body suite : List Stmt} {b₀ : Stmt} {mb : MS} {mr : MR} {ms : Str → MS} {i k : Nat} {np pos pos' : Pos}
theorem es_try_as (hK : X.K = G.K) (hxr : G.xr = xrOf cs) (hk : cs[k]? = some (C, fld)) (hN : X.N.Nodup) (hC : Names X x (.ref C)) (hm : PySem.W.exmOne X.K (.ref C) (.ref C) = some true)
    (hb : ESs X.nox ⟨X.K, G.xr, E0⟩ body mb) (hr : ∀ (W : WX) (pn : List (Addr × Obj)) (xe : Value → Shared → Prop), Takes (X.tr pn xe) W → PassesOwn (model X.prog X.w) X.A X.env xe → PSs (X.tr pn xe) body (tRS X.K G.xr W mr))
    (hsu : Su X G.xr i C fld (b₀ :: suite) ms) (hi : X.N[i]? = some nm) (hln : X.env.kindOf nm = some .local) (hs : X.stack = X.env :: X.outer := by rfl) (hf : X.env.frame = some X.env.locals := by rfl) :
    ES X G (.Try body [.ExceptHandler (some (.Name x np)) (some nm) (b₀ :: suite) pos'] [] [] pos) (sTry k mr mb (sGone i ms)) := by
  obtain ⟨ts, hsu, hread⟩ := hsu.ex
  refine ps_imp (ps_either (ps_try_thru0 hb) (ps_try_as (i := i) (ts := ts) (tb := fun W => tRS X.K G.xr W mr) (Wout := fun _ _ _ _ => False) hs hf hN hi hln hC takes0 (fun W pn xe tk po => hr W pn xe tk po) (fun a oe cls d pn hz hf => hsu a oe cls d pn hz hf))) fun D σ H h => ?_
  obtain ⟨H0, W0, pins, Wd, env, s, ok, h⟩ := h
  unfold sTry at h
  cases q : mr env s with
  | no =>
    rw [q] at h
    left
    rw [← hK] at ok
    refine ⟨H0, W0, pins, Wd, env, s, ok, ?_⟩
    have z := AftS.noX (E := E0) h
    rw [← hK] at z
    exact z
  | exc y env' s' =>
    rw [q] at h
    right
    rw [← hK] at ok
    simp only [] at h
    split at h
    · rename_i hy
      split at h
      · rename_i w hw
        refine ⟨H0, W0, pins, Wd, env, s, y, env', s', ok, q, fun W' H' c dd σ' ok' hx => ?_⟩
        rw [hxr] at hx
        obtain ⟨C', fld', w', d, e1, e2, rfl, rfl, hd⟩ := hx
        rw [hy, hk] at e1
        cases e1
        rw [hw] at e2
        cases e2
        refine ⟨true, hm, fun _ a na => ?_, fun z => nomatch z⟩
        unfold sGone at h
        split at h
        · rename_i li
          have ok2 : StOk X.K H0 W0 pins W' H' (σ'.set i (some (.ref a))) (env'.set i .no) s' := ok'.drop i _
          refine hread G.E _ H0 W0 pins W' a d w _ _ s' H' ok2 (by rw [List.getElem?_set_self (by rw [ok'.len]; exact li)]) hd ?_
          cases q2 : ms w (env'.set i .no) s' with
          | no => rw [q2] at h; exact h.elim
          | exc _ _ => rw [q2] at h; exact h.elim
          | ok fl s2 =>
            rw [q2] at h
            cases fl with
            | rt d => exact fun W2 H2 v e ws r => h W2 H2 v e ws (by rw [← hK]; exact r)
            | nx e => exact fun W2 H2 σ2 ok3 => h W2 H2 _ (by rw [← hK]; exact ok3.drop i none)
            | bk e => exact fun W2 H2 σ2 ok3 => h W2 H2 _ (by rw [← hK]; exact ok3.drop i none)
            | ct e => exact fun W2 H2 σ2 ok3 => h W2 H2 _ (by rw [← hK]; exact ok3.drop i none)
        · exact h.elim
      · exact h.elim
    · exact h.elim
/-- without a name -/
theorem es_try_only {m : MS} (hK : X.K = G.K) (hxr : G.xr = xrOf cs) (hk : cs[k]? = some (C, fld)) (hC : Names X x (.ref C)) (hm : PySem.W.exmOne X.K (.ref C) (.ref C) = some true)
    (hb : ESs X.nox ⟨X.K, G.xr, E0⟩ body mb) (hr : ∀ (W : WX) (pn : List (Addr × Obj)) (xe : Value → Shared → Prop), Takes (X.tr pn xe) W → PassesOwn (model X.prog X.w) X.A X.env xe → PSs (X.tr pn xe) body (tRS X.K G.xr W mr))
    (hsu : ∀ (a : Addr) (oe : Obj) (pn : List (Addr × Obj)), ESs (X.suite a ((a, oe) :: pn)) ⟨X.K, G.xr, E0⟩ (b₀ :: suite) m) (hs : X.stack = X.env :: X.outer := by rfl) (hf : X.env.frame = some X.env.locals := by rfl) :
    ES X G (.Try body [.ExceptHandler (some (.Name x np)) none (b₀ :: suite) pos'] [] [] pos) (sTry k mr mb (fun _ => m)) := by
  refine ps_imp (ps_either (ps_try_thru0 hb) (ps_try_only (ts := fun _ _ _ => tMS ⟨X.K, G.xr, E0⟩ m) (tb := fun W => tRS X.K G.xr W mr) (Wout := fun _ _ _ _ => False) hs hf hC takes0 (fun W pn xe tk po => hr W pn xe tk po) (fun a oe cls d pn hz hf => hsu a oe pn))) fun D σ H h => ?_
  obtain ⟨H0, W0, pins, Wd, env, s, ok, h⟩ := h
  unfold sTry at h
  cases q : mr env s with
  | no =>
    rw [q] at h
    left
    rw [← hK] at ok
    refine ⟨H0, W0, pins, Wd, env, s, ok, ?_⟩
    have z := AftS.noX (E := E0) h
    rw [← hK] at z
    exact z
  | exc y env' s' =>
    rw [q] at h
    right
    rw [← hK] at ok
    simp only [] at h
    split at h
    · rename_i hy
      split at h
      · rename_i w hw
        refine ⟨H0, W0, pins, Wd, env, s, y, env', s', ok, q, fun W' H' c dd σ' ok' hx => ?_⟩
        rw [hxr] at hx
        obtain ⟨C', fld', w', d, e1, e2, rfl, rfl, hd⟩ := hx
        rw [hy, hk] at e1
        cases e1
        refine ⟨true, hm, fun _ a na => ⟨H0, W0, pins, W', env', s', ok', ?_⟩, fun z => nomatch z⟩
        have z := AftS.noX (E := E0) h
        rw [← hK] at z
        exact z
      · exact h.elim
    · exact h.elim
end
end
end L2.Mir

set_option Elab.async false
set_option linter.all false
set_option maxRecDepth 100000
set_option maxHeartbeats 4000000
namespace L2.Mir
open PySem PySem.Spec PyProof.Rows
noncomputable section

theorem FnOkToX {P : Program} {w : World} {K : PySem.W.Frag} {mg : Str → Option Value} {base : Heap} {CX' : CXT} {k : Nat} {f : Addr} {fd : FuncData} {ps : List Str} {sp : Sp} (F : FnOk P w K mg base CX0 k f fd ps sp) : FnOk P w K mg base CX' k f fd ps sp :=
  ⟨F.len, fun A outer s H args us vs Q E hr he hb hv h => codeAny_mono (F.run A outer s H args us vs Q E hr he hb hv h) fun r s' hq => by
    cases r with
    | error e => exact False.elim hq
    | ok fl => cases fl <;> exact hq⟩

/-! ### in, not in -/
@[simp] def flat0 : D → Bool
  | .non => true
  | .bl _ => true
  | .int _ => true
  | .str _ => true
  | _ => false
def inD (x : D) (ds : List D) : Bool := ds.any fun z => deq z x
@[simp] def opIn (neg : Bool) (x y : D) : M D := fun s => match y with
  | .lst ds => if okD 60 x && okDs 59 ds then .ok (.bl (if neg then !inD x ds else inD x ds)) s else .no
  | .tup ds => if (okD 60 x && okDs 59 ds) || (flat0 x && ds.all flat0) then .ok (.bl (if neg then !inD x ds else inD x ds)) s else .no
  | _ => .no
theorem flat0_rep {K : PySem.W.Frag} {W : Wd} {H : Hp} {d : D} {v : V} (h : flat0 d = true) (r : Rep K W H d v) : flatV v = true := by
  cases d <;> simp at h <;> simp only [Rep] at r <;> subst r <;> rfl
theorem flat0_eq {K : PySem.W.Frag} {W : Wd} {H : Hp} {d e : D} {v u : V} (h : flat0 d = true) (g : flat0 e = true) (r : Rep K W H d v) (q : Rep K W H e u) : eqV v u = deq d e := by
  cases d <;> simp at h <;> simp only [Rep] at r <;> subst r <;> cases e <;> simp at g <;> simp only [Rep] at q <;> subst q <;> simp [eqV, deq, toPy, PyData.eqv]
theorem flat0_all {K : PySem.W.Frag} {W : Wd} {H : Hp} : ∀ {ds : List D} {vs : List V}, ds.all flat0 = true → Reps K W H ds vs → vs.all flatV = true
  | [], vs, _, r => by simp only [Reps] at r; subst r; rfl
  | d :: ds, vs, h, r => by
    simp only [Reps] at r
    obtain ⟨v, w, rfl, h1, h2⟩ := r
    simp only [List.all_cons, Bool.and_eq_true] at h ⊢
    exact ⟨flat0_rep h.1 h1, flat0_all h.2 h2⟩
theorem flat0_in {K : PySem.W.Frag} {W : Wd} {H : Hp} {x : D} {u : V} (hx : flat0 x = true) (q : Rep K W H x u) : ∀ {ds : List D} {vs : List V}, ds.all flat0 = true → Reps K W H ds vs → inV u vs = inD x ds
  | [], vs, _, r => by simp only [Reps] at r; subst r; rfl
  | d :: ds, vs, h, r => by
    simp only [Reps] at r
    obtain ⟨v, w, rfl, h1, h2⟩ := r
    simp only [List.all_cons, Bool.and_eq_true] at h
    have ih := flat0_in hx q h.2 h2
    unfold inV inD at *
    simp only [List.any_cons]
    rw [ih, flat0_eq h.1 hx h1 q]
theorem any_toPys (x : D) : ∀ ds : List D, (toPys ds).any (fun z => PyData.eqv z (toPy x)) = inD x ds
  | [] => rfl
  | d :: ds => by
    have ih := any_toPys x ds
    unfold inD at *
    simp only [toPys, List.any_cons, ih]
    rfl
theorem Room.u65 {k : Nat} {A : Around} (r : Room k A) : A.units + 65 < cLine := by have := r.un; omega
section
variable {X : Cx} {G : Gx}
/-- x in a tuple whose items are data of any depth -/
def rInTD (K : PySem.W.Frag) (neg : Bool) : R2 := fun x y H Q => ∃ d ds, Dp K H x d ∧ Dp K H y (.tuple ds) ∧ SeqAt.shaped d = true ∧ SeqAt.shaped (.tuple ds) = true ∧ Q (.bl (if neg then !(ds.any fun z => PyData.eqv z d) else ds.any fun z => PyData.eqv z d)) H
theorem op_inTD (hu : X.A.units + 65 < cLine) : OpR X (compareOp .In) (rInTD X.K false) := by
  intro pins s σ H x y v u Q I rx ry h
  obtain ⟨d, ds, hd, he, sd, se, q⟩ := h
  obtain ⟨as, r1⟩ := Dp.reads I d x v hd rx
  obtain ⟨bs, r2⟩ := Dp.reads I (.tuple ds) y u he ry
  exact SeqAt.in_tuple_reads r2 r1 (SeqAt.canLay_of_shaped se) (SeqAt.canLay_of_shaped sd) (room_in_shaped sd hu) ⟨.bl _, H, I, rfl, q⟩
theorem op_notInTD (hu : X.A.units + 65 < cLine) : OpR X (compareOp .NotIn) (rInTD X.K true) := by
  intro pins s σ H x y v u Q I rx ry h
  obtain ⟨d, ds, hd, he, sd, se, q⟩ := h
  obtain ⟨as, r1⟩ := Dp.reads I d x v hd rx
  obtain ⟨bs, r2⟩ := Dp.reads I (.tuple ds) y u he ry
  exact SeqAt.notIn_tuple_reads r2 r1 (SeqAt.canLay_of_shaped se) (SeqAt.canLay_of_shaped sd) (room_in_shaped sd hu) ⟨.bl _, H, I, rfl, q⟩
abbrev rInAll (K : PySem.W.Frag) : R2 := fun x y H Q => rInD K x y H Q ∨ (rIn K false x y H Q ∨ rInTD K false x y H Q)
abbrev rNotInAll (K : PySem.W.Frag) : R2 := fun x y H Q => rNotInD K x y H Q ∨ (rIn K true x y H Q ∨ rInTD K true x y H Q)
theorem or_in (hu : X.A.units + 65 < cLine) : OpR X (compareOp .In) (rInAll X.K) := (op_inD hu).or (op_in_seq.or (op_inTD hu))
theorem or_notin (hu : X.A.units + 65 < cLine) : OpR X (compareOp .NotIn) (rNotInAll X.K) := (op_notInD hu).or (op_notIn_seq.or (op_notInTD hu))
theorem rb_in : RB G (rInAll G.K) (opIn false) := by
  intro W H s x y v u Q hs rx ry h
  unfold opIn at h
  split at h
  · rename_i ds
    split at h
    · rename_i hz
      rw [Bool.and_eq_true] at hz
      obtain ⟨a1, a2, a3⟩ := Rep.dp 60 x v hz.1 rx
      obtain ⟨b1, b2, b3⟩ := Rep.dp 60 (.lst ds) u (by simpa [okD] using hz.2) ry
      refine .inl ⟨_, _, a1, b1, shaped_of a2 a3, shaped_of b2 b3, ?_⟩
      rw [any_toPys]
      exact h.now hs (by simp)
    · exact h.elim
  · rename_i ds
    split at h
    · rename_i hz
      rw [Bool.or_eq_true, Bool.and_eq_true, Bool.and_eq_true] at hz
      rcases hz with hz | hz
      · obtain ⟨a1, a2, a3⟩ := Rep.dp 60 x v hz.1 rx
        obtain ⟨b1, b2, b3⟩ := Rep.dp 60 (.tup ds) u (by simpa [okD] using hz.2) ry
        refine .inr (.inr ⟨_, _, a1, b1, shaped_of a2 a3, shaped_of b2 b3, ?_⟩)
        rw [any_toPys]
        exact h.now hs (by simp)
      · obtain ⟨a, vs, rfl, h1, r1⟩ := rep_tup ry
        refine .inr (.inl ⟨a, vs, rfl, .inr h1, flat0_rep hz.1 rx, flat0_all hz.2 r1, ?_⟩)
        rw [flat0_in hz.1 rx hz.2 r1]
        exact h.now hs (by simp)
    · exact h.elim
  · exact h.elim
theorem rb_notin : RB G (rNotInAll G.K) (opIn true) := by
  intro W H s x y v u Q hs rx ry h
  unfold opIn at h
  split at h
  · rename_i ds
    split at h
    · rename_i hz
      rw [Bool.and_eq_true] at hz
      obtain ⟨a1, a2, a3⟩ := Rep.dp 60 x v hz.1 rx
      obtain ⟨b1, b2, b3⟩ := Rep.dp 60 (.lst ds) u (by simpa [okD] using hz.2) ry
      refine .inl ⟨_, _, a1, b1, shaped_of a2 a3, shaped_of b2 b3, ?_⟩
      rw [any_toPys]
      exact h.now hs (by simp)
    · exact h.elim
  · rename_i ds
    split at h
    · rename_i hz
      rw [Bool.or_eq_true, Bool.and_eq_true, Bool.and_eq_true] at hz
      rcases hz with hz | hz
      · obtain ⟨a1, a2, a3⟩ := Rep.dp 60 x v hz.1 rx
        obtain ⟨b1, b2, b3⟩ := Rep.dp 60 (.tup ds) u (by simpa [okD] using hz.2) ry
        refine .inr (.inr ⟨_, _, a1, b1, shaped_of a2 a3, shaped_of b2 b3, ?_⟩)
        rw [any_toPys]
        exact h.now hs (by simp)
      · obtain ⟨a, vs, rfl, h1, r1⟩ := rep_tup ry
        refine .inr (.inl ⟨a, vs, rfl, .inr h1, flat0_rep hz.1 rx, flat0_all hz.2 r1, ?_⟩)
        rw [flat0_in hz.1 rx hz.2 r1]
        exact h.now hs (by simp)
    · exact h.elim
  · exact h.elim
end

/-! ### functions as values -/
section
variable {X : Cx} {G : Gx} {W : WX} {xr : XR} {x : Str} {f : Addr} {p pos : Pos} {e : Expr} {es : List Expr} {ml : VE → M (List D)} {n i : Nat}
theorem ee_fn (hK : X.K = G.K) (hm : X.mg x = some (.ref f)) (hn : PySem.W.nsIn X.K mainGlobals x = some (some (.ref f))) (hg : Gl X x := by rfl) (hd : (x == ("__debug__" : Str)) = false := by decide) : EE X G (.Name x pos) (mC (.fn x)) :=
  pe_imp (pe_glob (v := .ref f) hg hm rfl hd) fun σ H Q h => by
    obtain ⟨W, env, s, hen, hs, h⟩ := h
    exact h W H (.ref f) (Ext.refl W H) hs (by simp only [Rep]; exact ⟨f, rfl, hK ▸ hn⟩)
/-- a def that a name may tell of -/
def Cal (X : Cx) (xr : XR) (n : Nat) (x : Str) (fm : List D → M D) : Prop := ∃ (k : Nat) (f : Addr) (fd : FuncData) (ps : List Str), FnOk X.prog X.w X.K X.mg X.base (L2.CX X.prog X.w) k f fd ps (spM X.K xr n fm) ∧ Room k X.A ∧ PySem.W.nsIn X.K mainGlobals x = some (some (.ref f)) ∧ PySem.W.keepIn X.K (.ref f) = true ∧ Binds X.K fd ps []
abbrev Tab := List (Str × (List D → M D))
def Tab.get (t : Tab) (x : Str) : Option (List D → M D) := match t with
  | [] => none
  | (y, f) :: r => if x = y then some f else Tab.get r x
@[simp] theorem Tab.get_nil (x : Str) : Tab.get [] x = none := rfl
@[simp] theorem Tab.get_cons (y : Str) (f : List D → M D) (r : Tab) (x : Str) : Tab.get ((y, f) :: r) x = if x = y then some f else Tab.get r x := rfl
theorem Tab.get_mem : ∀ {t : Tab} {x : Str} {f : List D → M D}, t.get x = some f → (x, f) ∈ t
  | [], x, f, h => by cases h
  | (y, g) :: r, x, f, h => by
    rw [Tab.get_cons] at h
    split at h
    · rename_i e
      cases h
      subst e
      exact List.mem_cons_self
    · exact List.mem_cons_of_mem _ (Tab.get_mem h)
@[simp] def mCallV (i : Nat) (t : Tab) (l : VE → M (List D)) : VE → M D := fun env s => match env[i]? with
  | some (some (.fn x)) => (match t.get x with
    | some f => (noX (l env s)).bind f
    | none => .no)
  | _ => .no
def tCV (K : PySem.W.Frag) (P : Program) (w : World) (mg : Str → Option Value) (base : Heap) (A : Around) (i : Nat) (ta : TA) (E : St → XK) : TE := fun σ H Q => ∃ f k fd ps sp, σ[i]? = some (some (.ref f)) ∧ FnOk P w K mg base (L2.CX P w) k f fd ps sp ∧ Room k A ∧ PySem.W.keepIn K (.ref f) = true ∧ Binds K fd ps [] ∧ ta σ H fun vs H1 => sp vs H1 Q (E σ)
theorem pe_callV {E : St → XK} {ta : TA} {y : Str} (hx : ∀ σ, PassesAt (L2.CX X.prog X.w) X σ (E σ)) (ha : PA X (e :: es) ta) (hN : X.N[i]? = some y) (hv : Vis X.env.scope y) (hd : (y == ("__debug__" : Str)) = false := by decide)
    (hcd : (y == ("__classdict__" : Str)) = false := by decide) (he : starEach (e :: es) X.env = (false, eval e X.env) :: starEach es X.env := by rfl) (hpl : (backTo pos (starEach es X.env)).any (·.1) = false := by rfl) :
    PE X (.Call (.Name y p) (e :: es) [] pos) (tCV X.K X.prog X.w X.mg X.base X.A i ta E) := by
  refine ⟨fun pins s σ H Q I h => ?_⟩
  obtain ⟨f, k, fd, ps, sp, hσ, F, hr, hk, hb, h⟩ := h
  refine wpAny_Call_Name_kw ?_
  refine thn ((pv (X := X) i hN hv hd hcd).run pins s σ H (fun v H' => v = .ref f ∧ H' = H) I ⟨.ref f, hσ, rfl, rfl⟩) fun u s1 ⟨v, H1, I1, r1, ev, eH⟩ => ?_
  subst ev eH
  obtain rfl : u = Value.ref f := r1
  refine PySem.W.callWith_K (h₀ := X.base) I1.ok.mod.kin hk (thn (ha.run pos pins s1 σ _ _ I1 h) fun us s2 ⟨vs, H2, I2, r, q⟩ => ⟨I2.kIn, ?_⟩) he hpl
  exact run_fnSD (E := E) (dvs := []) F hr hb .nil (hx σ) I2 r (by rw [List.append_nil]; exact q)
theorem Cal.ref {a : Addr} {fm : List D → M D} (c : Cal X xr n x fm) (h : PySem.W.nsIn X.K mainGlobals x = some (some (.ref a))) : ∃ (k : Nat) (fd : FuncData) (ps : List Str), FnOk X.prog X.w X.K X.mg X.base (L2.CX X.prog X.w) k a fd ps (spM X.K xr n fm) ∧ Room k X.A ∧ PySem.W.keepIn X.K (.ref a) = true ∧ Binds X.K fd ps [] := by
  obtain ⟨k, f, fd, ps, F, hr, hn, hk, hb⟩ := c
  rw [hn] at h
  cases h
  exact ⟨k, fd, ps, F, hr, hk, hb⟩
/-- .. what it raises goes on -/
@[simp] def mCallVX (i : Nat) (t : Tab) (l : VE → M (List D)) : VE → M D := fun env s => match env[i]? with
  | some (some (.fn x)) => (match t.get x with
    | some f => (l env s).bind f
    | none => .no)
  | _ => .no
/-- .. it raises nothing -/
@[simp] def mCallVL (i : Nat) (t : Tab) (l : VE → M (List D)) : VE → M D := fun env s => match env[i]? with
  | some (some (.fn x)) => (match t.get x with
    | some f => (l env s).bind fun ds s => noX (f ds s)
    | none => .no)
  | _ => .no
theorem ee_callVX {t : Tab} {y : Str} (tk : Takes X fun c d _ H => G.E c d H) (hK : X.K = G.K) (hc : ∀ p ∈ t, Cal X G.xr n p.1 p.2) (ha : EA X G (e :: es) ml) (hl : LenM ml n) (hN : X.N[i]? = some y := by rfl) (hv : Vis X.env.scope y := by first | exact Or.inl rfl | exact Or.inr (Or.inl rfl) | exact Or.inr (Or.inr rfl)) (hd : (y == ("__debug__" : Str)) = false := by decide)
    (hcd : (y == ("__classdict__" : Str)) = false := by decide) (he : starEach (e :: es) X.env = (false, eval e X.env) :: starEach es X.env := by rfl) (hpl : (backTo pos (starEach es X.env)).any (·.1) = false := by rfl) : EE X G (.Call (.Name y p) (e :: es) [] pos) (mCallVX i t ml) :=
  pe_imp (pe_callV (E := fun _ => G.E) (fun σ pins H s e s' I c => passes_call tk (fun _ _ _ _ h => h) pins σ H s e s' I c) ha hN hv hd hcd he hpl) fun σ H Q h => by
    obtain ⟨W, env, s, hen, hs, h⟩ := h
    unfold mCallVX at h
    split at h
    · rename_i x hx
      split at h
      · rename_i fm hf
        obtain ⟨v, hσ, rv⟩ := hen.2 i _ hx
        simp only [Rep] at rv
        obtain ⟨a, rfl, hn⟩ := rv
        obtain ⟨k, fd, ps, F, hr, hk, hb⟩ := (hc _ (Tab.get_mem hf)).ref (hK ▸ hn)
        refine ⟨a, k, fd, ps, _, hσ, F, hr, hk, hb, ?_⟩
        refine tML_bind hen hs h fun W1 H1 vs ds s1 e1 he1 hs1 rs q h1 => ?_
        exact ⟨by rw [rs.length, hl _ _ _ _ q], W1, ds, s1, by rw [hK]; exact rs, hs1, by rw [hK]; exact h1⟩
      · exact h.elim
    · exact h.elim
theorem ee_callVL {t : Tab} {y : Str} (hK : X.K = G.K) (hc : ∀ p ∈ t, Cal X xr n p.1 p.2) (ha : EA X G (e :: es) ml) (hl : LenM ml n) (hN : X.N[i]? = some y := by rfl) (hv : Vis X.env.scope y := by first | exact Or.inl rfl | exact Or.inr (Or.inl rfl) | exact Or.inr (Or.inr rfl)) (hd : (y == ("__debug__" : Str)) = false := by decide)
    (hcd : (y == ("__classdict__" : Str)) = false := by decide) (he : starEach (e :: es) X.env = (false, eval e X.env) :: starEach es X.env := by rfl) (hpl : (backTo pos (starEach es X.env)).any (·.1) = false := by rfl) : EE X G (.Call (.Name y p) (e :: es) [] pos) (mCallVL i t ml) :=
  pe_imp (pe_callV (E := fun _ => E0) (fun σ pins H s e s' I c => passL pins σ H s e s' I c) ha hN hv hd hcd he hpl) fun σ H Q h => by
    obtain ⟨W, env, s, hen, hs, h⟩ := h
    unfold mCallVL at h
    split at h
    · rename_i x hx
      split at h
      · rename_i fm hf
        obtain ⟨v, hσ, rv⟩ := hen.2 i _ hx
        simp only [Rep] at rv
        obtain ⟨a, rfl, hn⟩ := rv
        obtain ⟨k, fd, ps, F, hr, hk, hb⟩ := (hc _ (Tab.get_mem hf)).ref (hK ▸ hn)
        refine ⟨a, k, fd, ps, _, hσ, F, hr, hk, hb, ?_⟩
        refine tML_bind hen hs h fun W1 H1 vs ds s1 e1 he1 hs1 rs q h1 => ?_
        refine ⟨by rw [rs.length, hl _ _ _ _ q], W1, ds, s1, by rw [hK]; exact rs, hs1, ?_⟩
        show Aft _ W1 H1 (fm ds s1) Q
        cases q2 : fm ds s1 with
        | ok d s2 =>
          rw [q2] at h1
          intro W' H' v ex ws rp
          exact h1 W' H' v ex ws (hK ▸ rp)
        | exc _ _ => rw [q2] at h1; exact h1.elim
        | no => rw [q2] at h1; exact h1.elim
      · exact h.elim
    · exact h.elim
theorem re_callV {t : Tab} {y : Str} (tk : Takes X W) (hc : ∀ p ∈ t, Cal X xr n p.1 p.2) (ha : EA X ⟨X.K, xr, E0⟩ (e :: es) ml) (hl : LenM ml n) (hN : X.N[i]? = some y := by rfl) (hv : Vis X.env.scope y := by first | exact Or.inl rfl | exact Or.inr (Or.inl rfl) | exact Or.inr (Or.inr rfl)) (hd : (y == ("__debug__" : Str)) = false := by decide)
    (hcd : (y == ("__classdict__" : Str)) = false := by decide) (he : starEach (e :: es) X.env = (false, eval e X.env) :: starEach es X.env := by rfl) (hpl : (backTo pos (starEach es X.env)).any (·.1) = false := by rfl) : PE X (.Call (.Name y p) (e :: es) [] pos) (tR X.K xr W (mCallV i t ml)) :=
  pe_imp (pe_callV (E := fun σ => WE W σ) (fun σ => L2.passAt tk σ) ha hN hv hd hcd he hpl) fun σ H Q h => by
    obtain ⟨Wd, env, s, x, s', hen, hs, hq, h⟩ := h
    unfold mCallV at hq
    split at hq
    · rename_i x hx
      split at hq
      · rename_i fm hf
        obtain ⟨v, hσ, rv⟩ := hen.2 i _ hx
        simp only [Rep] at rv
        obtain ⟨a, rfl, hn⟩ := rv
        obtain ⟨k, fd, ps, F, hr, hk, hb⟩ := (hc _ (Tab.get_mem hf)).ref hn
        refine ⟨a, k, fd, ps, _, hσ, F, hr, hk, hb, Wd, env, s, hen, hs, ?_⟩
        cases q : ml env s with
        | exc y s1 => rw [q] at hq; cases hq
        | no => rw [q] at hq; cases hq
        | ok ds s1 =>
          rw [q] at hq
          have hq : fm ds s1 = .exc _ s' := hq
          intro W1 H1 vs e1 ws1 rs
          refine ⟨by rw [rs.length, hl _ _ _ _ q], W1, ds, s1, rs, ws1, ?_⟩
          show Aft _ W1 H1 (fm ds s1) Q
          rw [hq]
          exact fun W' H' c dd e2 ws2 r => h W' H' c dd (e1.trans e2) ws2 r
      · cases hq
    · cases hq
theorem cal_nil : ∀ p ∈ ([] : Tab), Cal X xr n p.1 p.2 := fun p h => by cases h
theorem cal_cons {y : Str} {fm : List D → M D} {t : Tab} (c : Cal X xr n y fm) (h : ∀ p ∈ t, Cal X xr n p.1 p.2) : ∀ p ∈ (y, fm) :: t, Cal X xr n p.1 p.2 := fun p hp => by
  rcases List.mem_cons.mp hp with rfl | hp
  · exact c
  · exact h p hp
end
section
variable {X : Cx} {G : Gx} {k n : Nat} {f : Addr} {fd : FuncData} {ps : List Str} {fm : List D → M D} {x : Str} {p pos : Pos} {xr : XR}
theorem ee_callX0 (F : FnOk X.prog X.w X.K X.mg X.base (L2.CX X.prog X.w) k f fd ps (spM X.K G.xr 0 fm)) (tk : Takes X fun c d _ H => G.E c d H) (hr : Room k X.A) (hm : X.mg x = some (.ref f)) (hk : PySem.W.keepIn X.K (.ref f) = true) (hb : Binds X.K fd ps [])
    (hK : X.K = G.K) (hg : Gl X x := by rfl) (hdb : (x == ("__debug__" : Str)) = false := by decide) : EE X G (.Call (.Name x p) [] [] pos) (mCB fm mNil) :=
  pe_imp (pe_call0 (E := G.E) F hr hg hm hk hb .nil (passes_call tk fun _ _ _ _ h => h) hdb) fun σ H Q h => by
    obtain ⟨W, env, s, hen, hs, h⟩ := h
    exact ⟨rfl, W, [], s, by simp [Reps], hs, by rw [hK]; exact h⟩
theorem ee_callL0 (F : FnOk X.prog X.w X.K X.mg X.base (L2.CX X.prog X.w) k f fd ps (spM X.K xr 0 fm)) (hr : Room k X.A) (hm : X.mg x = some (.ref f)) (hk : PySem.W.keepIn X.K (.ref f) = true) (hb : Binds X.K fd ps [])
    (hK : X.K = G.K) (hg : Gl X x := by rfl) (hdb : (x == ("__debug__" : Str)) = false := by decide) : EE X G (.Call (.Name x p) [] [] pos) (mCall fm mNil) :=
  pe_imp (pe_call0 (E := E0) F hr hg hm hk hb .nil passL hdb) fun σ H Q h => by
    obtain ⟨W, env, s, hen, hs, h⟩ := h
    refine ⟨rfl, W, [], s, by simp [Reps], hs, ?_⟩
    simp only [mCall, mNil, bind_ok] at h
    cases q2 : fm [] s with
    | ok d s2 =>
      rw [q2] at h
      intro W' H' v ex ws rp
      exact h W' H' v ex ws (hK ▸ rp)
    | exc _ _ => rw [q2] at h; exact h.elim
    | no => rw [q2] at h; exact h.elim
end
theorem exm_own {K : PySem.W.Frag} {S : Addr} (h1 : PySem.W.subIn K (.ref S) (.type "BaseException") = some true) (h2 : PySem.W.isClsIn K S = true) (h3 : PySem.W.typeIn K (.ref S) = some (.type "type")) (h4 : PySem.W.subIn K (.ref S) (.ref S) = some true) : PySem.W.exmOne K (.ref S) (.ref S) = some true := by
  unfold PySem.W.exmOne
  rw [if_pos (by rw [h1]; rfl)]
  have h5 : (PySem.W.clsIn K S).isSome = true := h2
  show (if ((PySem.W.clsIn K S).isSome && PySem.W.typeIn K (.ref S) == some (.type "type")) = true then PySem.W.subIn K (.ref S) (.ref S) else none) = some true
  rw [if_pos (by rw [h5, h3]; rfl), h4]
end
end L2.Mir

set_option Elab.async false
set_option linter.all false
set_option maxRecDepth 100000
namespace L2.Mir
open PySem PySem.Spec PyProof.Rows
open PySem.AutoSeq1 in
theorem list_extend_tupW (l : Addr) (items : Array Value) (n : Nat) (b : Addr) (items2 : Array Value) (n2 : Nat) (dd : Option Addr) (sl : Array (Option Value)) (hs0 : ¬(!items.isEmpty && Builtin.List.listTooLong (items.size + items2.size)) = true) (hs1 : items.size ≤ sizeLine) (hs2 : items.size + items2.size ≤ sizeLine + 1 := by seq_fits) :
    Meets (Builtin.«list.extend» ⟨[.ref l, .ref b], []⟩) (fun _ R s => s.heap.get? l = some { cls := .type "list", dict := none, data := .seq items n, slots := #[] } ∧ s.heap.get? b = some { cls := .type "tuple", dict := dd, data := .seq items2 n2, slots := sl } ∧ R (.ok (.ret Value.none)) { s with heap := s.heap.update l (Obj.mapSeq fun x => x ++ items2), toks := s.toks }) :=
  .of_wp fun prog w A R s h => by
    obtain ⟨hp, g, d, tk, os⟩ := s; obtain ⟨hl, hb, h⟩ := h; have f1 := idx_int; have f2 := PySem.AutoSeq1.sub_tuple_tuple; have f3 := PySem.AutoSeq1.sub_list_list; have f4 := PySem.AutoSeq1.sub_tuple_list; have f5 := PySem.AutoSeq1.sub_list_tuple;
    have hz' : (items ++ items2).size ≤ sizeLine + 1 := by rw [Array.size_append]; exact hs2
    wp_walk using (wpAny_updateSeq hl rfl (hz := hs1) (_hz' := hz')), wpAny_loadPart' hl, wpAny_loadPart' hb; exact ⟨_, rfl, h⟩
def rExtendT (K : PySem.W.Frag) : V → List V → Hp → VK → Prop := fun x vs H Q => ∃ l b xs zs, x = .ref l ∧ vs = [.ref b] ∧ H l = some (.lst xs) ∧ SqT K H b zs ∧ xs.length + zs.length ≤ sizeLine ∧ Q .non (upd H l (.lst (xs ++ zs)))
theorem mt_extendT {X : Cx} : MtM X "list.extend" (rExtendT X.K) := by
  intro pins s σ H x vs v us Q I rx rv h
  obtain ⟨l, b, xs, zs, rfl, rfl, hH, hB, hz, q⟩ := h
  cases rx
  obtain ⟨u, rfl, ru⟩ := rv.one
  cases ru
  obtain ⟨z, its, n, r, hl, e⟩ := I.lstM hH
  obtain ⟨its2, r2, p2, hl2⟩ := I.tuple hB
  obtain ⟨⟨cls, dd, data, sl⟩, ho, hc, n2, hd⟩ := id p2
  simp only at hc hd
  subst hc hd
  have e1 := r.length
  have e2 := r2.length
  have hsz : its.toArray.size + its2.toArray.size ≤ sizeLine := by rw [List.size_toArray, List.size_toArray]; omega
  have hlong : ¬ (!its.toArray.isEmpty && Builtin.List.listTooLong (its.toArray.size + its2.toArray.size)) = true := by
    rw [notLongL hsz, Bool.and_false]
    exact Bool.false_ne_true
  refine call_meets PySem.F.slot_list_extend ⟨_, e, rfl⟩ PySem.F.entry_list_extend (PySem.F.args_list_extend_2 _ _)
    (list_extend_tupW l its.toArray n b its2.toArray n2 dd sl hlong (by rw [List.size_toArray]; omega) (by omega)) ⟨e, ho, ?_⟩
  refine ⟨.non, _, I.lset (its' := its ++ its2) hH e (by simp) (r.append r2) ?_, rfl, q⟩
  rw [List.length_append]
  omega
theorem mt_extendAll {X : Cx} : MtM X "list.extend" (fun x vs H Q => rExtend x vs H Q ∨ rExtendT X.K x vs H Q) := by
  intro pins s σ H x vs v us Q I rx rv h
  rcases h with h | h
  · exact mt_extend pins s σ H x vs v us Q I rx rv h
  · exact mt_extendT pins s σ H x vs v us Q I rx rv h
noncomputable section

section
variable {X : Cx} {G : Gx} {e c : Expr} {me : VE → M D} {pos : Pos}
/-! ### name op= e -/
@[simp] def sAug (v : Bool) (i : Nat) (f : Int → Int → Int) (me : VE → M D) : MS := fun env s => match env[i]? with
  | some (.val (.int x)) => (exq v me env s).bind fun d s => (match d with
    | .int y => .ok (.nx (env.set i (.val (.int (f x y))))) s
    | _ => .no)
  | _ => .no
theorem es_aug (v : Bool) (i : Nat) {x : Str} {pos' : Pos} {op : Operator} {f : Int → Int → Int} (hN : X.N.Nodup) (ho : PIp X op (ipI f)) (he : EE X G e me) (hi : X.N[i]? = some x := by rfl) (hx : Loc X.env.scope x := by first | exact .inl rfl | exact .inr rfl)
    (hf : X.fn x = true ∨ X.env.scope.names.lookup x = some .local := by first | exact .inl rfl | exact .inr rfl | assumption) :
    ES X G (.AugAssign (.Name x pos') op e pos) (sAug v i f me) := ps_imp (ps_aug hN hi hx he ho hf) fun D σ H h => by
  obtain ⟨H0, W0, pins, W, env, s, ok, h⟩ := h
  unfold sAug at h
  split at h
  · rename_i k q
    obtain ⟨v0, h1, h2⟩ := ok.val i _ q
    rw [rep_int h2] at h1
    refine ⟨_, h1, ex_read ok h fun W' H' u d s' _ ok' r _ h' => ?_⟩
    split at h'
    · exact ⟨_, _, rfl, rep_int r, h' W' H' _ (ok'.set (rep_int_iff.mpr rfl))⟩
    · exact h'.elim
  · exact h.elim

/-! ### x.extend(e) -/
@[simp] def seqOf (d : D) : M (List D) := fun s => match d with
  | .lst es => .ok es s
  | .tup es => .ok es s
  | _ => .no
@[simp] def sExt (v : Bool) (i : Nat) (me : VE → M D) : MS := fun env s => match ownOf env i with
  | none => .no
  | some ds => if v = true then (me (viewE env) s).bind fun d s => (seqOf d s).bind fun es s => if D.flats es = true ∧ LenOk (ds.length + es.length) then .ok (.nx (env.set i (.own (ds ++ es)))) s else .no
    else (me (hideE env) s).bind fun d s => (seqOf d s).bind fun es s => if LenOk (ds.length + es.length) then .ok (.nx (env.set i (.own (ds ++ es)))) s else .no
theorem ext_fin {H0 : Hp} {W0 : Wd} {pins : List (D × V)} {W' : Wd} {H' : Hp} {σ : L2.St} {env : SE} {s' : DS} {Dn : Ends} {i : Nat} {p : Addr} {ds es : List D} {d : D} {u : V} {s2 : DS} (hi : env[i]? = some (.own ds)) (e1 : σ[i]? = some (some (.ref p)))
    (ok' : StOk G.K H0 W0 pins W' H' σ env s') (hq : seqOf d s' = .ok es s2) {Wr : Wd} (r : Rep G.K Wr H' d u) (re : ∀ us, Reps G.K Wr H' es us → Reps G.K W' H' es us) (hz : LenOk (ds.length + es.length)) (h' : AftS G H0 W0 pins (.ok (.nx (env.set i (.own (ds ++ es)))) s2) Dn) :
    (fun vs H Q => rExtend (.ref p) vs H Q ∨ rExtendT G.K (.ref p) vs H Q) [u] H' fun _ H2 => Dn.nx σ H2 := by
  obtain ⟨p', vs', f1, f2, f3, _⟩ := ok'.own i ds hi
  rw [e1] at f1
  cases f1
  have l3 := f3.length
  cases d with
  | lst xs =>
    simp only [seqOf, Res.ok.injEq] at hq
    obtain ⟨rfl, rfl⟩ := hq
    obtain ⟨b, us, rfl, hb, _, rs⟩ := rep_lst r
    have l4 := rs.length
    exact .inl ⟨p, b, vs', us, rfl, rfl, f2, hb, by rw [l3, l4]; exact hz.le, h' W' _ σ (ok'.mut (vs' := vs' ++ us) hi e1 f2 (f3.append (re _ rs)))⟩
  | tup xs =>
    simp only [seqOf, Res.ok.injEq] at hq
    obtain ⟨rfl, rfl⟩ := hq
    obtain ⟨b, us, rfl, hb, rs⟩ := rep_tup r
    have l4 := rs.length
    exact .inr ⟨p, b, vs', us, rfl, rfl, f2, hb, by rw [l3, l4]; exact hz.le, h' W' _ σ (ok'.mut (vs' := vs' ++ us) hi e1 f2 (f3.append (re _ rs)))⟩
  | _ => simp at hq
theorem es_ext (v : Bool) (i : Nat) {x : Str} {p1 p2 : Pos} (he : EE X G e me) (hK : X.K = G.K)
    (hN : X.N[i]? = some x := by rfl) (hv : Vis X.env.scope x := by first | exact Or.inl rfl | exact Or.inr (Or.inl rfl) | exact Or.inr (Or.inr rfl)) (hd : (x == ("__debug__" : Str)) = false := by decide) (hcd : (x == ("__classdict__" : Str)) = false := by decide)
    (hm : ∀ {te : TE}, PE X e te → PE X (.Call (.Attribute (.Name x p1) "extend" p2) [e] [] pos) (tBM X.K "list" (fun x vs H Q => rExtend x vs H Q ∨ rExtendT X.K x vs H Q) (tVar i) (tCons te tNil))) {pos' : Pos}
    (hs : swapsWith (.Call (.Attribute (.Name x p1) "extend" p2) [e] [] pos) none pos'.line X.env = pure false := by rfl) :
    ES X G (.Expr (.Call (.Attribute (.Name x p1) "extend" p2) [e] [] pos) pos') (sExt v i me) := ps_imp (ps_expr (hm he) hs) fun D σ H h => by
  obtain ⟨H0, W0, pins, W, env, s, ok, h⟩ := h
  unfold sExt at h
  split at h
  · exact h.elim
  · rename_i ds q
    have hi := ownOf_some q
    obtain ⟨p, vs, e1, e2, _, nF, nS, _⟩ := ok.own i ds hi
    refine ⟨_, e1, .inl ⟨rfl, vs, .inl (.inl e2)⟩, ?_⟩
    rw [hK]
    cases v with
    | false =>
      simp only [Bool.false_eq_true, if_false] at h
      refine ⟨W, hideE env, s, ok.hid, ok.ws, ?_⟩
      cases qm : me (hideE env) s with
      | ok d s' =>
        rw [qm] at h
        simp only [bind_ok] at h
        intro W' H' u ee ws r
        have ok' := ok.after ee ws
        cases qs : seqOf d s' with
        | ok es s2 =>
          rw [qs] at h
          simp only [bind_ok] at h
          split at h
          · rename_i hz
            exact ext_fin hi e1 ok' qs r (fun us rs => rs) hz h
          · exact h.elim
        | exc _ _ => cases d <;> simp at qs
        | no => rw [qs] at h; exact h.elim
      | exc x s' =>
        rw [qm] at h
        exact fun W' H' c dd e ws rp => h W' H' c dd (ok.ext.trans e) ws rp
      | no => rw [qm] at h; exact h
    | true =>
      simp only [if_true] at h
      refine ⟨W.see env σ, viewE env, s, ok.seen, ok.seeWS, ?_⟩
      cases qm : me (viewE env) s with
      | ok d s' =>
        rw [qm] at h
        simp only [bind_ok] at h
        intro W' H' u ee ws r
        have e2 := ok.unseeExt ee
        have ok' := ok.after e2 (unseeWS ws)
        cases qs : seqOf d s' with
        | ok es s2 =>
          rw [qs] at h
          simp only [bind_ok] at h
          split at h
          · rename_i hz
            exact ext_fin hi e1 ok' qs r (fun us rs => Reps.flatW (W := W') (W' := W'.unsee env σ) es us hz.1 (fun _ z => z) rs) hz.2 h
          · exact h.elim
        | exc _ _ => cases d <;> simp at qs
        | no => rw [qs] at h; exact h.elim
      | exc x s' =>
        rw [qm] at h
        exact fun W' H' c dd e ws rp => h (W'.unsee env σ) H' c dd (ok.ext.trans (ok.unseeExt e)) (unseeWS ws) rp
      | no => rw [qm] at h; exact h
end

/-! ### several values at once, some of them fresh lists of their slots' own -/
inductive Itm where
  | v (d : D) | o (ds : List D)
@[simp] def Itm.flat : Itm → Bool
  | .v d => d.flat
  | .o ds => D.flats ds
def ItR (K : PySem.W.Frag) (W : Wd) (H : Hp) : Hp → List Itm → List V → Prop
  | _, [], vs => vs = []
  | H0, .v d :: r, vs => ∃ v w, vs = v :: w ∧ Rep K W H d v ∧ ∃ H1 : Hp, (∀ b, H1 b = none → H0 b = none) ∧ ItR K W H H1 r w
  | H0, .o ds :: r, vs => ∃ p us w, vs = .ref p :: w ∧ H0 p = none ∧ H p = some (.lst us) ∧ Reps K W H ds us ∧ ¬ W.F p ∧ ¬ W.isS p ∧ ∃ H1 : Hp, (∀ b, H1 b = none → H0 b = none) ∧ (∃ u, H1 p = some u) ∧ ItR K W H H1 r w
theorem ItR.ext {K : PySem.W.Frag} {W W' : Wd} {H H' : Hp} (e : Ext W H W' H') : ∀ (H0 : Hp) (is : List Itm) (vs : List V), ItR K W H H0 is vs → ItR K W' H' H0 is vs
  | _, [], _, h => by simpa [ItR] using h
  | H0, .v d :: r, vs, h => by
    simp only [ItR] at h ⊢
    obtain ⟨v, w, rfl, h1, H1, h2, h3⟩ := h
    exact ⟨v, w, rfl, h1.ext e _ _, H1, h2, ItR.ext e H1 r w h3⟩
  | H0, .o ds :: r, vs, h => by
    simp only [ItR] at h ⊢
    obtain ⟨p, us, w, rfl, h1, h2, h3, h4, h5, H1, h6, h7, h8⟩ := h
    exact ⟨p, us, w, rfl, h1, e.keep p _ h2 h5, Reps.ext e _ _ h3, e.notF h2 h4, e.isS h2 h5, H1, h6, h7, ItR.ext e H1 r w h8⟩
theorem ItR.length {K : PySem.W.Frag} {W : Wd} {H : Hp} : ∀ {H0 : Hp} {is : List Itm} {vs : List V}, ItR K W H H0 is vs → vs.length = is.length
  | _, [], _, h => by simp only [ItR] at h; subst h; rfl
  | H0, .v d :: r, vs, h => by
    simp only [ItR] at h
    obtain ⟨v, w, rfl, h1, H1, h2, h3⟩ := h
    simp [ItR.length h3]
  | H0, .o ds :: r, vs, h => by
    simp only [ItR] at h
    obtain ⟨p, us, w, rfl, h1, h2, h3, h4, h5, H1, h6, h7, h8⟩ := h
    simp [ItR.length h8]
theorem ItR.unsee {K : PySem.W.Frag} {W : Wd} {H : Hp} {env : SE} {σ : L2.St} : ∀ (H0 : Hp) (is : List Itm) (vs : List V), is.all Itm.flat = true → ItR K W H H0 is vs → ItR K (W.unsee env σ) H H0 is vs
  | _, [], _, _, h => by simpa [ItR] using h
  | H0, .v d :: r, vs, f, h => by
    simp only [List.all_cons, Bool.and_eq_true, Itm.flat] at f
    simp only [ItR] at h ⊢
    obtain ⟨v, w, rfl, h1, H1, h2, h3⟩ := h
    exact ⟨v, w, rfl, Rep.flatW (W := W) (W' := W.unsee env σ) d v f.1 (fun _ z => z) h1, H1, h2, ItR.unsee H1 r w f.2 h3⟩
  | H0, .o ds :: r, vs, f, h => by
    simp only [List.all_cons, Bool.and_eq_true, Itm.flat] at f
    simp only [ItR] at h ⊢
    obtain ⟨p, us, w, rfl, h1, h2, h3, h4, h5, H1, h6, h7, h8⟩ := h
    exact ⟨p, us, w, rfl, h1, h2, Reps.flatW (W := W) (W' := W.unsee env σ) ds us f.1 (fun _ z => z) h3, fun z => h4 z.1, h5, H1, h6, h7, ItR.unsee H1 r w f.2 h8⟩
def AftLI (G : Gx) (W : Wd) (H : Hp) (r : Res (List Itm)) (Q : List V → Hp → Prop) : Prop := match r with
  | .ok is s' => ∀ W' H' vs, Ext W H W' H' → WS W' s' H' → ItR G.K W' H' H is vs → Q vs H'
  | .exc x s' => ∀ W' H' c dd, Ext W H W' H' → WS W' s' H' → G.xr G.K x c dd H' → G.E c dd H'
  | .no => False
def tMLI (G : Gx) (m : VE → M (List Itm)) : TA := fun σ H Q => ∃ W env s, EnvR G.K W H σ env ∧ WS W s H ∧ AftLI G W H (m env s) Q
abbrev EAI (X : Cx) (G : Gx) (es : List Expr) (m : VE → M (List Itm)) : Prop := PA X es (tMLI G m)
@[simp] def mNilI : VE → M (List Itm) := fun _ s => .ok [] s
@[simp] def mConsV (a : VE → M D) (l : VE → M (List Itm)) : VE → M (List Itm) := fun env s => (a env s).bind fun d s => (l env s).bind fun ds s => .ok (.v d :: ds) s
@[simp] def mConsO (a : VE → M D) (l : VE → M (List Itm)) : VE → M (List Itm) := fun env s => (a env s).bind fun d s => match d with
  | .lst xs => (l env s).bind fun ds s => .ok (.o xs :: ds) s
  | _ => .no
section
variable {X : Cx} {G : Gx} {e : Expr} {es : List Expr} {ma : VE → M D} {ml : VE → M (List Itm)} {pos : Pos}
theorem ei_nilI : EAI X G [] mNilI := pa_imp pa_nil fun σ H Q h => by
  obtain ⟨W, env, s, he, hs, h⟩ := h
  exact h W H [] (Ext.refl _ _) hs (by simp [ItR])
theorem ei_consV (ha : EE X G e ma) (hr : EAI X G es ml) (hs : starEach (e :: es) X.env = (false, eval e X.env) :: starEach es X.env := by rfl) : EAI X G (e :: es) (mConsV ma ml) :=
  pa_imp (pa_cons ha hr hs) fun σ H Q h => by
    obtain ⟨W, env, s, he, hs, h⟩ := h
    refine ⟨W, env, s, he, hs, ?_⟩
    unfold mConsV at h
    cases q : ma env s with
    | no => rw [q] at h; exact h.elim
    | exc x s' => rw [q] at h; exact h
    | ok d s1 =>
      rw [q] at h
      simp only [bind_ok] at h
      intro W1 H1 v e1 ws1 r1
      refine ⟨W1, env, s1, he.ext e1, ws1, ?_⟩
      cases q2 : ml env s1 with
      | no => rw [q2] at h; exact h.elim
      | exc x s' =>
        rw [q2] at h
        exact fun W' H' c dd e2 ws rp => h W' H' c dd (e1.trans e2) ws rp
      | ok is s2 =>
        rw [q2] at h
        intro W2 H2 vs e2 ws2 r2
        exact h W2 H2 (v :: vs) (e1.trans e2) ws2 (by simp only [ItR]; exact ⟨v, vs, rfl, r1.ext e2 _ _, H1, e1.dom, r2⟩)
theorem ei_consO (ha : EF X G e ma) (hr : EAI X G es ml) (hs : starEach (e :: es) X.env = (false, eval e X.env) :: starEach es X.env := by rfl) : EAI X G (e :: es) (mConsO ma ml) :=
  pa_imp (pa_cons ha hr hs) fun σ H Q h => by
    obtain ⟨W, env, s, he, hs, h⟩ := h
    refine ⟨W, env, s, he, hs, ?_⟩
    unfold mConsO at h
    cases q : ma env s with
    | no => rw [q] at h; exact h.elim
    | exc x s' => rw [q] at h; exact h
    | ok d s1 =>
      rw [q] at h
      simp only [bind_ok] at h
      cases d with
      | lst xs =>
        simp only [] at h
        intro W1 H1 p us e1 ws1 n0 hp r1 nF nS
        refine ⟨W1, env, s1, he.ext e1, ws1, ?_⟩
        cases q2 : ml env s1 with
        | no => rw [q2] at h; exact h.elim
        | exc x s' =>
          rw [q2] at h
          exact fun W' H' c dd e2 ws rp => h W' H' c dd (e1.trans e2) ws rp
        | ok is s2 =>
          rw [q2] at h
          intro W2 H2 vs e2 ws2 r2
          exact h W2 H2 (.ref p :: vs) (e1.trans e2) ws2 (by simp only [ItR]; exact ⟨p, us, vs, rfl, n0, e2.keep p _ hp nS, Reps.ext e2 _ _ r1, e2.notF hp nF, e2.isS hp nS, H1, e1.dom, ⟨_, hp⟩, r2⟩)
      | _ => exact h.elim
end
@[simp] def Itm.sl : Itm → Sl
  | .v d => .val d
  | .o ds => .own ds
@[simp] def setIt (env : SE) : List Nat → List Itm → SE
  | i :: is, t :: ts => setIt (env.set i t.sl) is ts
  | _, _ => env
theorem StOk.setIt {K : PySem.W.Frag} {Hb : Hp} {W0 : Wd} {pins : List (D × V)} {W : Wd} {H : Hp} {s : DS} : ∀ {H0 : Hp} {ts : List Itm} {is : List Nat} {vs : List V} {σ : L2.St} {env : SE}, StOk K Hb W0 pins W H σ env s → ItR K W H H0 ts vs → is.length = ts.length → (∀ b, H0 b = none → Hb b = none) →
    (∀ (j : Nat) (es : List D) (q : Addr), env[j]? = some (.own es) → σ[j]? = some (some (.ref q)) → ∃ u, H0 q = some u) → StOk K Hb W0 pins W H (L2.Mir.setA σ (is.zip vs)) (L2.Mir.setIt env is ts) s
  | _, [], [], vs, σ, env, h, r, _, _, _ => by simpa [L2.Mir.setIt, L2.Mir.setA] using h
  | _, [], _ :: _, _, _, _, _, _, l, _, _ => by simp at l
  | _, _ :: _, [], _, _, _, _, _, l, _, _ => by simp at l
  | H0, .v d :: ts, i :: is, vs, σ, env, h, r, l, hb, ho => by
    simp only [ItR] at r
    obtain ⟨v, w, rfl, h1, H1, h2, h3⟩ := r
    show StOk K Hb W0 pins W H (L2.Mir.setA (σ.set i (some v)) (is.zip w)) (L2.Mir.setIt (env.set i (.val d)) is ts) s
    refine StOk.setIt (h.set h1) h3 (by simpa using l) (fun b z => hb b (h2 b z)) fun j es q q1 q2 => ?_
    by_cases hj : i = j
    · subst hj
      by_cases hl : i < env.length
      · rw [List.getElem?_set_self hl] at q1; cases q1
      · rw [List.getElem?_eq_none (by simpa using hl)] at q1; cases q1
    · rw [List.getElem?_set_ne hj] at q1 q2
      obtain ⟨u, hu⟩ := ho j es q q1 q2
      exact none_of_dom h2 hu
  | H0, .o ds :: ts, i :: is, vs, σ, env, h, r, l, hb, ho => by
    simp only [ItR] at r
    obtain ⟨p, us, w, rfl, h1, h2, h3, h4, h5, H1, h6, h7, h8⟩ := r
    show StOk K Hb W0 pins W H (L2.Mir.setA (σ.set i (some (.ref p))) (is.zip w)) (L2.Mir.setIt (env.set i (.own ds)) is ts) s
    refine StOk.setIt (h.setOwn h2 h3 h4 h5 (hb p h1) fun j es _ q1 q2 => ?_) h8 (by simpa using l) (fun b z => hb b (h6 b z)) fun j es q q1 q2 => ?_
    · obtain ⟨u, hu⟩ := ho j es p q1 q2
      rw [h1] at hu; cases hu
    · by_cases hj : i = j
      · subst hj
        by_cases hl : i < env.length
        · rw [List.getElem?_set_self (by rw [h.len]; exact hl)] at q2
          cases q2
          exact h7
        · rw [List.getElem?_eq_none (by simpa using hl)] at q1; cases q1
      · rw [List.getElem?_set_ne hj] at q1 q2
        obtain ⟨u, hu⟩ := ho j es q q1 q2
        exact none_of_dom h6 hu
theorem setA_zip2 {σ : L2.St} {i j : Nat} {v u : V} : setA σ ([i, j].zip [v, u]) = (σ.set i (some v)).set j (some u) := rfl
@[simp] def exqI (v : Bool) (m : VE → M (List Itm)) : SE → M (List Itm) := fun env s => if v = true then (m (viewE env) s).bind fun d s => if d.all Itm.flat = true then .ok d s else .no else m (hideE env) s
section
variable {X : Cx} {G : Gx} {pos : Pos} {ml : VE → M (List Itm)}
theorem exI_read {v : Bool} {H0 : Hp} {W0 : Wd} {pins : List (D × V)} {W : Wd} {H : Hp} {σ : L2.St} {env : SE} {s : DS} {f : List Itm → DS → Res Fl} {Dn : Ends} {R : List V → Hp → Prop} (ok : StOk G.K H0 W0 pins W H σ env s) (h : AftS G H0 W0 pins ((exqI v ml env s).bind f) Dn)
    (k : ∀ W' H' u d s', Ext W H W' H' → StOk G.K H0 W0 pins W' H' σ env s' → ItR G.K W' H' H d u → AftS G H0 W0 pins (f d s') Dn → R u H') : tMLI G ml σ H R := by
  cases v with
  | false =>
    refine ⟨W, hideE env, s, ok.hid, ok.ws, ?_⟩
    have e0 : exqI false ml env s = ml (hideE env) s := rfl
    rw [e0] at h
    cases q : ml (hideE env) s with
    | ok d s' =>
      rw [q] at h
      exact fun W' H' u e ws rp => k W' H' u d s' e (ok.after e ws) rp h
    | exc x s' =>
      rw [q] at h
      exact fun W' H' c dd e ws rp => h W' H' c dd (ok.ext.trans e) ws rp
    | no => rw [q] at h; exact h
  | true =>
    refine ⟨W.see env σ, viewE env, s, ok.seen, ok.seeWS, ?_⟩
    have e0 : exqI true ml env s = (ml (viewE env) s).bind fun d s => if d.all Itm.flat = true then .ok d s else .no := rfl
    rw [e0] at h
    cases q : ml (viewE env) s with
    | ok d s' =>
      rw [q] at h
      simp only [bind_ok] at h
      by_cases fl : d.all Itm.flat = true
      · rw [if_pos fl] at h
        intro W' H' u e ws rp
        have e2 := ok.unseeExt e
        exact k (W'.unsee env σ) H' u d s' e2 (ok.after e2 (unseeWS ws)) (ItR.unsee _ _ _ fl rp) h
      · rw [if_neg fl] at h; exact h.elim
    | exc x s' =>
      rw [q] at h
      exact fun W' H' c dd e ws rp => h (W'.unsee env σ) H' c dd (ok.ext.trans (ok.unseeExt e)) (unseeWS ws) rp
    | no => rw [q] at h; exact h
/-- own lists that stand -/
theorem StOk.stand {K : PySem.W.Frag} {H0 : Hp} {W0 : Wd} {pins : List (D × V)} {W W' : Wd} {H H' : Hp} {σ : L2.St} {env : SE} {s s' : DS} (ok : StOk K H0 W0 pins W H σ env s) : ∀ (j : Nat) (es : List D) (q : Addr), env[j]? = some (.own es) → σ[j]? = some (some (.ref q)) → ∃ u, H q = some u := fun j es q q1 q2 => by
  obtain ⟨p, vs, e1, e2, _⟩ := ok.own j es q1
  rw [q2] at e1
  cases e1
  exact ⟨_, e2⟩
@[simp] def sItems (v : Bool) (is : List Nat) (ml : VE → M (List Itm)) : MS := fun env s => (exqI v ml env s).bind fun ts s => if ts.length = is.length then .ok (.nx (setIt env is ts)) s else .no
theorem es_parO (v : Bool) (i j : Nat) {x y : Str} {a b : Expr} {px py pt : Pos} {kt k2 pt2} (hc : X.calm = true) (hN : X.N.Nodup) (ha : EAI X G [a, b] ml) (hi : X.N[i]? = some x := by rfl) (hj : X.N[j]? = some y := by rfl) (hij : i ≠ j := by decide)
    (hx : X.env.scope.names.lookup x = some .local := by rfl) (hy : X.env.scope.names.lookup y = some .local := by rfl)
    (hw : swappedStores [.Tuple [.Name x px, .Name y py] kt pt] (.Tuple [a, b] k2 pt2) X.env = pure (some [x, y]) := by rfl)
    (hs : swapsWithSole [.Tuple [.Name x px, .Name y py] kt pt] (.Tuple [a, b] k2 pt2) pos.line X.env = pure false := by rfl) :
    ES X G (.Assign [.Tuple [.Name x px, .Name y py] kt pt] (.Tuple [a, b] k2 pt2) pos) (sItems v [i, j] ml) := ps_imp (ps_par hc hN hi hj hij hx hy ha hw hs) fun D σ H h => by
  obtain ⟨H0, W0, pins, W, env, s, ok, h⟩ := h
  refine exI_read ok h fun W' H' u d s' _ ok' r h' => ?_
  split at h'
  · rename_i hl
    have l1 := r.length
    rw [hl] at l1
    match u, l1, r with
    | [v1, v2], _, r => exact ⟨v1, v2, rfl, h' W' H' _ (ok'.setIt r hl.symm ok.ext.dom (ok.stand (W' := W') (H' := H') (s' := s')))⟩
  · exact h'.elim
theorem es_par3O (v : Bool) (i j l : Nat) {x y z : Str} {a b c : Expr} {px py pz pt : Pos} {kt k2 pt2} (hc : X.calm = true) (hN : X.N.Nodup) (ha : EAI X G [a, b, c] ml) (hi : X.N[i]? = some x := by rfl) (hj : X.N[j]? = some y := by rfl) (hl : X.N[l]? = some z := by rfl) (hij : i ≠ j := by decide) (hil : i ≠ l := by decide) (hjl : j ≠ l := by decide)
    (hx : X.env.scope.names.lookup x = some .local := by rfl) (hy : X.env.scope.names.lookup y = some .local := by rfl) (hz : X.env.scope.names.lookup z = some .local := by rfl)
    (hw : swappedStores [.Tuple [.Name x px, .Name y py, .Name z pz] kt pt] (.Tuple [a, b, c] k2 pt2) X.env = pure (some [x, y, z]) := by rfl)
    (hs : swapsWithSole [.Tuple [.Name x px, .Name y py, .Name z pz] kt pt] (.Tuple [a, b, c] k2 pt2) pos.line X.env = pure false := by rfl) :
    ES X G (.Assign [.Tuple [.Name x px, .Name y py, .Name z pz] kt pt] (.Tuple [a, b, c] k2 pt2) pos) (sItems v [i, j, l] ml) := ps_imp (ps_par3 hc hN hi hj hl hij hil hjl hx hy hz ha hw hs) fun D σ H h => by
  obtain ⟨H0, W0, pins, W, env, s, ok, h⟩ := h
  refine exI_read ok h fun W' H' u d s' _ ok' r h' => ?_
  split at h'
  · rename_i hl
    have l1 := r.length
    rw [hl] at l1
    match u, l1, r with
    | [v1, v2, v3], _, r => exact ⟨v1, v2, v3, rfl, h' W' H' _ (ok'.setIt r hl.symm ok.ext.dom (ok.stand (W' := W') (H' := H') (s' := s')))⟩
  · exact h'.elim
/-- names, one after another -/
def gNs (is : List Nat) : TGs := fun vs σ H Q => vs.length = is.length ∧ Q (setA σ (is.zip vs)) H
abbrev EGn (X : Cx) (ts : List Expr) (is : List Nat) : Prop := PGs X ts (gNs is)
theorem egn_nil : EGn X [] [] := pgs_imp pgs_nil fun vs σ H Q h => by
  obtain ⟨l, h⟩ := h
  have e : vs = [] := List.eq_nil_of_length_eq_zero l
  subst e
  exact ⟨rfl, h⟩
theorem egn_cons {i : Nat} {is : List Nat} {x : Str} {p : Pos} {es : List Expr} (hN : X.N.Nodup) (h2 : EGn X es is) (hi : X.N[i]? = some x := by rfl) (hx : Loc X.env.scope x := by first | exact .inl rfl | exact .inr rfl) (hf : X.fn x = true ∨ X.env.scope.names.lookup x = some .local := by first | exact .inl rfl | exact .inr rfl | assumption)
    (hs : (assignEach (.Name x p :: es) X.env).map (·.2) = assign (.Name x p) X.env :: (assignEach es X.env).map (·.2) := by rfl) : EGn X (.Name x p :: es) (i :: is) :=
  pgs_imp (pgs_cons (pg_name hN hi hx hf) h2 hs) fun vs σ H Q h => by
    obtain ⟨l, h⟩ := h
    match vs, l, h with
    | v :: w, l, h => exact ⟨v, w, rfl, by simpa using l, h⟩
theorem es_asgO (v : Bool) (is : List Nat) {es ts : List Expr} {kt k2 : Nat} {pt pt2 : Pos} (hK : X.K = G.K) (hc : X.calm = true) (ha : EAI X G es ml) (hg : EGn X ts is)
    (hn : (assignEach ts X.env).length = is.length := by rfl) (hst : (assignEach ts X.env).findIdx? (·.1) = none := by rfl) (hz : is.length ≤ 1000 := by decide)
    (hs : swapsWithSole [.Tuple ts kt pt] (.Tuple es k2 pt2) pos.line X.env = pure false := by rfl) (hw : swappedStores [.Tuple ts kt pt] (.Tuple es k2 pt2) X.env = pure none := by rfl)
    (h1 : (assignEach [.Tuple ts kt pt] X.env).map (·.2) = [assign (.Tuple ts kt pt) X.env] := by rfl) :
    ES X G (.Assign [.Tuple ts kt pt] (.Tuple es k2 pt2) pos) (sItems v is ml) := ps_imp (ps_asg (pe_tup ha) (pg_tup hc hg hn hst) hs hw h1) fun D σ H h => by
  obtain ⟨H0, W0, pins, W, env, s, ok, h⟩ := h
  refine exI_read ok h fun W' H' u d s' _ ok' r h' => ?_
  split at h'
  · rename_i hl
    have l1 := r.length
    refine ⟨by rw [l1, hl]; exact small hz, fun p hp => ?_⟩
    have e := Ext.new (W := W') (o := .tup u) hp
    refine ⟨p, u, rfl, .inl (.inl upd_same), by omega, by omega, ?_⟩
    exact h' W' _ _ ((ok'.after e (WS.new hp ok'.ws)).setIt (r.ext e) hl.symm ok.ext.dom (ok.stand (W' := W') (H' := H') (s' := s')))
  · exact h'.elim

/-! ### a = b = e -/
@[simp] def sAsg2 (v : Bool) (i j : Nat) (me : VE → M D) : MS := fun env s => (exq v me env s).bind fun d s => .ok (.nx ((env.set i (.val d)).set j (.val d))) s
theorem es_asg2 (v : Bool) (i j : Nat) {e : Expr} {me : VE → M D} {x y : Str} {p1 p2 : Pos} (hN : X.N.Nodup) (he : EE X G e me) (hi : X.N[i]? = some x := by rfl) (hx : Loc X.env.scope x := by first | exact .inl rfl | exact .inr rfl) (hf : X.fn x = true ∨ X.env.scope.names.lookup x = some .local := by first | exact .inl rfl | exact .inr rfl | assumption)
    (hj : X.N[j]? = some y := by rfl) (hy : Loc X.env.scope y := by first | exact .inl rfl | exact .inr rfl) (hg : X.fn y = true ∨ X.env.scope.names.lookup y = some .local := by first | exact .inl rfl | exact .inr rfl | assumption)
    (ha : (assignEach [.Name x p1, .Name y p2] X.env).map (·.2) = [assign (.Name x p1) X.env, assign (.Name y p2) X.env] := by rfl) (hw : swappedStores [.Name x p1, .Name y p2] e X.env = pure none := by rfl) :
    ES X G (.Assign [.Name x p1, .Name y p2] e pos) (sAsg2 v i j me) := ps_imp (ps_asg2 he (pg_name hN hi hx hf) (pg_name hN hj hy hg) ha hw) fun D σ H h => by
  obtain ⟨H0, W0, pins, W, env, s, ok, h⟩ := h
  exact ex_read ok h fun W' H' u d s' _ ok' r _ h' => h' W' H' _ ((ok'.set r).set r)
end
end
end L2.Mir

set_option Elab.async false
set_option linter.all false
set_option maxRecDepth 100000
namespace L2.Mir
open PySem PySem.Spec PyProof.Rows
noncomputable section
/-! ### suites whose first look is at the error's field -/
def tXE (xr : XR) (K : PySem.W.Frag) (i : Nat) (C : Addr) (fld : Str) (a : Addr) (cls : Value) (d : Option Addr) (m : Str → VE → M D) : TE := fun σ H Q => ∃ (w : Str) (dd : Addr), σ[i]? = some (some (.ref a)) ∧ cls = .ref C ∧ d = some dd ∧ H dd = some (.xd [(fld, .str w)]) ∧ tM ⟨K, xr, E0⟩ (m w) σ H Q
def tXT (xr : XR) (K : PySem.W.Frag) (i : Nat) (C : Addr) (fld : Str) (a : Addr) (cls : Value) (d : Option Addr) (m : Str → VE → M Bool) : TT := fun σ H Q => ∃ (w : Str) (dd : Addr), σ[i]? = some (some (.ref a)) ∧ cls = .ref C ∧ d = some dd ∧ H dd = some (.xd [(fld, .str w)]) ∧ tMT ⟨K, xr, E0⟩ (m w) σ H Q
def tXS (xr : XR) (K : PySem.W.Frag) (i : Nat) (C : Addr) (fld : Str) (a : Addr) (cls : Value) (d : Option Addr) (m : Str → MS) : TS := fun D σ H => ∃ (w : Str) (dd : Addr), σ[i]? = some (some (.ref a)) ∧ cls = .ref C ∧ d = some dd ∧ H dd = some (.xd [(fld, .str w)]) ∧ tMS ⟨K, xr, E0⟩ (m w) D σ H
section
variable {X : Cx} {xr : XR} {i : Nat} {C : Addr} {fld nm : Str}
/-- in the suite of (a, oe) -/
abbrev XE (X : Cx) (xr : XR) (i : Nat) (C : Addr) (fld : Str) (e : Expr) (m : Str → VE → M D) : Prop := ∀ (a : Addr) (oe : Obj) (cls : Value) (d : Option Addr) (pn : List (Addr × Obj)), Zc cls d oe → (∃ vs, oe.data = .fields vs) → PE (X.suite a ((a, oe) :: pn)) e (tXE xr X.K i C fld a cls d m)
abbrev XT (X : Cx) (xr : XR) (i : Nat) (C : Addr) (fld : Str) (e : Expr) (m : Str → VE → M Bool) : Prop := ∀ (a : Addr) (oe : Obj) (cls : Value) (d : Option Addr) (pn : List (Addr × Obj)), Zc cls d oe → (∃ vs, oe.data = .fields vs) → PT (X.suite a ((a, oe) :: pn)) e (tXT xr X.K i C fld a cls d m)
abbrev XW (X : Cx) (xr : XR) (i : Nat) (C : Addr) (fld : Str) (e : Expr) (m : Str → VE → M Bool) : Prop := ∀ (a : Addr) (oe : Obj) (cls : Value) (d : Option Addr) (pn : List (Addr × Obj)), Zc cls d oe → (∃ vs, oe.data = .fields vs) → PW (X.suite a ((a, oe) :: pn)) e (tXT xr X.K i C fld a cls d m)
abbrev XSs (X : Cx) (xr : XR) (i : Nat) (C : Addr) (fld : Str) (ss : List Stmt) (m : Str → MS) : Prop := ∀ (a : Addr) (oe : Obj) (cls : Value) (d : Option Addr) (pn : List (Addr × Obj)), Zc cls d oe → (∃ vs, oe.data = .fields vs) → PSs (X.suite a ((a, oe) :: pn)) ss (tXS xr X.K i C fld a cls d m)
/-- plain ones, at the suite's context -/
abbrev SE' (X : Cx) (xr : XR) (e : Expr) (m : VE → M D) : Prop := ∀ (a : Addr) (oe : Obj) (pn : List (Addr × Obj)), EE (X.suite a ((a, oe) :: pn)) ⟨X.K, xr, E0⟩ e m
variable {e b c : Expr} {pos : Pos}
theorem xe_fld {p1 p2 : Pos} (T : XfC X.K C) (hno : PySem.W.findIn X.K (.ref C) fld = some none) (hi : X.N[i]? = some nm := by rfl) (hv : Vis X.env.scope nm := by first | exact Or.inl rfl | exact Or.inr (Or.inl rfl) | exact Or.inr (Or.inr rfl)) (hd : (nm == ("__debug__" : Str)) = false := by decide)
    (hcd : (nm == ("__classdict__" : Str)) = false := by decide) (hb : attributeBase (.Name nm p1) fld X.env (eval (.Name nm p1) X.env) = eval (.Name nm p1) X.env := by rfl) :
    XE X xr i C fld (.Attribute (.Name nm p1) fld p2) (fun w => mC (.str w)) := fun a oe cls d pn hz hf =>
  pe_imp (pe_xf T hno hz hf (pv (X := X.suite a ((a, oe) :: pn)) i hi hv hd hcd) hb) fun σ H Q h => by
    obtain ⟨w, dd, h1, h2, h3, h4, W, env, s, he, hs, h⟩ := h
    exact ⟨.ref a, h1, rfl, h2, dd, _, .str w, h3, h4, by simp [List.lookup], h.now hs (by simp [Rep])⟩
theorem xe_plain {m : VE → M D} (h : ∀ (a : Addr) (oe : Obj) (pn : List (Addr × Obj)), EE (X.suite a ((a, oe) :: pn)) ⟨X.K, xr, E0⟩ e m) : XE X xr i C fld e (fun _ => m) := fun a oe cls d pn _ _ =>
  pe_imp (h a oe pn) fun σ H Q h => by
    obtain ⟨w, dd, h1, h2, h3, h4, h⟩ := h
    exact h
variable {m : Str → VE → M D} {mb : VE → M D}
theorem xe_op {r : R2} {g : D → D → M D} {ta : TE} {a : Addr} {cls : Value} {d : Option Addr} (hr : RB ⟨X.K, xr, E0⟩ r g) {σ : L2.St} {H : Hp} {Q : VK} (h : tXE xr X.K i C fld a cls d (fun w => mBin g (m w) mb) σ H Q) : tOp r (tXE xr X.K i C fld a cls d m) (tM ⟨X.K, xr, E0⟩ mb) σ H Q := by
  obtain ⟨w, dd, h1, h2, h3, h4, W, env, s, he, hs, h⟩ := h
  refine ⟨w, dd, h1, h2, h3, h4, ?_⟩
  refine tM_bind he hs h fun W1 H1 v x s1 e1 he1 hs1 rx _ h1 => ?_
  refine tM_bind he1 hs1 h1 fun W2 H2 u y s2 e2 he2 hs2 ry _ h2 => ?_
  exact hr W2 H2 s2 x y v u Q hs2 (Rep.ext e2 _ _ rx) ry h2
theorem xe_cmp {op : CmpOp} {r : R2} {g : D → D → M D} (ho : ∀ (a : Addr) (pn : List (Addr × Obj)), OpR (X.suite a pn) (compareOp op) r) (hr : RB ⟨X.K, xr, E0⟩ r g) (ha : XE X xr i C fld e m) (hb : ∀ (a : Addr) (oe : Obj) (pn : List (Addr × Obj)), EE (X.suite a ((a, oe) :: pn)) ⟨X.K, xr, E0⟩ b mb) (hm : behindInMarks op b = false := by first | exact nomark _ | rfl) :
    XE X xr i C fld (.Compare e [op] [b] pos) (fun w => mBin g (m w) mb) := fun a oe cls d pn hz hf =>
  pe_imp (pe_cmpR (ho a _) (ha a oe cls d pn hz hf) (hb a oe pn) hm) fun _ _ _ h => xe_op (ta := tXE xr X.K i C fld a cls d m) hr h
theorem xt_cmp {op : CmpOp} {r : R2} {g : D → D → M D} (ho : ∀ (a : Addr) (pn : List (Addr × Obj)), OpR (X.suite a pn) (compareOp op) r) (hr : RB ⟨X.K, xr, E0⟩ r g) (ha : XE X xr i C fld e m) (hb : ∀ (a : Addr) (oe : Obj) (pn : List (Addr × Obj)), EE (X.suite a ((a, oe) :: pn)) ⟨X.K, xr, E0⟩ b mb) (hm : behindInMarks op b = false := by first | exact nomark _ | rfl) :
    XT X xr i C fld (.Compare e [op] [b] pos) (fun w => mCmpT g (m w) mb) := fun a oe cls d pn hz hf =>
  pt_imp (pt_cmpR (ho a _) (ha a oe cls d pn hz hf) (hb a oe pn) hm) fun σ H Q h => by
    obtain ⟨w, dd, h1, h2, h3, h4, h⟩ := h
    refine xe_op (ta := tXE xr X.K i C fld a cls d m) hr ⟨w, dd, h1, h2, h3, h4, ?_⟩
    exact tTest_of (t := tM ⟨X.K, xr, E0⟩ (mBin g (m w) mb)) (fun _ _ _ h => h) h
/-- and, or as values -/
theorem xe_and {rest : List Expr} (ha : XE X xr i C fld e m) (hb : ∀ (a : Addr) (oe : Obj) (pn : List (Addr × Obj)), EE (X.suite a ((a, oe) :: pn)) ⟨X.K, xr, E0⟩ (.BoolOp .And (b :: rest) pos) mb) : XE X xr i C fld (.BoolOp .And (e :: b :: rest) pos) (fun w => mAnd (m w) mb) := fun a oe cls d pn hz hf =>
  pe_imp (pe_and (ha a oe cls d pn hz hf) (hb a oe pn)) fun σ H Q h => by
    obtain ⟨w, dd, h1, h2, h3, h4, W, env, s, he, hs, h⟩ := h
    refine ⟨w, dd, h1, h2, h3, h4, ?_⟩
    refine tM_bind he hs h fun W1 H1 v x s1 e1 he1 hs1 rx _ h1 => ?_
    cases x with
    | bl k =>
      refine ⟨k, rx.bl_of, ?_⟩
      cases k with
      | true => exact iteT ⟨W1, env, s1, he1, hs1, h1⟩
      | false => exact iteF (h1.now hs1 (rep_bl_iff.mpr rfl))
    | _ => exact h1.elim
theorem xe_or {rest : List Expr} (ha : XE X xr i C fld e m) (hb : ∀ (a : Addr) (oe : Obj) (pn : List (Addr × Obj)), EE (X.suite a ((a, oe) :: pn)) ⟨X.K, xr, E0⟩ (.BoolOp .Or (b :: rest) pos) mb) : XE X xr i C fld (.BoolOp .Or (e :: b :: rest) pos) (fun w => mOr (m w) mb) := fun a oe cls d pn hz hf =>
  pe_imp (pe_or (ha a oe cls d pn hz hf) (hb a oe pn)) fun σ H Q h => by
    obtain ⟨w, dd, h1, h2, h3, h4, W, env, s, he, hs, h⟩ := h
    refine ⟨w, dd, h1, h2, h3, h4, ?_⟩
    refine tM_bind he hs h fun W1 H1 v x s1 e1 he1 hs1 rx _ h1 => ?_
    cases x with
    | bl k =>
      refine ⟨k, rx.bl_of, ?_⟩
      cases k with
      | true => exact iteT (h1.now hs1 (rep_bl_iff.mpr rfl))
      | false => exact iteF ⟨W1, env, s1, he1, hs1, h1⟩
    | _ => exact h1.elim
/-! tests -/
variable {t : Str → VE → M Bool} {tb : VE → M Bool}
theorem xt_w (h : XW X xr i C fld e t) : XT X xr i C fld e t := fun a oe cls d pn hz hf => (h a oe cls d pn hz hf).pt
theorem xw_and {rest : List Expr} (ha : XT X xr i C fld e t) (hb : ∀ (a : Addr) (oe : Obj) (pn : List (Addr × Obj)), EW (X.suite a ((a, oe) :: pn)) ⟨X.K, xr, E0⟩ (.BoolOp .And (b :: rest) pos) tb) : XW X xr i C fld (.BoolOp .And (e :: b :: rest) pos) (fun w => mAndT (t w) tb) := fun a oe cls d pn hz hf =>
  pw_imp (pw_and (ha a oe cls d pn hz hf) (hb a oe pn)) fun σ H Q h => by
    obtain ⟨w, dd, h1, h2, h3, h4, W, env, s, he, hs, h⟩ := h
    refine ⟨w, dd, h1, h2, h3, h4, ?_⟩
    refine tMT_bindT he hs h fun W1 H1 k s1 e1 he1 hs1 _ h1 => ?_
    cases k with
    | true => exact iteT ⟨W1, env, s1, he1, hs1, h1⟩
    | false => exact iteF (h1.now hs1)
theorem xw_or {rest : List Expr} (ha : XT X xr i C fld e t) (hb : ∀ (a : Addr) (oe : Obj) (pn : List (Addr × Obj)), EW (X.suite a ((a, oe) :: pn)) ⟨X.K, xr, E0⟩ (.BoolOp .Or (b :: rest) pos) tb) : XW X xr i C fld (.BoolOp .Or (e :: b :: rest) pos) (fun w => mOrT (t w) tb) := fun a oe cls d pn hz hf =>
  pw_imp (pw_or (ha a oe cls d pn hz hf) (hb a oe pn)) fun σ H Q h => by
    obtain ⟨w, dd, h1, h2, h3, h4, W, env, s, he, hs, h⟩ := h
    refine ⟨w, dd, h1, h2, h3, h4, ?_⟩
    refine tMT_bindT he hs h fun W1 H1 k s1 e1 he1 hs1 _ h1 => ?_
    cases k with
    | true => exact iteT (h1.now hs1)
    | false => exact iteF ⟨W1, env, s1, he1, hs1, h1⟩
theorem xt_plain {m : VE → M Bool} (h : ∀ (a : Addr) (oe : Obj) (pn : List (Addr × Obj)), ET (X.suite a ((a, oe) :: pn)) ⟨X.K, xr, E0⟩ e m) : XT X xr i C fld e (fun _ => m) := fun a oe cls d pn _ _ =>
  pt_imp (h a oe pn) fun σ H Q h => by
    obtain ⟨w, dd, h1, h2, h3, h4, h⟩ := h
    exact h
/-- statements -/
theorem su_x {suite : List Stmt} {ms : Str → MS} (h : XSs X xr i C fld suite ms) : Su X xr i C fld suite ms :=
  ⟨fun a cls d => tXS xr X.K i C fld a cls d ms, fun a oe cls d pn hz hf => h a oe cls d pn hz hf, fun E D H0 W0 pins W a dd w σ env s H ok hσ hx h => by
    refine ⟨w, dd, hσ, rfl, rfl, hx, H0, W0, pins, W, env, s, ok, ?_⟩
    cases q : ms w env s with
    | ok fl s' =>
      rw [q] at h
      cases fl <;> exact h
    | exc y s' => rw [q] at h; exact h.elim
    | no => rw [q] at h; exact h.elim⟩
theorem xs_ret (he : XE X xr i C fld e m) : XSs X xr i C fld [.Return (some e) pos] (fun w => sRet (m w)) := fun a oe cls d pn hz hf =>
  pss_one (ps_imp (ps_ret (he a oe cls d pn hz hf)) fun D σ H h => by
    obtain ⟨w, dd, h1, h2, h3, h4, H0, W0, pins, W, env, s, ok, h⟩ := h
    refine ⟨w, dd, h1, h2, h3, h4, W.see env σ, viewE env, s, ok.seen, ok.seeWS, ?_⟩
    simp only [sRet] at h
    cases q : m w (viewE env) s with
    | ok d s' =>
      rw [q] at h
      exact fun W' H' u e ws rp => h W' H' u (ok.seeExt0.trans e) ws rp
    | exc x s' =>
      rw [q] at h
      exact fun W' H' c dd e ws rp => h W' H' c dd (ok.seeExt0.trans e) ws rp
    | no => rw [q] at h; exact h)
/-- if t: a (else b), then the rest -/
theorem xs_if {a b : List Stmt} {m1 m2 : MS} (hc : XT X xr i C fld c t) (ha : ∀ (p : Addr) (oe : Obj) (pn : List (Addr × Obj)), ESs (X.suite p ((p, oe) :: pn)) ⟨X.K, xr, E0⟩ a m1) (hb : ∀ (p : Addr) (oe : Obj) (pn : List (Addr × Obj)), ESs (X.suite p ((p, oe) :: pn)) ⟨X.K, xr, E0⟩ b m2) :
    XSs X xr i C fld [.If c a b pos] (fun w => sIf (t w) m1 m2) := fun p oe cls d pn hz hf =>
  pss_one (ps_imp (ps_if (hc p oe cls d pn hz hf) (ha p oe pn) (hb p oe pn)) fun D σ H h => by
    obtain ⟨w, dd, h1, h2, h3, h4, H0, W0, pins, W, env, s, ok, h⟩ := h
    refine ⟨w, dd, h1, h2, h3, h4, ?_⟩
    refine et_read ok h fun W' H' b s' _ ok' h' => ?_
    cases b with
    | true => exact iteT ⟨H0, W0, pins, W', env, s', ok', h'⟩
    | false => exact iteF ⟨H0, W0, pins, W', env, s', ok', h'⟩)
theorem WS.notS {W : Wd} {s : DS} {H : Hp} {p : Addr} {fs : List (Str × V)} (h : WS W s H) (hp : H p = some (.xd fs)) : ¬ W.isS p := by
  rintro ⟨q, hq, hp'⟩
  rcases h.2 with ⟨z, _⟩ | ⟨sa, ca, i, cells, h0, h00, h1, h2, _⟩
  · rw [z] at hq; cases hq
  · rw [h0] at hq
    cases hq
    rcases hp' with rfl | rfl
    · rw [h1] at hp; cases hp
    · rw [h2] at hp; cases hp
/-- a plain x = e ahead -/
theorem xs_set {rest : List Stmt} {ms : Str → MS} (v : Bool) (j : Nat) {x : Str} {pos' : Pos} (hN : X.N.Nodup) (he : ∀ (a : Addr) (oe : Obj) (pn : List (Addr × Obj)), EE (X.suite a ((a, oe) :: pn)) ⟨X.K, xr, E0⟩ b mb) (hr : XSs X xr i C fld rest ms) (hj : X.N[j]? = some x := by rfl) (hji : j ≠ i := by decide) (hx : Loc X.env.scope x := by first | exact .inl rfl | exact .inr rfl) (hs : swapsWith b (some (.Name x pos')) pos.line X.env = pure false := by rfl) (hf : X.fn x = true ∨ X.env.scope.names.lookup x = some .local := by first | exact .inl rfl | exact .inr rfl | assumption) :
    XSs X xr i C fld (.Assign [.Name x pos'] b pos :: rest) (fun w => sSeq (sSet v j mb) (ms w)) := fun a oe cls d pn hz hf' =>
  pss_imp (pss_cons (ps_set (X := X.suite a ((a, oe) :: pn)) hN hj hx (he a oe pn) hs hf) (hr a oe cls d pn hz hf')) fun D σ H h => by
    obtain ⟨w, dd, h1, h2, h3, h4, H0, W0, pins, W, env, s, ok, h⟩ := h
    have e0 : sSeq (sSet v j mb) (ms w) env s = (exq v mb env s).bind fun d s => ms w (env.set j (.val d)) s := by
      simp only [sSeq, sSet]
      cases exq v mb env s <;> rfl
    simp only [] at h
    rw [e0] at h
    refine ex_read ok h fun W' H' u d' s' ex ok' r _ h' => ?_
    refine ⟨w, dd, ?_, h2, h3, ex.keep _ _ h4 (ok.ws.notS h4), H0, W0, pins, W', _, s', ok'.set r, h'⟩
    rw [List.getElem?_set_ne hji]
    exact h1
/-- x.append(error.word) -/
theorem xs_app (v : Bool) (j : Nat) {x : Str} {p1 p2 : Pos} (he : XE X xr i C fld e m)
    (hN : X.N[j]? = some x := by rfl) (hv : Vis X.env.scope x := by first | exact Or.inl rfl | exact Or.inr (Or.inl rfl) | exact Or.inr (Or.inr rfl)) (hd : (x == ("__debug__" : Str)) = false := by decide) (hcd : (x == ("__classdict__" : Str)) = false := by decide)
    (hm : ∀ {te : TE} (a : Addr) (pn : List (Addr × Obj)), PE (X.suite a pn) e te → PE (X.suite a pn) (.Call (.Attribute (.Name x p1) "append" p2) [e] [] pos) (tBM X.K "list" rAppend (tVar j) (tCons te tNil))) {pos' : Pos}
    (hs : swapsWith (.Call (.Attribute (.Name x p1) "append" p2) [e] [] pos) none pos'.line X.env = pure false := by rfl) :
    XSs X xr i C fld [.Expr (.Call (.Attribute (.Name x p1) "append" p2) [e] [] pos) pos'] (fun w => sApp v j (m w)) := fun a oe cls d pn hz hf =>
  pss_one (ps_imp (ps_expr (hm a _ (he a oe cls d pn hz hf)) hs) fun D σ H h => by
    obtain ⟨w, dd, h1, h2, h3, h4, H0, W0, pins, W, env, s, ok, h⟩ := h
    simp only [sApp] at h
    split at h
    · exact h.elim
    · rename_i ds q
      have hi := ownOf_some q
      obtain ⟨p, vs, e1, e2, _, nF, nS, _⟩ := ok.own j ds hi
      refine ⟨_, e1, .inl ⟨rfl, vs, .inl (.inl e2)⟩, w, dd, h1, h2, h3, h4, ?_⟩
      refine ex_read ok h fun W' H' u d s' ex ok' r _ h' => ?_
      split at h'
      · rename_i hz
        obtain ⟨p', vs', f1, f2, f3, _⟩ := ok'.own j ds hi
        rw [e1] at f1
        cases f1
        refine ⟨p, vs', u, rfl, rfl, f2, by rw [f3.length]; exact hz, ?_⟩
        refine h' W' _ σ (ok'.mut (vs' := vs' ++ [u]) hi e1 f2 ?_)
        exact f3.append (by simp only [Reps]; exact ⟨u, [], rfl, r, rfl⟩)
      · exact h'.elim)
end
end
end L2.Mir

set_option Elab.async false
set_option maxRecDepth 100000
set_option maxHeartbeats 1000000
namespace L2.Mir
open PySem PySem.Spec PyProof.Rows
theorem tuple_mul0 (l : Addr) (items : Array Value) (n : Nat) (dd : Option Addr) (sl : Array (Option Value)) (x : Int) (u : Tok) (c0 : (decide (x < -(2 ^ 63)) || decide (x ≥ 2 ^ 63)) = false) (c1 : (items.isEmpty || x == 1) = false) (c2 : (decide (x ≤ 0) || items.isEmpty) = true) :
    Meets (Builtin.«tuple.__mul__» ⟨[.ref l, .int x u], []⟩) (fun _ R s => s.heap.get? l = some { cls := .type "tuple", dict := dd, data := .seq items n, slots := sl } ∧ R (.ok (.ret (Value.ref s.heap.objs.size))) { s with heap := s.heap.push { cls := Value.type "tuple", data := Data.seq #[] }, toks := s.toks }) :=
  .of_wp fun prog w A R s h => by
    obtain ⟨hp, g, d, tk, os⟩ := s
    obtain ⟨hl, h⟩ := h
    have f1 := PySem.AutoSeq1.idx_int
    wp_walk using wpAny_loadPart' hl
    repeat (first
      | (refine wpAny_ite_false (decide_eq_false (by rw [c0]; exact Bool.false_ne_true)) ?_; wp_walk using wpAny_loadPart' hl)
      | (refine wpAny_ite_false (decide_eq_false (by rw [c1]; exact Bool.false_ne_true)) ?_; wp_walk using wpAny_loadPart' hl)
      | (refine wpAny_ite_true (decide_eq_true (by rw [c2])) ?_; wp_walk using wpAny_loadPart' hl))
    exact ⟨_, rfl, h⟩
theorem tuple_mul1 (l : Addr) (items : Array Value) (n : Nat) (dd : Option Addr) (sl : Array (Option Value)) (x : Int) (u : Tok) (c0 : (decide (x < -(2 ^ 63)) || decide (x ≥ 2 ^ 63)) = false) (c1 : (items.isEmpty || x == 1) = true) :
    Meets (Builtin.«tuple.__mul__» ⟨[.ref l, .int x u], []⟩) (fun _ R s => s.heap.get? l = some { cls := .type "tuple", dict := dd, data := .seq items n, slots := sl } ∧ R (.ok (.ret (Value.ref l))) s) :=
  .of_wp fun prog w A R s h => by
    obtain ⟨hp, g, d, tk, os⟩ := s
    obtain ⟨hl, h⟩ := h
    have f1 := PySem.AutoSeq1.idx_int
    wp_walk using wpAny_loadPart' hl
    repeat (first
      | (refine wpAny_ite_false (decide_eq_false (by rw [c0]; exact Bool.false_ne_true)) ?_; wp_walk using wpAny_loadPart' hl)
      | (refine wpAny_ite_true (decide_eq_true (by rw [c1])) ?_; wp_walk using wpAny_loadPart' hl))
    exact ⟨_, rfl, h⟩
def rRepTA (K : PySem.W.Frag) : R2 := fun x y H Q => ∃ l k xs, x = .ref l ∧ y = .int k ∧ SqT K H l xs ∧ -(2 ^ 63) ≤ k ∧ k < 2 ^ 63 ∧ xs.length * k.toNat ≤ 16777216 ∧ ((xs = [] ∨ k = 1) → Q (.ref l) H) ∧
  (xs ≠ [] → k ≠ 1 → ∀ p, H p = none → Q (.ref p) (upd H p (.tup (List.replicate k.toNat xs).flatten)))
theorem op_repTA {X : Cx} : OpR X (binaryOp .Mult) (rRepTA X.K) := by
  intro pins s σ H x y v u Q I rx ry h
  obtain ⟨l, k, xs, rfl, rfl, hT, h1, h2, hz, q1, q2⟩ := h
  cases rx
  obtain ⟨t, rfl⟩ := ry
  obtain ⟨its, r, ⟨⟨cls, dd, data, sl⟩, ho, hc, n, hd⟩, hs⟩ := I.tuple hT
  simp only at hc hd
  subst hc hd
  have hle : its.length = xs.length := r.length.symm
  have c0 : (decide (k < -(2 ^ 63)) || decide (k ≥ 2 ^ 63)) = false := by
    rw [decide_eq_false (by omega), decide_eq_false (by omega)] <;> rfl
  by_cases he : xs = [] ∨ k = 1
  · have c1 : (its.toArray.isEmpty || k == 1) = true := by
      rcases he with rfl | rfl
      · have : its = [] := List.eq_nil_of_length_eq_zero (by simpa using hle)
        subst this
        rfl
      · simp
    refine wpAny_binaryOp_repeat_ref (T := "tuple") (U := "int") (by decide) ⟨_, ho, rfl⟩ (fun s' => typeIs_int s' k t) noFill_tuple_mul PySem.F.fills_int_mul PySem.F.slot_int_rmul repeat_tuple PySem.F.slot_int_index.lookup
      (call_meets PySem.F.slot_int_rmul (typeIs_int s k t) PySem.F.entry_int_rmul (PySem.F.args_int_rmul_2 _ _) (int_rmul_tuple k t l its.toArray n dd sl)
        ⟨ho, rfl, ⟨_, ho, rfl⟩, call_meets PySem.F.slot_tuple_mul ⟨_, ho, rfl⟩ PySem.F.entry_tuple_mul (PySem.F.args_tuple_mul_2 _ _) (tuple_mul1 l its.toArray n dd sl k t c0 c1) ⟨ho, ?_⟩⟩)
    exact ⟨.ref l, H, I, rfl, q1 he⟩
  · have hne : xs ≠ [] := fun e => he (.inl e)
    have hk : k ≠ 1 := fun e => he (.inr e)
    have hn : its ≠ [] := fun e => hne (by
      rw [e] at hle
      exact List.eq_nil_of_length_eq_zero hle.symm)
    have hi : its.toArray.isEmpty = false := by
      cases its with
      | nil => exact absurd rfl hn
      | cons a b => rfl
    have c1 : (its.toArray.isEmpty || k == 1) = false := by
      rw [hi, Bool.false_or]
      exact beq_eq_false_iff_ne.mpr hk
    have hsz0 : its.toArray.size = xs.length := by rw [List.size_toArray, hle]
    by_cases h0 : k ≤ 0
    · have c2 : (decide (k ≤ 0) || its.toArray.isEmpty) = true := by rw [decide_eq_true h0]; rfl
      have e0 : (List.replicate k.toNat xs).flatten = [] := by
        have : k.toNat = 0 := by omega
        rw [this]; rfl
      refine wpAny_binaryOp_repeat_ref (T := "tuple") (U := "int") (by decide) ⟨_, ho, rfl⟩ (fun s' => typeIs_int s' k t) noFill_tuple_mul PySem.F.fills_int_mul PySem.F.slot_int_rmul repeat_tuple PySem.F.slot_int_index.lookup
        (call_meets PySem.F.slot_int_rmul (typeIs_int s k t) PySem.F.entry_int_rmul (PySem.F.args_int_rmul_2 _ _) (int_rmul_tuple k t l its.toArray n dd sl)
          ⟨ho, rfl, ⟨_, ho, rfl⟩, call_meets PySem.F.slot_tuple_mul ⟨_, ho, rfl⟩ PySem.F.entry_tuple_mul (PySem.F.args_tuple_mul_2 _ _) (tuple_mul0 l its.toArray n dd sl k t c0 c1 c2) ⟨ho, ?_⟩⟩)
      refine ⟨.ref s.heap.objs.size, _, I.laid (t' := s.toks) (o := .tup (List.replicate k.toNat xs).flatten) (fun b ob q => Heap.get?_push_of_some _ q) (Nat.le_refl _) ?_, rfl, q2 hne hk _ (I.hok.fresh (Nat.le_refl _))⟩
      rw [e0]
      exact ⟨by simp, [], .nil, IsTup.new _ _⟩
    · have hm : its.toArray.size * k.toNat ≤ 16777216 := by rw [hsz0]; exact hz
      have hm' : ((its.toArray.size : Nat) : Int) * k ≤ 16777216 := by
        have e : k = (k.toNat : Int) := by omega
        rw [e]
        have := Int.ofNat_le.mpr hm
        simpa using this
      have flen : (List.replicate k.toNat its).flatten.length ≤ sizeLine := by
        rw [PyProof.Rows.lm_len_rep_flat, hle, sizeLine_eq, Nat.mul_comm]
        omega
      have c2 : (decide (k ≤ 0) || its.toArray.isEmpty) = false := by
        rw [hi, Bool.or_false]
        exact decide_eq_false (by omega)
      have c4 : Builtin.Tuple.tupleTooMany (((its.toArray.size : Nat) : Int) * k) = false := by
        unfold Builtin.Tuple.tupleTooMany
        rw [sizeLine_eq]
        exact decide_eq_false (by omega)
      refine wpAny_binaryOp_repeat_ref (T := "tuple") (U := "int") (by decide) ⟨_, ho, rfl⟩ (fun s' => typeIs_int s' k t) noFill_tuple_mul PySem.F.fills_int_mul PySem.F.slot_int_rmul repeat_tuple PySem.F.slot_int_index.lookup
        (call_meets PySem.F.slot_int_rmul (typeIs_int s k t) PySem.F.entry_int_rmul (PySem.F.args_int_rmul_2 _ _) (int_rmul_tuple k t l its.toArray n dd sl)
          ⟨ho, rfl, ⟨_, ho, rfl⟩, call_meets PySem.F.slot_tuple_mul ⟨_, ho, rfl⟩ PySem.F.entry_tuple_mul (PySem.F.args_tuple_mul_2 _ _) (tuple_mulW l its.toArray n dd sl k t c0 c1 c2 (by omega) c4 (by rw [size_rep, List.size_toArray]; exact flen)) ⟨ho, ?_⟩⟩)
      rw [size_rep]
      refine ⟨.ref s.heap.objs.size, _, I.laid (t' := s.toks) (o := .tup (List.replicate k.toNat xs).flatten) (fun b ob q => Heap.get?_push_of_some _ q) (Nat.le_refl _) ?_, rfl, q2 hne hk _ (I.hok.fresh (Nat.le_refl _))⟩
      exact ⟨by rw [PyProof.Rows.lm_len_rep_flat, sizeLine_eq, Nat.mul_comm]; exact hz, _, r.rep k.toNat, IsTup.new _ _⟩
noncomputable section
section
variable {X : Cx} {G : Gx}
/-- * with a tuple, too -/
@[simp] def opMulT (x y : D) : M D := fun s => match x, y with
  | .int i, .int j => if mulOk i j = true then .ok (.int (i * j)) s else .no
  | .lst a, .int k => if RngOk k ∧ LenOk (a.length * k.toNat) then .ok (.lst (List.replicate k.toNat a).flatten) s else .no
  | .tup a, .int k => if RngOk k ∧ LenOk (a.length * k.toNat) then .ok (.tup (List.replicate k.toNat a).flatten) s else .no
  | _, _ => .no
abbrev rMulT (K : PySem.W.Frag) : R2 := fun x y H Q => (fun x y H Q => (rI CMulM fun i j => V.int (i * j)) x y H Q ∨ rRep x y H Q) x y H Q ∨ rRepTA K x y H Q
theorem or_mulT : OpR X (binaryOp .Mult) (rMulT X.K) := or_mul.or op_repTA
theorem rb_mulT : RB G (rMulT G.K) opMulT := by
  intro W H s x y v u Q hs rx ry h
  unfold opMulT at h
  split at h
  · split at h
    · rename_i hz; exact .inl (.inl ⟨_, _, rep_int rx, rep_int ry, hz, h.now hs (by simp)⟩)
    · exact h.elim
  · split at h
    · rename_i hz
      obtain ⟨a, vs, rfl, h1, f1, r1⟩ := rep_lst rx
      have l1 := r1.length
      exact .inl (.inr ⟨a, _, vs, rfl, rep_int ry, h1, by have := hz.1.1; omega, by have := hz.1.2; omega, by rw [l1]; exact hz.2, fun p hp => h.lst hs (r1.rep _) hp⟩)
    · exact h.elim
  · split at h
    · rename_i ds k hz
      obtain ⟨a, vs, rfl, h1, r1⟩ := rep_tup rx
      have l1 := r1.length
      refine .inr ⟨a, _, vs, rfl, rep_int ry, h1, by have := hz.1.1; omega, by have := hz.1.2; omega, by rw [l1]; have := hz.2.le; rw [sizeLine_eq] at this; exact this, fun e => ?_, fun _ _ p hp => h.tup hs (r1.rep _) hp⟩
      rcases e with e | e
      · have e2 : ds = [] := List.eq_nil_of_length_eq_zero (by rw [← l1, e]; rfl)
        subst e2
        have e3 : (List.replicate k.toNat ([] : List D)).flatten = [] := by simp
        rw [e3] at h
        exact h.now hs rx
      · subst e
        have e3 : (List.replicate (Int.toNat 1) ds).flatten = ds := by simp
        rw [e3] at h
        exact h.now hs rx
    · exact h.elim
  · exact h.elim
/-- a module's constant int, told by existence -/
theorem ee_gintE {x : Str} {i : Int} {pos : Pos} (hg : Gl X x) (hm : ∃ t, X.mg x = some (.int i t)) (hd : (x == ("__debug__" : Str)) = false := by decide) : EE X G (.Name x pos) (mC (.int i)) := by
  obtain ⟨t, hm⟩ := hm
  exact ee_gint hg hm hd
end
end
end L2.Mir

set_option Elab.async false
set_option linter.all false
set_option maxRecDepth 100000
namespace HT
open PySem PySem.Spec PyProof.Rows
section
variable {prog : Program} {w : World} {A : Around} {E : Value → Shared → Prop} {s : Shared}
theorem sliceApplied_rev {sl : Addr} {vl vu vs : Value} {n : Nat} {Q : Int × Int × Nat → Shared → Prop} (hs : s.heap.IsSliceOf sl vl vu vs) (pl : IsPart vl none) (pu : IsPart vu none) (ps : IsPart vs (some (-1)))
    (h : Q ((n : Int) - 1, -1, n) s) : wpAny (model prog w) A (Builtin.Slice.sliceApplied (.ref sl) (pure (n : Int))) Q E s := by
  obtain ⟨os, hos, hcs, hds⟩ := id hs
  unfold Builtin.Slice.sliceApplied Builtin.Slice.sliceFields
  refine wpAny_bind (wpAny_bind (wpAny_field hos hds (x := vl) rfl (wpAny_bind (wpAny_field hos hds (x := vu) rfl (wpAny_bind (wpAny_field hos hds (x := vs) rfl (wpAny_pure ?_)))))))
  refine wpAny_bind (slicePart_ ps ?_)
  show wpAny _ _ (if ((-1 : Int) == 0) = true then _ else _) _ _ s
  rw [if_neg (by decide)]
  refine wpAny_bind (slicePart_ pl (wpAny_bind (slicePart_ pu (wpAny_bind (wpAny_pure ?_)))))
  show wpAny _ _ (match Builtin.Slice.sliceAdjust none none (-1) (n : Int) with | (lo, hi) => pure (lo, (-1 : Int), Builtin.Slice.slicePlaces lo hi (-1))) _ _ s
  have e1 : Builtin.Slice.sliceAdjust none none (-1) (n : Int) = ((n : Int) - 1, -1) := rfl
  rw [e1]
  show wpAny _ _ (pure ((n : Int) - 1, (-1 : Int), Builtin.Slice.slicePlaces ((n : Int) - 1) (-1) (-1))) _ _ s
  have e2 : Builtin.Slice.slicePlaces ((n : Int) - 1) (-1) (-1) = n := by
    unfold Builtin.Slice.slicePlaces
    split
    · omega
    · simp; omega
  rw [e2]
  exact wpAny_pure h
theorem fm_congr {α β : Type} {f g : α → Option β} : ∀ {l : List α}, (∀ a ∈ l, f a = g a) → l.filterMap f = l.filterMap g
  | [], _ => rfl
  | a :: l, h => by
    rw [List.filterMap_cons, List.filterMap_cons, h a List.mem_cons_self, fm_congr fun b hb => h b (List.mem_cons_of_mem _ hb)]
theorem pick_rev (xs : Array Value) : ((List.range xs.size).filterMap fun (m : Nat) => xs[((xs.size : Int) - 1 + (m : Int) * (-1)).toNat]?).toArray = xs.toList.reverse.toArray := by
  congr 1
  have e : ∀ m ∈ List.range xs.size, xs[((xs.size : Int) - 1 + (m : Int) * (-1)).toNat]? = xs.toList.reverse[m]? := by
    intro m hm
    have hm := List.mem_range.mp hm
    have e1 : ((xs.size : Int) - 1 + (m : Int) * (-1)).toNat = xs.size - 1 - m := by omega
    rw [e1, List.getElem?_reverse (by simpa using hm)]
    simp
  rw [fm_congr e]
  have e2 : xs.size = xs.toList.reverse.length := by simp
  rw [e2]
  generalize xs.toList.reverse = ys
  clear e e2
  induction ys with
  | nil => rfl
  | cons y ys ih =>
    rw [List.length_cons, List.range_succ_eq_map, List.filterMap_cons, List.filterMap_map]
    simp only [List.getElem?_cons_zero]
    congr 1
theorem getItem_tuple_rev {t sl : Addr} {items : Array Value} {vl vu vs : Value} {Q : Value → Shared → Prop} (ht : IsTup s.heap t items) (hs : s.heap.IsSliceOf sl vl vu vs) (pl : IsPart vl none) (pu : IsPart vu none) (ps : IsPart vs (some (-1)))
    (h : Q (.ref s.heap.objs.size) { s with heap := s.heap.push { cls := .type "tuple", data := .seq items.toList.reverse.toArray } })
    (hsz : items.size ≤ sizeLine) : wpAny (model prog w) A (getItem (.ref t) (.ref sl)) Q E s := by
  have htake : sizeOk (.seq items.toList.reverse.toArray) := by
    show items.toList.reverse.toArray.size ≤ sizeLine
    rw [List.size_toArray, List.length_reverse, Array.length_toList]
    omega
  obtain ⟨os, hos, hcs, hds⟩ := id hs
  have hTs : s.TypeIs (.ref sl) "slice" := ⟨os, hos, hcs⟩
  unfold getItem
  try with_reducible refine wpAny_holding ?_
  first | refine wpAny_bind (wpAny_pure ?_) | skip
  refine wpAny_bind (wpAny_sequenceKey ht.typeIs (by decide) ?_)
  refine wpAny_bind (wpAny_callSpecial?_slot (name := Str.ofString "__getitem__") ht.typeIs PyProof.Rows.slot_tuple_getitem
    (wpAny_call_entry PyProof.Rows.slot_tuple_getitem ht.typeIs entry_tuple_getitem ?_ (args_tuple_getitem _ _)))
  show wpAny _ _ (Builtin.Tuple.tupleItemsOf (.ref t) >>= _) _ _ s
  refine wpAny_bind (tupleItemsOf_ ht ?_)
  refine wpAny_bind (wpAny_typeOf hTs ?_)
  rw [if_pos (by decide)]
  refine wpAny_bind (sliceApplied_rev hs pl pu ps ?_)
  have hno : ¬ ((((items.size : Int) - 1) == 0 && (-1 : Int) == 1 && items.size == items.size) = true) := by
    intro q
    rw [Bool.and_eq_true, Bool.and_eq_true] at q
    exact absurd q.1.2 (by decide)
  show wpAny _ _ (if ((((items.size : Int) - 1) == 0 && (-1 : Int) == 1 && items.size == items.size) = true) then _ else _) _ _ s
  rw [if_neg hno, pick_rev]
  first
    | exact wpAny_bind (m := Builtin.Tuple.tupleExact _) (wpAny_newObj_type (wpAny_pure ⟨_, rfl, wpAny_pure h⟩) htake)
    | exact wpAny_bind (m := Builtin.Tuple.tupleExact _) (wpAny_newObj_type (wpAny_bind (wpAny_pure (wpAny_pure ⟨_, rfl, wpAny_pure h⟩))) htake)
    | exact wpAny_bind (wpAny_bind (m := Builtin.Tuple.tupleExact _) (wpAny_newObj_type (wpAny_pure (wpAny_pure ⟨_, rfl, wpAny_pure h⟩)) htake))
    | exact wpAny_bind (wpAny_bind (m := Builtin.Tuple.tupleExact _) (wpAny_newObj_type (wpAny_pure ⟨_, rfl, wpAny_pure h⟩) htake))
end
end HT
namespace L2.Mir
open PySem PySem.Spec PyProof.Rows
def tRevA (K : PySem.W.Frag) (te : TE) : TE := fun σ H Q => te σ H fun x H1 => ∃ a xs, x = .ref a ∧ ((SqL K H1 a xs ∧ ∀ p, H1 p = none → Q (.ref p) (upd H1 p (.lst xs.reverse))) ∨ (SqT K H1 a xs ∧ ∀ p, H1 p = none → Q (.ref p) (upd H1 p (.tup xs.reverse))))
theorem pe_revA {X : Cx} {e : Expr} {te : TE} {k : Nat} {p1 p2 p3 pos : Pos} (he : PE X e te) : PE X (.Subscript e (.Slice none none (some (.UnaryOp .USub (.Constant (.int 1) k p1) p2)) p3) pos) (tRevA X.K te) := by
  refine ⟨fun pins s σ H Q I h => ?_⟩
  refine Subscript_ (thn (he.run pins s σ H _ I h) fun v s1 ⟨x, H1, I1, r1, q1⟩ => ?_)
  obtain ⟨a, xs, ex, q1⟩ := q1
  subst ex
  cases r1
  have hst : PO X (some (.UnaryOp .USub (.Constant (.int 1) k p1) p2)) (tPart (tUn (rU fun i => .int (-i)) (tC (.int 1)))) := po_some (pe_un un_neg pe_int)
  refine wpAny_Slice (thn (po_none.run pins s1 σ H1 (fun o H2 => o = none ∧ H2 = H1) I1 ⟨rfl, rfl⟩) fun vl s2 ⟨l, H2, I2, pl, el, e2⟩ => ?_)
  subst el e2
  refine thn (po_none.run pins s2 σ H2 (fun o H3 => o = none ∧ H3 = H2) I2 ⟨rfl, rfl⟩) fun vu s3 ⟨u, H3, I3, pu, eu, e3⟩ => ?_
  subst eu e3
  refine thn (hst.run pins s3 σ H3 (fun o H4 => o = some (-1) ∧ H4 = H3) I3 ⟨1, rfl, -1, rfl, rfl, rfl⟩) fun vs s4 ⟨o, H4, I4, ps, eo, e4⟩ => ?_
  subst eo e4
  have I5 : Inv X pins σ H4 { s4 with heap := s4.heap.push { cls := .type "slice", data := .fields #[vl, vu, vs] } } := I4.kept (t' := s4.toks) fun b ob q => Heap.get?_push_of_some _ q
  rcases q1 with ⟨hx, q⟩ | ⟨hx, q⟩
  · obtain ⟨its, r, ht, hz⟩ := I5.list hx
    have hlen := r.length
    show wpAny (model X.prog X.w) X.A (subscriptTail e (.Slice none none (some (.UnaryOp .USub (.Constant (.int 1) k p1) p2)) p3) (.ref a) (.ref s4.heap.objs.size)) (EP X pins σ Q) X.xe { s4 with heap := s4.heap.push { cls := .type "slice", data := .fields #[vl, vu, vs] } }
    refine tail_any (ops := [.ref a, .ref s4.heap.objs.size]) ht.isList.typeIs (PySem.slot_list_getitem.lookup) ?_ (by with_unfolding_all rfl)
    refine wpAny_getItem_list_slice ht.isList (Heap.IsSliceOf.new _ vl vu vs) pl pu ps (by decide) ?_ (by rw [List.size_toArray]; omega)
    rw [PySem.W.krv_pick]
    refine ⟨.ref _, _, I5.laid (t' := s4.toks) (o := .lst xs.reverse) (fun b ob q => Heap.get?_push_of_some _ q) (Nat.le_refl _) ?_, rfl, q _ (I5.hok.fresh (Nat.le_refl _))⟩
    exact ⟨by rw [List.length_reverse]; exact hz, _, 0, r.reverse, Heap.get?_push_size _ rfl⟩
  · obtain ⟨its, r, ht, hz⟩ := I5.tuple hx
    have hlen := r.length
    show wpAny (model X.prog X.w) X.A (subscriptTail e (.Slice none none (some (.UnaryOp .USub (.Constant (.int 1) k p1) p2)) p3) (.ref a) (.ref s4.heap.objs.size)) (EP X pins σ Q) X.xe { s4 with heap := s4.heap.push { cls := .type "slice", data := .fields #[vl, vu, vs] } }
    refine tail_any (ops := [.ref a, .ref s4.heap.objs.size]) ht.typeIs (PyProof.Rows.slot_tuple_getitem.lookup) ?_ (by with_unfolding_all rfl)
    refine HT.getItem_tuple_rev ht (Heap.IsSliceOf.new _ vl vu vs) pl pu ps ?_ (by rw [List.size_toArray]; omega)
    refine ⟨.ref _, _, I5.laid (t' := s4.toks) (o := .tup xs.reverse) (fun b ob q => Heap.get?_push_of_some _ q) (Nat.le_refl _) ?_, rfl, q _ (I5.hok.fresh (Nat.le_refl _))⟩
    exact ⟨by rw [List.length_reverse]; exact hz, _, r.reverse, IsTup.new _ _⟩
noncomputable section
@[simp] def mRevA (m : VE → M D) : VE → M D := fun env s => (m env s).bind fun d s => match d with
  | .lst ds => .ok (.lst ds.reverse) s
  | .tup ds => .ok (.tup ds.reverse) s
  | _ => .no
theorem ee_revA {X : Cx} {G : Gx} {a : Expr} {ma : VE → M D} {pos : Pos} {k : Nat} {p1 p2 p3 : Pos} (hK : X.K = G.K) (ha : EE X G a ma) : EE X G (.Subscript a (.Slice none none (some (.UnaryOp .USub (.Constant (.int 1) k p1) p2)) p3) pos) (mRevA ma) :=
  pe_imp (pe_revA ha) fun σ H Q h => by
    obtain ⟨W, env, s, hen, hs, h⟩ := h
    refine tM_bind hen hs h fun W1 H1 v x s1 e1 he1 hs1 rx _ h1 => ?_
    split at h1
    · obtain ⟨p, vs, rfl, g1, _, r1⟩ := rep_lst rx
      exact ⟨p, vs, rfl, .inl ⟨.inl (.inl g1), fun p' hp => h1.lst hs1 r1.reverse hp⟩⟩
    · obtain ⟨p, vs, rfl, g1, r1⟩ := rep_tup rx
      exact ⟨p, vs, rfl, .inr ⟨hK ▸ g1, fun p' hp => h1.tup hs1 r1.reverse hp⟩⟩
    · exact h1.elim
end
end L2.Mir

set_option Elab.async false
set_option linter.all false
set_option maxRecDepth 100000
namespace L2.Mir
/-! ### polynomials as rows of numbers, the least power first -/
def ev : List Rat → Rat → Rat
  | [], _ => 0
  | a :: l, x => a + x * ev l x
def padd : List Rat → List Rat → List Rat
  | [], m => m
  | l, [] => l
  | a :: l, b :: m => (a + b) :: padd l m
def pmul : List Rat → List Rat → List Rat
  | [], _ => []
  | a :: l, m => padd (m.map (a * ·)) (0 :: pmul l m)
def trim : List Rat → List Rat
  | [] => []
  | a :: l => if trim l = [] ∧ a = 0 then [] else a :: trim l
/-- the derivative, behind k -/
def pderK : Nat → List Rat → List Rat
  | _, [] => []
  | k, a :: l => (a * k) :: pderK (k + 1) l
def pder (l : List Rat) : List Rat := pderK 1 l.tail
@[simp] theorem ev_nil (x : Rat) : ev [] x = 0 := rfl
@[simp] theorem ev_cons (a : Rat) (l : List Rat) (x : Rat) : ev (a :: l) x = a + x * ev l x := rfl
@[simp] theorem trim_nil : trim [] = [] := rfl
theorem padd_nil_r (l : List Rat) : padd l [] = l := by cases l <;> rfl
@[simp] theorem padd_nil_l (l : List Rat) : padd [] l = l := by cases l <;> rfl
theorem ev_padd : ∀ (l m : List Rat) (x : Rat), ev (padd l m) x = ev l x + ev m x
  | [], m, x => by rw [padd_nil_l]; simp only [ev_nil]; grind
  | a :: l, [], x => by rw [padd_nil_r]; simp only [ev_nil]; grind
  | a :: l, b :: m, x => by simp only [padd, ev_cons, ev_padd l m x]; grind
theorem ev_mapL (a : Rat) : ∀ (l : List Rat) (x : Rat), ev (l.map (a * ·)) x = a * ev l x
  | [], x => by simp only [List.map_nil, ev_nil]; grind
  | b :: l, x => by simp only [List.map_cons, ev_cons, ev_mapL a l x]; grind
theorem ev_mapR (a : Rat) : ∀ (l : List Rat) (x : Rat), ev (l.map (· * a)) x = ev l x * a
  | [], x => by simp only [List.map_nil, ev_nil]; grind
  | b :: l, x => by simp only [List.map_cons, ev_cons, ev_mapR a l x]; grind
theorem ev_pmul : ∀ (l m : List Rat) (x : Rat), ev (pmul l m) x = ev l x * ev m x
  | [], m, x => by simp only [pmul, ev_nil]; grind
  | a :: l, m, x => by simp only [pmul, ev_padd, ev_mapL, ev_cons, ev_pmul l m x]; grind
theorem ev_trim : ∀ (l : List Rat) (x : Rat), ev (trim l) x = ev l x
  | [], _ => rfl
  | a :: l, x => by
    have ih := ev_trim l x
    unfold trim
    split
    · rename_i h
      rw [h.1] at ih
      simp only [ev_nil] at ih
      simp only [ev_nil, ev_cons, ← ih, h.2]; grind
    · simp only [ev_cons, ih]
theorem ev_append : ∀ (l m : List Rat) (x : Rat), ev (l ++ m) x = ev l x + x ^ l.length * ev m x
  | [], m, x => by simp only [List.nil_append, ev_nil, List.length_nil]; grind
  | a :: l, m, x => by
    simp only [List.cons_append, ev_cons, ev_append l m x, List.length_cons, Rat.pow_succ]; grind
theorem ev_rep0 : ∀ (n : Nat) (x : Rat), ev (List.replicate n 0) x = 0
  | 0, x => rfl
  | n + 1, x => by simp only [List.replicate_succ, ev_cons, ev_rep0 n x]; grind
/-- bounds near 0 -/
def absR (a : Rat) : Rat := if a < 0 then -a else a
theorem absR_nonneg (a : Rat) : 0 ≤ absR a := by unfold absR; split <;> grind
theorem absR_mul (a b : Rat) : absR (a * b) = absR a * absR b := by
  unfold absR
  by_cases ha : a < 0 <;> by_cases hb : b < 0
  · have : 0 < -a * -b := Rat.mul_pos (by grind) (by grind)
    have h : ¬ a * b < 0 := by grind
    simp only [ha, hb, h, if_true, if_false]; grind
  · have : 0 ≤ -a * b := Rat.mul_nonneg (by grind) (by grind)
    by_cases h : a * b < 0
    · simp only [ha, hb, h, if_true, if_false]; grind
    · have : a * b = 0 := by grind
      simp only [ha, hb, h, if_true, if_false]; grind
  · have : 0 ≤ a * -b := Rat.mul_nonneg (by grind) (by grind)
    by_cases h : a * b < 0
    · simp only [ha, hb, h, if_true, if_false]; grind
    · have : a * b = 0 := by grind
      simp only [ha, hb, h, if_true, if_false]; grind
  · have : 0 ≤ a * b := Rat.mul_nonneg (by grind) (by grind)
    have h : ¬ a * b < 0 := by grind
    simp only [ha, hb, h, if_false]
theorem absR_add (a b : Rat) : absR (a + b) ≤ absR a + absR b := by unfold absR; split <;> split <;> split <;> grind
theorem ev_bound : ∀ (l : List Rat), ∃ M : Rat, 0 ≤ M ∧ ∀ x : Rat, 0 ≤ x → x ≤ 1 → absR (ev l x) ≤ M
  | [] => ⟨0, by decide, fun x _ _ => by simp only [ev_nil]; decide⟩
  | a :: l => by
    obtain ⟨M, h0, h⟩ := ev_bound l
    refine ⟨absR a + M, by have := absR_nonneg a; grind, fun x x0 x1 => ?_⟩
    have h1 := absR_add a (x * ev l x)
    have h2 := h x x0 x1
    have h3 : absR (x * ev l x) ≤ M := by
      rw [absR_mul]
      have e : absR x = x := by unfold absR; split <;> grind
      rw [e]
      have h4 : x * absR (ev l x) ≤ 1 * absR (ev l x) := Rat.mul_le_mul_of_nonneg_right x1 (absR_nonneg _)
      grind
    simp only [ev_cons]
    grind
/-- a row whose value is 0 from 0 to 1 holds noughts alone -/
theorem ev_zero : ∀ (l : List Rat), (∀ x : Rat, 0 < x → x < 1 → ev l x = 0) → ∀ a ∈ l, a = 0
  | [], _, a, h => by cases h
  | b :: l, h, a, ha => by
    obtain ⟨M, h0, hM⟩ := ev_bound l
    have hb : b = 0 := by
      by_cases e : b = 0
      · exact e
      · exfalso
        have hp : 0 < absR b := by unfold absR; split <;> grind
        -- x below 1 and below |b| / (M + 1)
        have hM1 : 0 < M + 1 + absR b := by grind
        let x := absR b / (M + 1 + absR b)
        have x0 : 0 < x := by show 0 < absR b / (M + 1 + absR b); rw [Rat.div_def]; exact Rat.mul_pos hp (Rat.inv_pos.mpr hM1)
        have hx : x * (M + 1 + absR b) = absR b := Rat.div_mul_cancel (by grind)
        have x1 : x < 1 := by
          by_cases q : x < 1
          · exact q
          · have : 1 * (M + 1 + absR b) ≤ x * (M + 1 + absR b) := Rat.mul_le_mul_of_nonneg_right (by grind) (by grind)
            grind
        have h1 := h x x0 x1
        simp only [ev_cons] at h1
        have h2 := hM x (by grind) (by grind)
        have h3 : absR b = x * absR (ev l x) := by
          have : b = -(x * ev l x) := by grind
          have e2 : absR b = absR (x * ev l x) := by rw [this]; unfold absR; split <;> split <;> grind
          rw [e2, absR_mul]
          have e : absR x = x := by unfold absR; split <;> grind
          rw [e]
        have h4 : x * absR (ev l x) ≤ x * M := Rat.mul_le_mul_of_nonneg_left h2 (by grind)
        have h5 : 0 < x * absR b := Rat.mul_pos x0 hp
        grind
    rcases List.mem_cons.mp ha with rfl | ha
    · exact hb
    · refine ev_zero l (fun x x0 x1 => ?_) a ha
      have h1 := h x x0 x1
      simp only [ev_cons, hb] at h1
      have h2 : x * ev l x = 0 := by grind
      rcases Rat.mul_eq_zero.mp h2 with q | q
      · grind
      · exact q
theorem trim_zero : ∀ {l : List Rat}, (∀ a ∈ l, a = 0) → trim l = []
  | [], _ => rfl
  | a :: l, h => by
    unfold trim
    rw [if_pos ⟨trim_zero fun b hb => h b (List.mem_cons_of_mem _ hb), h a List.mem_cons_self⟩]
/-- rows of the same values are the same, trimmed -/
theorem trim_ext01 : ∀ (l m : List Rat), (∀ x : Rat, 0 < x → x < 1 → ev l x = ev m x) → trim l = trim m
  | [], m, h => by rw [trim_nil, trim_zero]; exact ev_zero m fun x x0 x1 => (h x x0 x1).symm
  | a :: l, [], h => by rw [trim_nil, trim_zero]; exact ev_zero _ fun x x0 x1 => h x x0 x1
  | a :: l, b :: m, h => by
    have hd : ev (padd (a :: l) ((b :: m).map (-1 * ·))) = fun x => ev (a :: l) x - ev (b :: m) x := by
      funext x; rw [ev_padd, ev_mapL]; grind
    have hz := ev_zero (padd (a :: l) ((b :: m).map (-1 * ·))) fun x x0 x1 => by rw [hd]; have := h x x0 x1; grind
    have hab : a = b := by
      have := hz (a + -1 * b) (by simp [padd])
      grind
    subst hab
    have ih := trim_ext01 l m fun x x0 x1 => by
      have := h x x0 x1
      simp only [ev_cons] at this
      have h2 : x * (ev l x - ev m x) = 0 := by grind
      rcases Rat.mul_eq_zero.mp h2 with q | q
      · grind
      · grind
    simp only [trim, ih]
theorem trim_ext {l m : List Rat} (h : ∀ x : Rat, ev l x = ev m x) : trim l = trim m := trim_ext01 l m fun x _ _ => h x
theorem trim_eq_iff {l m : List Rat} : trim l = trim m ↔ ∀ x : Rat, ev l x = ev m x :=
  ⟨fun h x => by rw [← ev_trim l, h, ev_trim], trim_ext⟩
theorem trim_trim (l : List Rat) : trim (trim l) = trim l := trim_ext fun x => ev_trim l x
theorem trim_mem : ∀ {l : List Rat} {a : Rat}, a ∈ trim l → a ∈ l
  | [], a, h => h
  | b :: l, a, h => by
    unfold trim at h
    split at h
    · cases h
    · rcases List.mem_cons.mp h with rfl | h
      · exact List.mem_cons_self
      · exact List.mem_cons_of_mem _ (trim_mem h)
theorem trim_len : ∀ (l : List Rat), (trim l).length ≤ l.length
  | [] => by simp
  | a :: l => by
    have := trim_len l
    unfold trim
    split
    · simp
    · simp; exact this
theorem padd_len : ∀ (l m : List Rat), (padd l m).length = max l.length m.length
  | [], m => by simp
  | a :: l, [] => by rw [padd_nil_r]; simp
  | a :: l, b :: m => by simp only [padd, List.length_cons, padd_len l m]; omega
theorem pmul_len : ∀ (l m : List Rat), (pmul l m).length ≤ l.length + m.length
  | [], m => by simp [pmul]
  | a :: l, m => by
    have := pmul_len l m
    simp only [pmul, padd_len, List.length_map, List.length_cons]
    omega
/-- derivatives -/
theorem ev_pderK : ∀ (k : Nat) (l : List Rat) (x : Rat), ev (pderK (k + 1) l) x = ev (pderK k l) x + ev l x
  | k, [], x => by simp only [pderK, ev_nil]; grind
  | k, a :: l, x => by
    simp only [pderK, ev_cons]
    rw [ev_pderK (k + 1) l x]
    have : (((k + 1 : Nat)) : Rat) = (k : Rat) + 1 := by simp
    rw [this]; grind
theorem ev_pder_cons (a : Rat) (l : List Rat) (x : Rat) : ev (pder (a :: l)) x = ev l x + x * ev (pder l) x := by
  unfold pder
  rw [List.tail_cons]
  cases l with
  | nil => simp only [pderK, ev_nil, List.tail_nil]; grind
  | cons b m =>
    rw [List.tail_cons]
    have h := ev_pderK 0 (b :: m) x
    rw [h]
    simp only [pderK, ev_cons]
    have : ((0 : Nat) : Rat) = 0 := rfl
    rw [this]; grind
theorem ev_pder_padd : ∀ (l m : List Rat) (x : Rat), ev (pder (padd l m)) x = ev (pder l) x + ev (pder m) x
  | [], m, x => by rw [padd_nil_l]; simp only [pder, List.tail_nil, pderK, ev_nil]; grind
  | a :: l, [], x => by
    rw [padd_nil_r]
    have : ev (pder []) x = 0 := rfl
    rw [this]; grind
  | a :: l, b :: m, x => by
    simp only [padd]
    rw [ev_pder_cons, ev_pder_cons, ev_pder_cons, ev_pder_padd l m x, ev_padd]; grind
theorem ev_pder_map (c : Rat) : ∀ (l : List Rat) (x : Rat), ev (pder (l.map (c * ·))) x = c * ev (pder l) x
  | [], x => by simp only [pder, List.map_nil, List.tail_nil, pderK, ev_nil]; grind
  | a :: l, x => by rw [List.map_cons, ev_pder_cons, ev_pder_cons, ev_mapL, ev_pder_map c l x]; grind
theorem ev_pder_mul : ∀ (l m : List Rat) (x : Rat), ev (pder (pmul l m)) x = ev (pder l) x * ev m x + ev l x * ev (pder m) x
  | [], m, x => by simp only [pmul, pder, List.tail_nil, pderK, ev_nil]; grind
  | a :: l, m, x => by
    simp only [pmul]
    rw [ev_pder_padd, ev_pder_map, ev_pder_cons, ev_pder_cons, ev_pder_mul l m x, ev_pmul, ev_cons]; grind
/-- the derivative goes by values -/
theorem pder_zero {l : List Rat} (h : ∀ a ∈ l, a = 0) : ∀ x, ev (pder l) x = 0 := by
  have key : ∀ (l : List Rat) (k : Nat), (∀ a ∈ l, a = 0) → ∀ x, ev (pderK k l) x = 0 := by
    intro l
    induction l with
    | nil => intros; rfl
    | cons a l ih =>
      intro k h x
      simp only [pderK, ev_cons, ih (k + 1) (fun b hb => h b (List.mem_cons_of_mem _ hb)) x, h a List.mem_cons_self]; grind
  intro x
  exact key _ _ (fun a ha => h a (List.mem_of_mem_tail ha)) x
theorem pder_ext {l m : List Rat} (h : ∀ x, ev l x = ev m x) (x : Rat) : ev (pder l) x = ev (pder m) x := by
  have h1 := ev_zero (padd l (m.map (-1 * ·))) fun x _ _ => by rw [ev_padd, ev_mapL, h x]; grind
  have h2 := pder_zero h1 x
  rw [ev_pder_padd, ev_pder_map] at h2
  grind
end L2.Mir

set_option Elab.async false
set_option linter.all false
set_option maxRecDepth 100000
namespace L2.Mir
/-! ### sums, lots -/
def sumTo : Nat → (Nat → Rat) → Rat
  | 0, _ => 0
  | n + 1, f => sumTo n f + f n
@[simp] theorem sumTo_zero (f : Nat → Rat) : sumTo 0 f = 0 := rfl
theorem sumTo_succ (n : Nat) (f : Nat → Rat) : sumTo (n + 1) f = sumTo n f + f n := rfl
theorem sumTo_front (f : Nat → Rat) : ∀ n, sumTo (n + 1) f = f 0 + sumTo n fun k => f (k + 1)
  | 0 => by simp only [sumTo]; grind
  | n + 1 => by rw [sumTo_succ, sumTo_front f n, sumTo_succ]; grind
theorem sumTo_congr {f g : Nat → Rat} : ∀ {n : Nat}, (∀ k, k < n → f k = g k) → sumTo n f = sumTo n g
  | 0, _ => rfl
  | n + 1, h => by rw [sumTo_succ, sumTo_succ, sumTo_congr fun k hk => h k (by omega), h n (by omega)]
theorem sumTo_add (f g : Nat → Rat) : ∀ n, sumTo n (fun k => f k + g k) = sumTo n f + sumTo n g
  | 0 => by simp only [sumTo]; grind
  | n + 1 => by rw [sumTo_succ, sumTo_succ, sumTo_succ, sumTo_add f g n]; grind
theorem sumTo_mul (c : Rat) (f : Nat → Rat) : ∀ n, sumTo n (fun k => c * f k) = c * sumTo n f
  | 0 => by simp only [sumTo]; grind
  | n + 1 => by rw [sumTo_succ, sumTo_succ, sumTo_mul c f n]; grind
theorem sumTo_zeroes {f : Nat → Rat} {n : Nat} (h : ∀ k, k < n → f k = 0) : sumTo n f = 0 := by
  rw [sumTo_congr (g := fun _ => 0) h]
  induction n with
  | zero => rfl
  | succ n ih => rw [sumTo_succ, ih fun k hk => h k (by omega)]; grind
theorem sumTo_split (f : Nat → Rat) : ∀ (n m : Nat), sumTo (n + m) f = sumTo n f + sumTo m fun k => f (n + k)
  | n, 0 => by simp only [Nat.add_zero, sumTo_zero]; grind
  | n, m + 1 => by rw [← Nat.add_assoc, sumTo_succ, sumTo_succ, sumTo_split f n m]; grind
/-- the parts from lo to hi alone -/
theorem sumTo_cut {f : Nat → Rat} {lo hi n : Nat} (hl : lo ≤ hi) (hn : hi ≤ n) (h0 : ∀ k, k < lo → f k = 0) (h1 : ∀ k, hi ≤ k → k < n → f k = 0) : sumTo n f = sumTo (hi - lo) fun k => f (lo + k) := by
  have e1 : n = lo + ((hi - lo) + (n - hi)) := by omega
  rw [e1, sumTo_split, sumTo_zeroes h0, sumTo_split, sumTo_zeroes (f := fun k => f (lo + (hi - lo + k))) (fun k hk => h1 _ (by omega) (by omega))]
  grind
def chs : Nat → Nat → Nat
  | _, 0 => 1
  | 0, _ + 1 => 0
  | n + 1, k + 1 => chs n k + chs n (k + 1)
@[simp] theorem chs_z (n : Nat) : chs n 0 = 1 := by cases n <;> rfl
theorem chs_big : ∀ {n k : Nat}, n < k → chs n k = 0
  | 0, 0, h => by omega
  | 0, k + 1, _ => rfl
  | n + 1, 0, h => by omega
  | n + 1, k + 1, h => by simp only [chs]; rw [chs_big (by omega), chs_big (by omega)]
theorem chs_self : ∀ n : Nat, chs n n = 1
  | 0 => rfl
  | n + 1 => by simp only [chs]; rw [chs_self n, chs_big (by omega)]
theorem chs_pos : ∀ {n k : Nat}, k ≤ n → 0 < chs n k
  | 0, 0, _ => by decide
  | 0, k + 1, h => by omega
  | n + 1, 0, _ => by simp
  | n + 1, k + 1, h => by simp only [chs]; have := chs_pos (n := n) (k := k) (by omega); omega
/-- (k + 1) C(n, k + 1) = (n - k) C(n, k) -/
theorem chs_step : ∀ (n k : Nat), k ≤ n → chs n (k + 1) * (k + 1) = chs n k * (n - k)
  | 0, 0, _ => rfl
  | 0, k + 1, h => by omega
  | n + 1, 0, _ => by
    have := chs_step n 0 (by omega)
    simp only [chs, chs_z] at this ⊢
    omega
  | n + 1, k + 1, h => by
    have h1 := chs_step n k (by omega)
    simp only [chs]
    by_cases e : k + 1 ≤ n
    · have h2 := chs_step n (k + 1) e
      have e1 : n - k = (n - (k + 1)) + 1 := by omega
      have e2 : n + 1 - (k + 1) = (n - (k + 1)) + 1 := by omega
      rw [e1] at h1
      rw [e2]
      grind
    · have e3 : k = n := by omega
      subst e3
      rw [chs_big (n := k) (k := k + 1) (by omega), chs_big (n := k) (k := k + 1 + 1) (by omega)]
      simp
/-- (n + 1) C(n, k) = (k + 1) C(n + 1, k + 1) -/
theorem chs_up : ∀ (n k : Nat), (n + 1) * chs n k = (k + 1) * chs (n + 1) (k + 1)
  | n, k => by
    by_cases h : k ≤ n
    · have := chs_step n k h
      simp only [chs]
      have e : n + 1 = (n - k) + (k + 1) := by omega
      rw [e, Nat.add_mul, Nat.mul_add]
      have e1 : (n - k) * chs n k = (k + 1) * chs n (k + 1) := by rw [Nat.mul_comm, ← this, Nat.mul_comm]
      omega
    · rw [chs_big (by omega), chs_big (by omega)]; simp
theorem chs_up2 : ∀ (n k : Nat), k ≤ n + 1 → (n + 1) * chs n k = (n + 1 - k) * chs (n + 1) k
  | n, 0, _ => by simp
  | n, k + 1, h => by
    have h1 := chs_up n k
    have h2 : (n + 1) * chs (n + 1) (k + 1) = (n + 1) * chs n k + (n + 1) * chs n (k + 1) := by simp only [chs]; rw [Nat.mul_add]
    have e : n + 1 = (n + 1 - (k + 1)) + (k + 1) := by omega
    have h3 : (n + 1) * chs (n + 1) (k + 1) = (n + 1 - (k + 1)) * chs (n + 1) (k + 1) + (k + 1) * chs (n + 1) (k + 1) := by
      rw [← Nat.add_mul, ← e]
    omega
/-! ### rows of control numbers -/
/-- the value, by the last round first -/
def B : Nat → (Nat → Rat) → Rat → Rat
  | 0, r, _ => r 0
  | n + 1, r, t => (1 - t) * B n r t + t * B n (fun k => r (k + 1)) t
theorem B_congr : ∀ {n : Nat} {r q : Nat → Rat} {t : Rat}, (∀ k, k ≤ n → r k = q k) → B n r t = B n q t
  | 0, r, q, t, h => h 0 (by omega)
  | n + 1, r, q, t, h => by
    simp only [B]
    rw [B_congr (r := r) (q := q) fun k hk => h k (by omega), B_congr (r := fun k => r (k + 1)) (q := fun k => q (k + 1)) fun k hk => h (k + 1) (by omega)]
theorem B_lin (a b : Rat) : ∀ (n : Nat) (r q : Nat → Rat) (t : Rat), B n (fun k => a * r k + b * q k) t = a * B n r t + b * B n q t
  | 0, r, q, t => rfl
  | n + 1, r, q, t => by
    simp only [B]
    rw [B_lin a b n r q t, B_lin a b n (fun k => r (k + 1)) (fun k => q (k + 1)) t]; grind
theorem B_mul (a : Rat) (n : Nat) (r : Nat → Rat) (t : Rat) : B n (fun k => a * r k) t = a * B n r t := by
  have := B_lin a 0 n r r t
  rw [B_congr (q := fun k => a * r k + 0 * r k) fun k _ => by grind, this]; grind
theorem B_add (n : Nat) (r q : Nat → Rat) (t : Rat) : B n (fun k => r k + q k) t = B n r t + B n q t := by
  have := B_lin 1 1 n r q t
  rw [B_congr (q := fun k => 1 * r k + 1 * q k) fun k _ => by grind, this]; grind
theorem B_sub (n : Nat) (r q : Nat → Rat) (t : Rat) : B n (fun k => r k - q k) t = B n r t - B n q t := by
  have := B_lin 1 (-1) n r q t
  rw [B_congr (q := fun k => 1 * r k + -1 * q k) fun k _ => by grind, this]; grind
theorem B_const : ∀ (n : Nat) (c t : Rat), B n (fun _ => c) t = c
  | 0, c, t => rfl
  | n + 1, c, t => by simp only [B]; rw [B_const n c t]; grind
/-- one round of the algorithm -/
def rnd (t : Rat) (r : Nat → Rat) : Nat → Rat := fun k => (1 - t) * r k + t * r (k + 1)
theorem B_rnd (n : Nat) (r : Nat → Rat) (t : Rat) : B n (rnd t r) t = B (n + 1) r t := by
  unfold rnd
  rw [B_lin (1 - t) t n r (fun k => r (k + 1)) t]; rfl
theorem B_zero : ∀ (n : Nat) (r : Nat → Rat), B n r 0 = r 0
  | 0, r => rfl
  | n + 1, r => by simp only [B]; rw [B_zero n r]; grind
theorem B_one : ∀ (n : Nat) (r : Nat → Rat), B n r 1 = r n
  | 0, r => rfl
  | n + 1, r => by simp only [B]; rw [B_one n (fun k => r (k + 1))]; grind
theorem B_nonneg : ∀ {n : Nat} {r : Nat → Rat} {t : Rat}, 0 ≤ t → t ≤ 1 → (∀ k, k ≤ n → 0 ≤ r k) → 0 ≤ B n r t
  | 0, r, t, _, _, h => h 0 (by omega)
  | n + 1, r, t, h0, h1, h => by
    simp only [B]
    have a := Rat.mul_nonneg (a := 1 - t) (b := B n r t) (by grind) (B_nonneg h0 h1 fun k hk => h k (by omega))
    have b := Rat.mul_nonneg (a := t) (b := B n (fun k => r (k + 1)) t) h0 (B_nonneg h0 h1 fun k hk => h (k + 1) (by omega))
    grind
theorem B_pos : ∀ {n : Nat} {r : Nat → Rat} {t : Rat}, 0 ≤ t → t ≤ 1 → (∀ k, k ≤ n → 0 < r k) → 0 < B n r t
  | 0, r, t, _, _, h => h 0 (by omega)
  | n + 1, r, t, h0, h1, h => by
    simp only [B]
    have p1 := B_pos (n := n) (r := r) h0 h1 fun k hk => h k (by omega)
    have p2 := B_pos (n := n) (r := fun k => r (k + 1)) h0 h1 fun k hk => h (k + 1) (by omega)
    by_cases e : t = 0
    · subst e; grind
    · have b := Rat.mul_pos (a := t) (b := B n (fun k => r (k + 1)) t) (by grind) p2
      have a := Rat.mul_nonneg (a := 1 - t) (b := B n r t) (by grind) (by grind)
      grind
/-- the sum of lots and powers -/
def bterm (n : Nat) (t : Rat) (k : Nat) : Rat := (chs n k : Rat) * (t ^ k * (1 - t) ^ (n - k))
theorem B_sum : ∀ (n : Nat) (r : Nat → Rat) (t : Rat), sumTo (n + 1) (fun k => bterm n t k * r k) = B n r t
  | 0, r, t => by simp only [sumTo, bterm, B, chs_z, Nat.sub_zero, Rat.pow_zero]; grind
  | n + 1, r, t => by
    simp only [B]
    rw [← B_sum n r t, ← B_sum n (fun k => r (k + 1)) t]
    have e1 : (1 - t) * sumTo (n + 1) (fun k => bterm n t k * r k) = sumTo (n + 2) fun k => (chs n k : Rat) * (t ^ k * (1 - t) ^ (n + 1 - k)) * r k := by
      rw [sumTo_succ (n + 1), chs_big (n := n) (k := n + 1) (by omega), ← sumTo_mul]
      rw [sumTo_congr (n := n + 1) (g := fun k => (chs n k : Rat) * (t ^ k * (1 - t) ^ (n + 1 - k)) * r k)]
      · have : (((0 : Nat)) : Rat) = 0 := rfl
        rw [this]; grind
      · intro k hk
        have : n + 1 - k = (n - k) + 1 := by omega
        simp only [bterm]
        rw [this, Rat.pow_succ]; grind
    have e2 : t * sumTo (n + 1) (fun k => bterm n t k * r (k + 1)) = sumTo (n + 1) fun k => (chs n k : Rat) * (t ^ (k + 1) * (1 - t) ^ (n - k)) * r (k + 1) := by
      rw [← sumTo_mul]
      refine sumTo_congr fun k hk => ?_
      simp only [bterm, Rat.pow_succ]; grind
    rw [e1, e2, sumTo_front _ (n + 1), sumTo_front (fun k => (chs n k : Rat) * (t ^ k * (1 - t) ^ (n + 1 - k)) * r k) (n + 1)]
    have e3 : sumTo (n + 1) (fun k => (chs n (k + 1) : Rat) * (t ^ (k + 1) * (1 - t) ^ (n + 1 - (k + 1))) * r (k + 1)) + sumTo (n + 1) (fun k => (chs n k : Rat) * (t ^ (k + 1) * (1 - t) ^ (n - k)) * r (k + 1)) = sumTo (n + 1) fun k => bterm (n + 1) t (k + 1) * r (k + 1) := by
      rw [← sumTo_add]
      refine sumTo_congr fun k hk => ?_
      simp only [bterm, chs, Rat.natCast_add]
      have : n + 1 - (k + 1) = n - k := by omega
      rw [this]; grind
    rw [← e3]
    simp only [bterm, chs_z]
    grind
/-! ### forms -/
def F : (Nat → Rat) → List Rat → Rat
  | r, [] => r 0
  | r, t :: ts => (1 - t) * F r ts + t * F (fun k => r (k + 1)) ts
theorem F_lin (a b : Rat) : ∀ (ts : List Rat) (r q : Nat → Rat), F (fun k => a * r k + b * q k) ts = a * F r ts + b * F q ts
  | [], r, q => rfl
  | t :: ts, r, q => by
    simp only [F]
    rw [F_lin a b ts r q, F_lin a b ts (fun k => r (k + 1)) (fun k => q (k + 1))]; grind
theorem F_rnd (t : Rat) (ts : List Rat) (r : Nat → Rat) : F (rnd t r) ts = F r (t :: ts) := by
  unfold rnd
  rw [F_lin (1 - t) t ts r (fun k => r (k + 1))]; rfl
theorem F_perm {ts us : List Rat} (h : ts.Perm us) : ∀ r : Nat → Rat, F r ts = F r us := by
  induction h with
  | nil => intro r; rfl
  | cons x _ ih => intro r; simp only [F]; rw [ih r, ih]
  | swap x y l => intro r; simp only [F]; grind
  | trans _ _ h1 h2 => intro r; rw [h1 r, h2 r]
theorem F_B : ∀ (n : Nat) (r : Nat → Rat) (t : Rat), F r (List.replicate n t) = B n r t
  | 0, r, t => rfl
  | n + 1, r, t => by simp only [List.replicate_succ, F, B]; rw [F_B n r t, F_B n _ t]
theorem F_congr : ∀ {ts : List Rat} {r q : Nat → Rat}, (∀ k, k ≤ ts.length → r k = q k) → F r ts = F q ts
  | [], r, q, h => h 0 (by simp)
  | t :: ts, r, q, h => by
    simp only [F]
    rw [F_congr (r := r) (q := q) fun k hk => h k (by simp; omega), F_congr (r := fun k => r (k + 1)) (q := fun k => q (k + 1)) fun k hk => h (k + 1) (by simp; omega)]
theorem F_mid (t a b : Rat) (r : Nat → Rat) (ys zs : List Rat) : (1 - t) * F r (ys ++ a :: zs) + t * F r (ys ++ b :: zs) = F r (ys ++ ((1 - t) * a + t * b) :: zs) := by
  have e : ∀ c, F r (ys ++ c :: zs) = F r (c :: (ys ++ zs)) := fun c => F_perm List.perm_middle r
  rw [e, e, e]
  simp only [F]
  grind
theorem piece_B (r : Nat → Rat) (a b t : Rat) : ∀ (n : Nat) (ys : List Rat), B n (fun k => F r (ys ++ (List.replicate (n - k) a ++ List.replicate k b))) t = F r (ys ++ List.replicate n ((1 - t) * a + t * b))
  | 0, ys => by simp only [B, List.replicate_zero, Nat.sub_zero, List.append_nil]
  | n + 1, ys => by
    simp only [B]
    have e1 : B n (fun k => F r (ys ++ (List.replicate (n + 1 - k) a ++ List.replicate k b))) t = F r ((ys ++ [a]) ++ List.replicate n ((1 - t) * a + t * b)) := by
      rw [← piece_B r a b t n (ys ++ [a])]
      refine B_congr fun k hk => ?_
      have : n + 1 - k = (n - k) + 1 := by omega
      rw [this, List.replicate_succ]; simp
    have e2 : B n (fun k => F r (ys ++ (List.replicate (n + 1 - (k + 1)) a ++ List.replicate (k + 1) b))) t = F r ((ys ++ [b]) ++ List.replicate n ((1 - t) * a + t * b)) := by
      rw [← piece_B r a b t n (ys ++ [b])]
      refine B_congr fun k hk => ?_
      have : n + 1 - (k + 1) = n - k := by omega
      rw [this, List.replicate_succ]
      refine F_perm ?_ r
      rw [List.append_assoc]
      refine List.Perm.append_left _ ?_
      rw [List.singleton_append]
      exact List.perm_middle
    rw [e1, e2, List.append_assoc, List.append_assoc, List.singleton_append, List.singleton_append, F_mid, List.replicate_succ]
end L2.Mir

set_option Elab.async false
set_option linter.all false
set_option maxRecDepth 100000
namespace L2.Mir
theorem rpow_add (x : Rat) (a : Nat) : ∀ b : Nat, x ^ (a + b) = x ^ a * x ^ b
  | 0 => by rw [Nat.add_zero, Rat.pow_zero, Rat.mul_one]
  | b + 1 => by rw [← Nat.add_assoc, Rat.pow_succ, Rat.pow_succ, rpow_add x a b, Rat.mul_assoc]
theorem rpow_mul (x y : Rat) : ∀ b : Nat, (x * y) ^ b = x ^ b * y ^ b
  | 0 => by rw [Rat.pow_zero, Rat.pow_zero, Rat.pow_zero, Rat.mul_one]
  | b + 1 => by rw [Rat.pow_succ, Rat.pow_succ, Rat.pow_succ, rpow_mul x y b]; grind
theorem ev_pder_nil (t : Rat) : ev (pder []) t = 0 := rfl
theorem ev_all {l m : List Rat} (h : ∀ x : Rat, 0 < x → x < 1 → ev l x = ev m x) (x : Rat) : ev l x = ev m x := by
  rw [← ev_trim l, trim_ext01 l m h, ev_trim]
def gd (l : List Rat) (k : Nat) : Rat := l.getD k 0
theorem gd_map_range (f : Nat → Rat) {n k : Nat} (h : k < n) : gd ((List.range n).map f) k = f k := by simp [gd, List.getD, h]
theorem gd_big {l : List Rat} {k : Nat} (h : l.length ≤ k) : gd l k = 0 := by simp [gd, List.getD, h]
theorem ev_gd : ∀ (l : List Rat) (n : Nat) (x : Rat), l.length ≤ n → ev l x = sumTo n fun k => gd l k * x ^ k
  | [], n, x, _ => by rw [sumTo_zeroes]; rfl; intro k _; simp [gd]
  | a :: l, 0, x, h => by simp at h
  | a :: l, n + 1, x, h => by
    rw [sumTo_front, ev_cons, ev_gd l n x (by simpa using h)]
    have : x * sumTo n (fun k => gd l k * x ^ k) = sumTo n fun k => gd (a :: l) (k + 1) * x ^ (k + 1) := by
      rw [← sumTo_mul]
      refine sumTo_congr fun k hk => ?_
      simp only [gd, List.getD_cons_succ, Rat.pow_succ]; grind
    rw [this]
    simp only [gd, List.getD_cons_zero, Rat.pow_zero]; grind
theorem ev_range (f : Nat → Rat) (n : Nat) (x : Rat) : ev ((List.range n).map f) x = sumTo n fun k => f k * x ^ k := by
  rw [ev_gd _ n x (by simp)]
  exact sumTo_congr fun k hk => by rw [gd_map_range f hk]
/-! ### the polynomial of a row -/
def bpol : Nat → (Nat → Rat) → List Rat
  | 0, r => [r 0]
  | n + 1, r => padd (pmul [1, -1] (bpol n r)) (pmul [0, 1] (bpol n fun k => r (k + 1)))
theorem ev_bpol : ∀ (n : Nat) (r : Nat → Rat) (t : Rat), ev (bpol n r) t = B n r t
  | 0, r, t => by simp only [bpol, ev_cons, ev_nil, B]; grind
  | n + 1, r, t => by simp only [bpol, ev_padd, ev_pmul, ev_cons, ev_nil, B, ev_bpol n]; grind
theorem B_all {n m : Nat} {r q : Nat → Rat} (h : ∀ t : Rat, 0 < t → t < 1 → B n r t = B m q t) (t : Rat) : B n r t = B m q t := by
  rw [← ev_bpol, ← ev_bpol]
  exact ev_all (fun x x0 x1 => by rw [ev_bpol, ev_bpol]; exact h x x0 x1) t
theorem B_hom (n : Nat) (r : Nat → Rat) {s u : Rat} (h : s * u + u = 1) : B n r (s * u) = u ^ n * sumTo (n + 1) fun k => (chs n k * r k) * s ^ k := by
  rw [← B_sum, ← sumTo_mul]
  refine sumTo_congr fun k hk => ?_
  have e : 1 - s * u = u := by grind
  have e2 : n = k + (n - k) := by omega
  simp only [bterm]
  rw [e]
  have e3 : (s * u) ^ k = s ^ k * u ^ k := rpow_mul ..
  have e4 : u ^ n = u ^ k * u ^ (n - k) := by rw [← rpow_add, ← e2]
  rw [e3, e4]; grind
/-- t from 0 to 1 is s u -/
theorem su_of {t : Rat} (h : t < 1) : ∃ s u : Rat, s * u + u = 1 ∧ s * u = t ∧ u ≠ 0 := by
  refine ⟨t / (1 - t), 1 - t, ?_, ?_, by grind⟩
  · rw [Rat.div_mul_cancel (by grind)]; grind
  · rw [Rat.div_mul_cancel (by grind)]
theorem pow_ne {u : Rat} (h : u ≠ 0) : ∀ n : Nat, u ^ n ≠ 0
  | 0 => by rw [Rat.pow_zero]; decide
  | n + 1 => by
    rw [Rat.pow_succ]
    intro e
    rcases Rat.mul_eq_zero.mp e with q | q
    · exact pow_ne h n q
    · exact h q
theorem natCast_ne {n : Nat} (h : 0 < n) : ((n : Nat) : Rat) ≠ 0 := by
  intro e
  have : n = 0 := by simpa using e
  omega
/-- numbers are told by values -/
theorem B_zero_row {n : Nat} {r : Nat → Rat} (h : ∀ t : Rat, B n r t = 0) : ∀ k, k ≤ n → r k = 0 := by
  intro k hk
  have hz := ev_zero ((List.range (n + 1)).map fun k => chs n k * r k) fun s s0 s1 => by
    rw [ev_range]
    have hs : (1 : Rat) + s ≠ 0 := by grind
    have hu : s * (1 + s)⁻¹ + (1 + s)⁻¹ = 1 := by
      have : (1 + s) * (1 + s)⁻¹ = 1 := Rat.mul_inv_cancel _ hs
      grind
    have h1 := B_hom n r hu
    rw [h] at h1
    have h2 : (1 + s)⁻¹ ≠ 0 := fun e => by rw [e] at hu; grind
    rcases Rat.mul_eq_zero.mp h1.symm with q | q
    · exact absurd q (pow_ne h2 n)
    · exact q
  have := hz (chs n k * r k) (List.mem_map.mpr ⟨k, List.mem_range.mpr (by omega), rfl⟩)
  rcases Rat.mul_eq_zero.mp this with q | q
  · exact absurd q (natCast_ne (chs_pos hk))
  · exact q
theorem B_inj {n : Nat} {r q : Nat → Rat} (h : ∀ t : Rat, B n r t = B n q t) : ∀ k, k ≤ n → r k = q k := by
  intro k hk
  have := B_zero_row (n := n) (r := fun k => r k - q k) (fun t => by rw [B_sub, h]; grind) k hk
  grind
/-! ### slopes -/
theorem B_slope : ∀ (n : Nat) (r : Nat → Rat) (t : Rat), ev (pder (bpol (n + 1) r)) t = (n + 1 : Nat) * B n (fun k => r (k + 1) - r k) t
  | 0, r, t => by
    simp only [bpol, ev_pder_padd, ev_pder_mul, ev_pder_cons, ev_pder_nil, ev_cons, ev_nil, B]
    have : (((0 + 1 : Nat)) : Rat) = 1 := rfl
    rw [this]; grind
  | n + 1, r, t => by
    have e : bpol (n + 2) r = padd (pmul [1, -1] (bpol (n + 1) r)) (pmul [0, 1] (bpol (n + 1) fun k => r (k + 1))) := rfl
    rw [e, ev_pder_padd, ev_pder_mul, ev_pder_mul, B_slope n r t, B_slope n (fun k => r (k + 1)) t, ev_bpol, ev_bpol]
    have e1 : ev (pder [1, -1]) t = -1 := by simp only [ev_pder_cons, ev_pder_nil, ev_cons, ev_nil]; grind
    have e2 : ev (pder [0, 1]) t = 1 := by simp only [ev_pder_cons, ev_pder_nil, ev_cons, ev_nil]; grind
    have e3 : B (n + 1) (fun k => r (k + 1)) t - B (n + 1) r t = B (n + 1) (fun k => r (k + 1) - r k) t := (B_sub _ _ _ _).symm
    have e4 : B (n + 1) (fun k => r (k + 1) - r k) t = (1 - t) * B n (fun k => r (k + 1) - r k) t + t * B n (fun k => r (k + 1 + 1) - r (k + 1)) t := rfl
    rw [e1, e2]
    simp only [ev_cons, ev_nil]
    have e5 : (((n + 1 + 1 : Nat)) : Rat) = ((n + 1 : Nat) : Rat) + 1 := by simp
    rw [e5]
    grind
theorem pder_B {p : List Rat} {n : Nat} {r : Nat → Rat} (h : ∀ t, ev p t = B (n + 1) r t) (t : Rat) : ev (pder p) t = (n + 1 : Nat) * B n (fun k => r (k + 1) - r k) t := by
  rw [← B_slope]
  exact pder_ext (fun x => by rw [h, ev_bpol]) t
/-! ### degrees up and down -/
def rise (n : Nat) (r : Nat → Rat) : Nat → Rat := fun k => (if k = 0 then 0 else (k : Rat) / (n + 1 : Nat) * r (k - 1)) + (if k ≤ n then ((n + 1 - k : Nat) : Rat) / (n + 1 : Nat) * r k else 0)
theorem chs_rise {n k : Nat} (h : k ≤ n + 1) (r : Nat → Rat) : (chs (n + 1) k : Rat) * rise n r k = (if k = 0 then 0 else (chs n (k - 1) : Rat) * r (k - 1)) + (chs n k : Rat) * r k := by
  have hn : (((n + 1 : Nat)) : Rat) ≠ 0 := natCast_ne (by omega)
  have e1 : k ≠ 0 → (chs (n + 1) k : Rat) * ((k : Rat) / (n + 1 : Nat)) = chs n (k - 1) := by
    intro hk
    obtain ⟨j, rfl⟩ : ∃ j, k = j + 1 := ⟨k - 1, by omega⟩
    have := chs_up n j
    have t : (((n + 1 : Nat)) : Rat) * (chs n j : Rat) = ((j + 1 : Nat) : Rat) * (chs (n + 1) (j + 1) : Rat) := by rw [← Rat.natCast_mul, ← Rat.natCast_mul, this]
    rw [Nat.add_sub_cancel, Rat.div_def, ← Rat.mul_assoc, Rat.mul_comm (chs (n + 1) (j + 1) : Rat), ← t, Rat.mul_comm (((n + 1 : Nat)) : Rat), Rat.mul_assoc, Rat.mul_inv_cancel _ hn, Rat.mul_one]
  have e2 : (chs (n + 1) k : Rat) * (((n + 1 - k : Nat) : Rat) / (n + 1 : Nat)) = chs n k := by
    have := chs_up2 n k h
    have t : (((n + 1 : Nat)) : Rat) * (chs n k : Rat) = ((n + 1 - k : Nat) : Rat) * (chs (n + 1) k : Rat) := by rw [← Rat.natCast_mul, ← Rat.natCast_mul, this]
    rw [Rat.div_def, ← Rat.mul_assoc, Rat.mul_comm (chs (n + 1) k : Rat), ← t, Rat.mul_comm (((n + 1 : Nat)) : Rat), Rat.mul_assoc, Rat.mul_inv_cancel _ hn, Rat.mul_one]
  unfold rise
  by_cases hk : k = 0
  · subst hk
    simp only [if_true, Nat.zero_le]
    rw [← e2]; grind
  · rw [if_neg hk, if_neg hk]
    by_cases h2 : k ≤ n
    · rw [if_pos h2, ← e1 hk, ← e2]; grind
    · rw [if_neg h2, ← e1 hk]
      have : chs n k = 0 := chs_big (by omega)
      rw [this]
      have : (((0 : Nat)) : Rat) = 0 := rfl
      rw [this]; grind
theorem B_rise (n : Nat) (r : Nat → Rat) (t : Rat) : B (n + 1) (rise n r) t = B n r t := by
  refine B_all (fun t t0 t1 => ?_) t
  obtain ⟨s, u, h1, rfl, h3⟩ := su_of t1
  rw [B_hom _ _ h1, B_hom _ _ h1]
  have e1 : sumTo (n + 1 + 1) (fun k => (chs (n + 1) k * rise n r k) * s ^ k) = (s + 1) * sumTo (n + 1) fun k => (chs n k * r k) * s ^ k := by
    have a : sumTo (n + 1 + 1) (fun k => (chs (n + 1) k * rise n r k) * s ^ k) = sumTo (n + 1 + 1) (fun k => (if k = 0 then 0 else (chs n (k - 1) : Rat) * r (k - 1)) * s ^ k + ((chs n k : Rat) * r k) * s ^ k) :=
      sumTo_congr fun k hk => by rw [chs_rise (by omega)]; grind
    rw [a, sumTo_add, sumTo_front]
    have b : sumTo (n + 1 + 1) (fun k => ((chs n k : Rat) * r k) * s ^ k) = sumTo (n + 1) fun k => ((chs n k : Rat) * r k) * s ^ k := by
      rw [sumTo_succ (n + 1), chs_big (n := n) (k := n + 1) (by omega)]
      have : (((0 : Nat)) : Rat) = 0 := rfl
      rw [this]; grind
    have c : sumTo (n + 1) (fun k => (if k + 1 = 0 then 0 else (chs n (k + 1 - 1) : Rat) * r (k + 1 - 1)) * s ^ (k + 1)) = s * sumTo (n + 1) fun k => ((chs n k : Rat) * r k) * s ^ k := by
      rw [← sumTo_mul]
      refine sumTo_congr fun k hk => ?_
      rw [if_neg (by omega), Nat.add_sub_cancel, Rat.pow_succ]; grind
    rw [b, c, if_pos rfl]; grind
  rw [e1, Rat.pow_succ]
  have : u * (s + 1) = 1 := by grind
  grind
/-- rows as lists -/
abbrev BL (l : List Rat) (t : Rat) : Rat := B (l.length - 1) (gd l) t
def raiseL (l : List Rat) : List Rat := (List.range (l.length + 1)).map (rise (l.length - 1) (gd l))
@[simp] theorem raiseL_len (l : List Rat) : (raiseL l).length = l.length + 1 := by simp [raiseL]
theorem BL_raise {l : List Rat} (h : l ≠ []) (t : Rat) : BL (raiseL l) t = BL l t := by
  unfold BL
  have hl : 0 < l.length := List.length_pos_iff.mpr h
  have e : (raiseL l).length - 1 = (l.length - 1) + 1 := by simp; omega
  rw [e, ← B_rise (l.length - 1) (gd l) t]
  refine B_congr fun k hk => ?_
  unfold raiseL
  rw [gd_map_range _ (by omega)]
theorem BL_inj {l m : List Rat} (hl : l.length = m.length) (h0 : l ≠ []) (h : ∀ t, BL l t = BL m t) : l = m := by
  have hp : 0 < l.length := List.length_pos_iff.mpr h0
  refine List.ext_getElem hl fun i h1 h2 => ?_
  have := B_inj (n := l.length - 1) (r := gd l) (q := gd m) (fun t => by have := h t; unfold BL at this; rw [← hl] at this; exact this) i (by omega)
  simpa [gd, List.getD, h1, h2] using this
def lowF (n : Nat) (r : Nat → Rat) : Nat → Rat
  | 0 => r 0
  | k + 1 => ((n : Rat) * r (k + 1) - ((k + 1 : Nat) : Rat) * lowF n r k) / ((n - (k + 1) : Nat) : Rat)
def lowL (l : List Rat) : Option (List Rat) :=
  if l.length - 1 = 0 then none else
    let f := (List.range (l.length - 1)).map (lowF (l.length - 1) (gd l))
    if raiseL f = l then some f else none
theorem lowF_rise {n : Nat} (r : Nat → Rat) (q : Nat → Rat) (h : ∀ k, k ≤ n + 1 → q k = rise n r k) : ∀ k, k ≤ n → lowF (n + 1) q k = r k
  | 0, _ => by
    unfold lowF
    rw [h 0 (by omega)]
    unfold rise
    have : (((n + 1 - 0 : Nat)) : Rat) / (n + 1 : Nat) = 1 := by
      rw [Nat.sub_zero, Rat.div_def, Rat.mul_inv_cancel _ (natCast_ne (by omega))]
    rw [if_pos rfl, if_pos (by omega), this]; grind
  | k + 1, hk => by
    unfold lowF
    rw [lowF_rise r q h k (by omega), h (k + 1) (by omega)]
    unfold rise
    rw [if_neg (by omega), if_pos hk, Nat.add_sub_cancel]
    have hn : (((n + 1 : Nat)) : Rat) ≠ 0 := natCast_ne (by omega)
    have hm : (((n + 1 - (k + 1) : Nat)) : Rat) ≠ 0 := natCast_ne (by omega)
    generalize (((n + 1 - (k + 1) : Nat)) : Rat) = m at *
    generalize (((n + 1 : Nat)) : Rat) = N at *
    generalize (((k + 1 : Nat)) : Rat) = K at *
    have e1 : N * (K / N * r k + m / N * r (k + 1)) = K * r k + m * r (k + 1) := by
      have a : N * (K / N) = K := by rw [Rat.mul_comm, Rat.div_mul_cancel hn]
      have b : N * (m / N) = m := by rw [Rat.mul_comm, Rat.div_mul_cancel hn]
      grind
    rw [e1]
    have e2 : K * r k + m * r (k + 1) - K * r k = r (k + 1) * m := by grind
    rw [e2, Rat.div_def, Rat.mul_assoc, Rat.mul_inv_cancel _ hm, Rat.mul_one]
theorem lowL_raise {m : List Rat} (h : m ≠ []) : lowL (raiseL m) = some m := by
  have hp : 0 < m.length := List.length_pos_iff.mpr h
  unfold lowL
  have e0 : (raiseL m).length - 1 = m.length := by simp
  rw [e0, if_neg (by omega)]
  have e : (List.range m.length).map (lowF m.length (gd (raiseL m))) = m := by
    refine List.ext_getElem (by simp) fun i h1 h2 => ?_
    simp only [List.getElem_map, List.getElem_range]
    have e1 : m.length = (m.length - 1) + 1 := by omega
    rw [e1]
    rw [lowF_rise (gd m) (gd (raiseL m)) (fun k hk => by unfold raiseL; rw [gd_map_range _ (by omega)]) i (by omega)]
    simp [gd, List.getD, h2]
  simp only [e, if_true]
theorem lowL_some {l f : List Rat} (h : lowL l = some f) : raiseL f = l ∧ f ≠ [] ∧ f.length + 1 = l.length := by
  unfold lowL at h
  split at h
  · cases h
  · rename_i hl
    simp only at h
    split at h
    · rename_i e
      cases h
      refine ⟨e, fun z => ?_, by simp; omega⟩
      have := congrArg List.length z
      simp at this
      omega
    · cases h
def leastL (l : List Rat) : List Rat := match h : lowL l with
  | none => l
  | some f => leastL f
termination_by l.length
decreasing_by have := (lowL_some h).2.2; omega
theorem leastL_none {l : List Rat} (h : lowL l = none) : leastL l = l := by
  rw [leastL]; split
  · rfl
  · rename_i q; rw [h] at q; cases q
theorem leastL_some {l f : List Rat} (h : lowL l = some f) : leastL l = leastL f := by
  rw [leastL]; split
  · rename_i q; rw [h] at q; cases q
  · rename_i q; rw [h] at q; cases q; rfl
theorem leastL_raise {m : List Rat} (h : m ≠ []) : leastL (raiseL m) = leastL m := leastL_some (lowL_raise h)
theorem leastL_BL : ∀ (n : Nat) (l : List Rat), l.length ≤ n → l ≠ [] → leastL l ≠ [] ∧ ∀ t, BL (leastL l) t = BL l t
  | 0, l, h, h0 => absurd (List.eq_nil_of_length_eq_zero (by omega)) h0
  | n + 1, l, h, h0 => by
    cases q : lowL l with
    | none => rw [leastL_none q]; exact ⟨h0, fun t => rfl⟩
    | some f =>
      obtain ⟨e1, e2, e3⟩ := lowL_some q
      rw [leastL_some q]
      obtain ⟨i1, i2⟩ := leastL_BL n f (by omega) e2
      exact ⟨i1, fun t => by rw [i2, ← e1, BL_raise e2]⟩
def raiseN : Nat → List Rat → List Rat
  | 0, l => l
  | n + 1, l => raiseL (raiseN n l)
theorem raiseN_facts {l : List Rat} (h : l ≠ []) : ∀ n, (raiseN n l).length = l.length + n ∧ raiseN n l ≠ [] ∧ (∀ t, BL (raiseN n l) t = BL l t) ∧ leastL (raiseN n l) = leastL l
  | 0 => ⟨rfl, h, fun _ => rfl, rfl⟩
  | n + 1 => by
    obtain ⟨a, b, c, d⟩ := raiseN_facts h n
    have hl : (raiseN (n + 1) l).length = l.length + (n + 1) := by show (raiseL (raiseN n l)).length = _; rw [raiseL_len, a]; omega
    refine ⟨hl, fun z => ?_, fun t => by show BL (raiseL _) t = _; rw [BL_raise b, c], by show leastL (raiseL _) = _; rw [leastL_raise b, d]⟩
    rw [z] at hl
    simp at hl
theorem leastL_eq {l m : List Rat} (hl : l ≠ []) (hm : m ≠ []) : leastL l = leastL m ↔ ∀ t, BL l t = BL m t := by
  constructor
  · intro h t
    rw [← (leastL_BL _ l (Nat.le_refl _) hl).2, h, (leastL_BL _ m (Nat.le_refl _) hm).2]
  · intro h
    rcases Nat.le_total l.length m.length with q | q
    · obtain ⟨a, b, c, d⟩ := raiseN_facts hl (m.length - l.length)
      have : raiseN (m.length - l.length) l = m := BL_inj (by omega) b fun t => by rw [c, h]
      rw [← d, this]
    · obtain ⟨a, b, c, d⟩ := raiseN_facts hm (l.length - m.length)
      have : raiseN (l.length - m.length) m = l := BL_inj (by omega) b fun t => by rw [c, h]
      rw [← d, this]
/-! ### products -/
theorem gd_padd : ∀ (l m : List Rat) (k : Nat), gd (padd l m) k = gd l k + gd m k
  | [], m, k => by rw [padd_nil_l]; simp only [gd, List.getD_nil]; grind
  | a :: l, [], k => by rw [padd_nil_r]; simp only [gd, List.getD_nil]; grind
  | a :: l, b :: m, 0 => rfl
  | a :: l, b :: m, k + 1 => gd_padd l m k
theorem gd_mapL (c : Rat) : ∀ (l : List Rat) (k : Nat), gd (l.map (c * ·)) k = c * gd l k
  | [], k => by simp only [gd, List.map_nil, List.getD_nil]; grind
  | a :: l, 0 => rfl
  | a :: l, k + 1 => gd_mapL c l k
theorem gd_pmul : ∀ (l m : List Rat) (k : Nat), gd (pmul l m) k = sumTo (k + 1) fun j => gd l j * gd m (k - j)
  | [], m, k => by rw [sumTo_zeroes fun j _ => by simp only [gd, List.getD_nil]; grind]; rfl
  | a :: l, m, 0 => by
    simp only [pmul]
    rw [gd_padd, gd_mapL]
    simp only [sumTo, gd, List.getD_cons_zero, Nat.sub_zero]; grind
  | a :: l, m, k + 1 => by
    rw [sumTo_front]
    simp only [pmul, gd_padd, gd_mapL]
    have e : gd (0 :: pmul l m) (k + 1) = gd (pmul l m) k := rfl
    rw [e, gd_pmul l m k]
    have e2 : sumTo (k + 1) (fun j => gd (a :: l) (j + 1) * gd m (k + 1 - (j + 1))) = sumTo (k + 1) fun j => gd l j * gd m (k - j) := sumTo_congr fun j hj => by
      have : k + 1 - (j + 1) = k - j := by omega
      rw [this]; rfl
    rw [e2]; rfl
/-- the row of a product -/
def mulK (a b : List Rat) (k : Nat) : Rat := sumTo (k + 1) fun j => ((chs (a.length - 1) j * chs (b.length - 1) (k - j) : Nat) : Rat) / (chs (a.length - 1 + (b.length - 1)) k : Rat) * (gd a j * gd b (k - j))
def mulL (a b : List Rat) : List Rat := (List.range (a.length - 1 + (b.length - 1) + 1)).map (mulK a b)
@[simp] theorem mulL_len (a b : List Rat) : (mulL a b).length = a.length - 1 + (b.length - 1) + 1 := by simp [mulL]
theorem cauchy (A C : Nat → Rat) (m n : Nat) (hA : ∀ j, m < j → A j = 0) (hC : ∀ j, n < j → C j = 0) (s : Rat) : sumTo (m + n + 1) (fun k => sumTo (k + 1) (fun j => A j * C (k - j)) * s ^ k) = sumTo (m + 1) (fun j => A j * s ^ j) * sumTo (n + 1) fun j => C j * s ^ j := by
  let lA := (List.range (m + 1)).map A
  let lC := (List.range (n + 1)).map C
  have gA : ∀ j, gd lA j = A j := fun j => by
    by_cases h : j < m + 1
    · exact gd_map_range A h
    · rw [gd_big (by simp [lA]; omega), hA j (by omega)]
  have gC : ∀ j, gd lC j = C j := fun j => by
    by_cases h : j < n + 1
    · exact gd_map_range C h
    · rw [gd_big (by simp [lC]; omega), hC j (by omega)]
  rw [← ev_range A, ← ev_range C, ← ev_pmul]
  -- the product's numbers behind m + n are 0
  have hl : (pmul lA lC).length ≤ m + n + 2 := by have := pmul_len lA lC; simp [lA, lC] at this ⊢; omega
  have e := ev_gd (pmul lA lC) (m + n + 2) s hl
  rw [e, sumTo_succ (m + n + 1)]
  have z : gd (pmul lA lC) (m + n + 1) = 0 := by
    rw [gd_pmul, sumTo_zeroes fun j hj => ?_]
    rw [gA, gC]
    by_cases h : m < j
    · rw [hA j h]; grind
    · rw [hC _ (by omega)]; grind
  rw [z, Rat.zero_mul, Rat.add_zero]
  refine sumTo_congr fun k hk => ?_
  rw [gd_pmul]
  congr 1
  exact sumTo_congr fun j hj => by rw [gA, gC]
theorem BL_mul {a b : List Rat} (t : Rat) : BL (mulL a b) t = BL a t * BL b t := by
  unfold BL
  rw [mulL_len, Nat.add_sub_cancel]
  have key : ∀ t : Rat, 0 < t → t < 1 → B (a.length - 1 + (b.length - 1)) (gd (mulL a b)) t = ev (pmul (bpol (a.length - 1) (gd a)) (bpol (b.length - 1) (gd b))) t := fun t t0 t1 => by
    rw [ev_pmul, ev_bpol, ev_bpol]
    obtain ⟨s, u, h1, rfl, h3⟩ := su_of t1
    generalize hm : a.length - 1 = m at *
    generalize hn : b.length - 1 = n at *
    rw [B_hom _ _ h1, B_hom _ _ h1, B_hom _ _ h1]
    have e : sumTo (m + n + 1) (fun k => (chs (m + n) k * gd (mulL a b) k) * s ^ k) = sumTo (m + n + 1) fun k => sumTo (k + 1) (fun j => (chs m j * gd a j) * (chs n (k - j) * gd b (k - j))) * s ^ k := by
      refine sumTo_congr fun k hk => ?_
      congr 1
      unfold mulL
      rw [hm, hn, gd_map_range _ hk]
      unfold mulK
      rw [hm, hn, ← sumTo_mul]
      refine sumTo_congr fun j hj => ?_
      have hc : (chs (m + n) k : Rat) ≠ 0 := natCast_ne (chs_pos (by omega))
      have e1 : (chs (m + n) k : Rat) * (((chs m j * chs n (k - j) : Nat) : Rat) / (chs (m + n) k : Rat)) = (chs m j : Rat) * chs n (k - j) := by rw [Rat.mul_comm, Rat.div_mul_cancel hc, Rat.natCast_mul]
      grind
    rw [e, cauchy (fun j => chs m j * gd a j) (fun j => chs n j * gd b j) m n (fun j hj => by rw [chs_big hj]; have : (((0 : Nat)) : Rat) = 0 := rfl; rw [this]; grind) (fun j hj => by rw [chs_big hj]; have : (((0 : Nat)) : Rat) = 0 := rfl; rw [this]; grind), rpow_add]
    grind
  have h2 := ev_all (l := bpol (a.length - 1 + (b.length - 1)) (gd (mulL a b))) (m := pmul (bpol (a.length - 1) (gd a)) (bpol (b.length - 1) (gd b))) (fun x x0 x1 => by rw [ev_bpol]; exact key x x0 x1) t
  rw [ev_bpol, ev_pmul, ev_bpol, ev_bpol] at h2
  exact h2
end L2.Mir

set_option Elab.async false
set_option linter.all false
set_option maxRecDepth 100000
namespace L2.Mir
open PySem PySem.Spec PyProof.Rows
noncomputable section
/-! ### sizes, told by classes -/
class Sz (q : Rat) (k : outParam Nat) : Prop where h : szQ k q
class Iz (i : Int) (k : outParam Nat) : Prop where h : i.natAbs < 2 ^ k
class SzL (l : List Rat) (k : outParam Nat) : Prop where h : ∀ q ∈ l, szQ k q
class Ln {α : Type} (l : List α) (k : outParam Nat) : Prop where h : l.length ≤ k
instance : Sz 0 1 := ⟨by decide, by decide⟩
instance : Sz 1 1 := ⟨by decide, by decide⟩
instance {x y : Rat} {i j : Nat} [a : Sz x i] [b : Sz y j] : Sz (x + y) (i + j + 1) := ⟨a.h.add b.h⟩
instance {x y : Rat} {i j : Nat} [a : Sz x i] [b : Sz y j] : Sz (x - y) (i + j + 1) := ⟨a.h.sub b.h⟩
instance {x y : Rat} {i j : Nat} [a : Sz x i] [b : Sz y j] : Sz (x * y) (i + j) := ⟨a.h.mul b.h⟩
instance {x : Rat} {i : Nat} [a : Sz x i] : Sz (-x) i := ⟨a.h.neg⟩
theorem szQ_inv {x : Rat} {i : Nat} (hx : szQ i x) (hi : 1 ≤ i) : szQ i x⁻¹ := by
  by_cases h : x = 0
  · subst h
    refine ⟨?_, ?_⟩
    · rw [Rat.inv_zero]; have : (0 : Rat).num = 0 := rfl; rw [this]; exact Nat.pow_pos (by decide)
    · rw [Rat.inv_zero]; have : (0 : Rat).den = 1 := rfl; rw [this]; exact Nat.lt_of_lt_of_le (by decide : 1 < 2 ^ 1) (Nat.pow_le_pow_right (by decide) hi)
  · have e : x⁻¹ = Rat.divInt x.den x.num := by rw [Rat.inv_def]
    rw [e]
    exact divInt_sz (by simpa using hx.2) hx.1 (fun z => h (Rat.num_eq_zero.mp z))
theorem szQ_pos {x : Rat} {i : Nat} (hx : szQ i x) : 1 ≤ i := by
  have h1 := hx.2
  have h2 := x.den_pos
  by_cases e : i = 0
  · subst e; simp at h1; omega
  · omega
instance {x : Rat} {i : Nat} [a : Sz x i] : Sz (x⁻¹) i := ⟨szQ_inv a.h (szQ_pos a.h)⟩
instance {x y : Rat} {i j : Nat} [a : Sz x i] [b : Sz y j] : Sz (x / y) (i + j) := ⟨by rw [Rat.div_def]; exact a.h.mul (szQ_inv b.h (szQ_pos b.h))⟩
instance {i j : Int} {a b : Nat} [x : Iz i a] [y : Iz j b] : Iz (i + j) (a + b + 1) := ⟨by
  have h1 : i.natAbs < 2 ^ (a + b) := Nat.lt_of_lt_of_le x.h (Nat.pow_le_pow_right (by decide) (by omega))
  have h2 : j.natAbs < 2 ^ (a + b) := Nat.lt_of_lt_of_le y.h (Nat.pow_le_pow_right (by decide) (by omega))
  rw [Nat.pow_succ]; omega⟩
instance {i j : Int} {a b : Nat} [x : Iz i a] [y : Iz j b] : Iz (i - j) (a + b + 1) := ⟨by
  have h1 : i.natAbs < 2 ^ (a + b) := Nat.lt_of_lt_of_le x.h (Nat.pow_le_pow_right (by decide) (by omega))
  have h2 : j.natAbs < 2 ^ (a + b) := Nat.lt_of_lt_of_le y.h (Nat.pow_le_pow_right (by decide) (by omega))
  rw [Nat.pow_succ]; omega⟩
instance {i j : Int} {a b : Nat} [x : Iz i a] [y : Iz j b] : Iz (i * j) (a + b) := ⟨by rw [Int.natAbs_mul]; exact pow_lt_mul x.h y.h⟩
instance {i : Int} {a : Nat} [x : Iz i a] : Iz (-i) a := ⟨by rw [Int.natAbs_neg]; exact x.h⟩
instance : Iz 0 0 := ⟨by decide⟩
instance : Iz 1 1 := ⟨by decide⟩
instance : Iz 2 2 := ⟨by decide⟩
instance : Iz 3 2 := ⟨by decide⟩
instance : Iz 4 3 := ⟨by decide⟩
instance : Iz 5 3 := ⟨by decide⟩
instance : Iz 6 3 := ⟨by decide⟩
instance : Iz 7 3 := ⟨by decide⟩
instance : Iz 8 4 := ⟨by decide⟩
instance : Iz 9 4 := ⟨by decide⟩
instance : Iz 10 4 := ⟨by decide⟩
instance : Iz 11 4 := ⟨by decide⟩
instance : Iz 12 4 := ⟨by decide⟩
instance : Iz 13 4 := ⟨by decide⟩
instance : Iz 14 4 := ⟨by decide⟩
instance : Iz 15 4 := ⟨by decide⟩
instance : Iz 16 5 := ⟨by decide⟩
instance : Iz 17 5 := ⟨by decide⟩
instance : Iz 18 5 := ⟨by decide⟩
instance : Iz 19 5 := ⟨by decide⟩
instance : Iz 20 5 := ⟨by decide⟩
instance : Iz 21 5 := ⟨by decide⟩
instance : Iz 22 5 := ⟨by decide⟩
instance : Iz 23 5 := ⟨by decide⟩
instance : Iz 24 5 := ⟨by decide⟩
instance : Iz 25 5 := ⟨by decide⟩
instance : Iz 26 5 := ⟨by decide⟩
instance : Iz 27 5 := ⟨by decide⟩
instance : Iz 28 5 := ⟨by decide⟩
instance : Iz 29 5 := ⟨by decide⟩
instance : Iz 30 5 := ⟨by decide⟩
instance : Iz 31 5 := ⟨by decide⟩
instance : Iz 32 6 := ⟨by decide⟩
instance : Iz 33 6 := ⟨by decide⟩
instance : Iz 34 6 := ⟨by decide⟩
instance : Iz 35 6 := ⟨by decide⟩
instance : Iz 36 6 := ⟨by decide⟩
instance : Iz 37 6 := ⟨by decide⟩
instance : Iz 38 6 := ⟨by decide⟩
instance : Iz 39 6 := ⟨by decide⟩
instance : Iz 40 6 := ⟨by decide⟩
instance : Iz 48 6 := ⟨by decide⟩
instance : Iz 50 6 := ⟨by decide⟩
instance : Iz 60 6 := ⟨by decide⟩
instance : Iz 64 7 := ⟨by decide⟩
instance : Iz 100 7 := ⟨by decide⟩
instance : Iz 128 8 := ⟨by decide⟩
instance : Iz 200 8 := ⟨by decide⟩
instance : Iz 256 9 := ⟨by decide⟩
instance : Iz 512 10 := ⟨by decide⟩
instance : Iz 1000 10 := ⟨by decide⟩
instance : Iz 1024 11 := ⟨by decide⟩
instance : Sz (2 : Rat) 2 := ⟨by decide, by decide⟩
instance : Sz (3 : Rat) 2 := ⟨by decide, by decide⟩
instance : Sz (4 : Rat) 3 := ⟨by decide, by decide⟩
instance : Sz (5 : Rat) 3 := ⟨by decide, by decide⟩
instance : Sz (6 : Rat) 3 := ⟨by decide, by decide⟩
instance : Sz (7 : Rat) 3 := ⟨by decide, by decide⟩
instance : Sz (8 : Rat) 4 := ⟨by decide, by decide⟩
instance : Sz (9 : Rat) 4 := ⟨by decide, by decide⟩
instance : Sz (10 : Rat) 4 := ⟨by decide, by decide⟩
instance : Sz (11 : Rat) 4 := ⟨by decide, by decide⟩
instance : Sz (12 : Rat) 4 := ⟨by decide, by decide⟩
instance {q : Rat} {k : Nat} [a : Sz q k] : Iz q.num k := ⟨a.h.1⟩
instance {q : Rat} {k : Nat} [a : Sz q k] : Iz (q.den : Int) k := ⟨by rw [Int.natAbs_natCast]; exact a.h.2⟩
theorem sz_divInt {a b : Int} {i j : Nat} (x : a.natAbs < 2 ^ i) (y : b.natAbs < 2 ^ j) : szQ (i + j + 1) (Rat.divInt a b) := by
  by_cases h : b = 0
  · subst h
    rw [Rat.divInt_zero]
    exact ⟨by show 0 < _; exact Nat.pow_pos (by decide), by show 1 < _; exact Nat.lt_of_lt_of_le (by decide : 1 < 2 ^ 1) (Nat.pow_le_pow_right (by decide) (by omega))⟩
  · exact divInt_sz (Nat.lt_of_lt_of_le x (Nat.pow_le_pow_right (by decide) (by omega))) (Nat.lt_of_lt_of_le y (Nat.pow_le_pow_right (by decide) (by omega))) h
instance {a b : Int} {i j : Nat} [x : Iz a i] [y : Iz b j] : Sz (Rat.divInt a b) (i + j + 1) := ⟨sz_divInt x.h y.h⟩
instance {a : Int} {i : Nat} [x : Iz a i] : Sz ((a : Int) : Rat) (i + 1) := ⟨by
  refine ⟨?_, ?_⟩
  · rw [Rat.num_intCast]; exact Nat.lt_of_lt_of_le x.h (Nat.pow_le_pow_right (by decide) (by omega))
  · rw [Rat.den_intCast]; exact Nat.lt_of_lt_of_le (by decide : 1 < 2 ^ 1) (Nat.pow_le_pow_right (by decide) (by omega))⟩
instance {a : Nat} {i : Nat} [x : Iz (a : Int) i] : Sz ((a : Nat) : Rat) (i + 1) := ⟨by
  have : ((a : Nat) : Rat) = (((a : Int)) : Rat) := (Rat.intCast_natCast a).symm
  rw [this]
  exact (inferInstance : Sz (((a : Int)) : Rat) (i + 1)).h⟩
theorem Sz.le {q : Rat} {k : Nat} (a : Sz q k) {j : Nat} (h : k ≤ j) : Sz q j := ⟨a.h.mono h⟩
/-! lists -/
instance : SzL [] 1 := ⟨by simp⟩
theorem SzL.mono {l : List Rat} {k j : Nat} (a : SzL l k) (h : k ≤ j) : SzL l j := ⟨fun q hq => (a.h q hq).mono h⟩
instance {x : Rat} {l : List Rat} {i j : Nat} [a : Sz x i] [b : SzL l j] : SzL (x :: l) (max i j) := ⟨fun q hq => by
  rcases List.mem_cons.mp hq with rfl | hq
  · exact a.h.mono (Nat.le_max_left ..)
  · exact (b.h q hq).mono (Nat.le_max_right ..)⟩
instance {l m : List Rat} {i j : Nat} [a : SzL l i] [b : SzL m j] : SzL (l ++ m) (max i j) := ⟨fun q hq => by
  rcases List.mem_append.mp hq with hq | hq
  · exact (a.h q hq).mono (Nat.le_max_left ..)
  · exact (b.h q hq).mono (Nat.le_max_right ..)⟩
instance {l : List Rat} {i : Nat} [a : SzL l i] : SzL l.reverse i := ⟨fun q hq => a.h q (List.mem_reverse.mp hq)⟩
instance {l : List Rat} {i : Nat} [a : SzL l i] : SzL l.tail i := ⟨fun q hq => a.h q (List.mem_of_mem_tail hq)⟩
instance {l : List Rat} {i : Nat} [a : SzL l i] : SzL (trim l) i := ⟨fun q hq => a.h q (trim_mem hq)⟩
instance {x : Rat} {n i : Nat} [a : Sz x i] : SzL (List.replicate n x) i := ⟨fun q hq => by rw [(List.mem_replicate.mp hq).2]; exact a.h⟩
instance {l : List Rat} {n i : Nat} [a : SzL l i] : SzL (l.take n) i := ⟨fun q hq => a.h q (List.mem_of_mem_take hq)⟩
instance {l : List Rat} {n i : Nat} [a : SzL l i] : SzL (l.drop n) i := ⟨fun q hq => a.h q (List.mem_of_mem_drop hq)⟩
theorem szQ_zero {k : Nat} (h : 1 ≤ k) : szQ k 0 := szQ.mono (k := 1) ⟨by decide, by decide⟩ h
instance {l : List Rat} {k : Nat} {i : Nat} [a : SzL l i] : Sz (gd l k) (i + 1) := ⟨by
  unfold gd
  by_cases h : k < l.length
  · rw [List.getD_eq_getElem?_getD, List.getElem?_eq_getElem h]; exact (a.h _ (List.getElem_mem h)).mono (by omega)
  · rw [List.getD_eq_getElem?_getD, List.getElem?_eq_none (by omega)]; exact szQ_zero (by omega)⟩
instance : Ln ([] : List Rat) 0 := ⟨by simp⟩
instance {α : Type} {x : α} {l : List α} {n : Nat} [a : Ln l n] : Ln (x :: l) (n + 1) := ⟨by have := a.h; simp; omega⟩
instance {α : Type} {l m : List α} {n k : Nat} [a : Ln l n] [b : Ln m k] : Ln (l ++ m) (n + k) := ⟨by have := a.h; have := b.h; simp; omega⟩
instance {α β : Type} {f : α → β} {l : List α} {n : Nat} [a : Ln l n] : Ln (l.map f) n := ⟨by have := a.h; simpa using this⟩
instance {α : Type} {l : List α} {n : Nat} [a : Ln l n] : Ln l.reverse n := ⟨by have := a.h; simpa using this⟩
instance {l : List Rat} {n : Nat} [a : Ln l n] : Ln (trim l) n := ⟨Nat.le_trans (trim_len l) a.h⟩
instance {l : List Rat} {n : Nat} [a : Ln l n] : Ln (raiseL l) (n + 1) := ⟨by have := a.h; simp; omega⟩
instance {l m : List Rat} {n k : Nat} [a : Ln l n] [b : Ln m k] : Ln (mulL l m) (n + k + 1) := ⟨by have := a.h; have := b.h; simp; omega⟩
instance {α : Type} {x : α} {n : Nat} : Ln (List.replicate n x) n := ⟨by simp⟩
instance {n : Nat} : Ln (List.range n) n := ⟨by simp⟩
/-! ### data that are parts, rows of parts -/
class QD (d : D) (q : outParam Rat) : Prop where h : d = qD q
class QL (ds : List D) (l : outParam (List Rat)) : Prop where h : ds = l.map qD
instance {q : Rat} : QD (qD q) q := ⟨rfl⟩
theorem qD_int (i : Int) : D.tup [.int i, .int 1] = qD (i : Rat) := by simp [qD]
instance {i : Int} : QD (.tup [.int i, .int 1]) (i : Rat) := ⟨qD_int i⟩
instance : QL [] [] := ⟨rfl⟩
instance {d : D} {q : Rat} {ds : List D} {l : List Rat} [a : QD d q] [b : QL ds l] : QL (d :: ds) (q :: l) := ⟨by rw [a.h, b.h]; rfl⟩
instance {ds es : List D} {l m : List Rat} [a : QL ds l] [b : QL es m] : QL (ds ++ es) (l ++ m) := ⟨by rw [a.h, b.h, List.map_append]⟩
instance {l : List Rat} : QL (l.map qD) l := ⟨rfl⟩
instance {α : Type} {g : α → Rat} {l : List α} : QL (l.map fun a => qD (g a)) (l.map g) := ⟨by simp⟩
instance {ds : List D} {l : List Rat} [a : QL ds l] : QL ds.reverse l.reverse := ⟨by rw [a.h, List.map_reverse]⟩
instance {ds : List D} {l : List Rat} {n : Nat} [a : QL ds l] : QL (ds.take n) (l.take n) := ⟨by rw [a.h, List.map_take]⟩
instance {ds : List D} {l : List Rat} {n : Nat} [a : QL ds l] : QL (ds.drop n) (l.drop n) := ⟨by rw [a.h, List.map_drop]⟩
instance {d : D} {q : Rat} {n : Nat} [a : QD d q] : QL (List.replicate n d) (List.replicate n q) := ⟨by rw [a.h, List.map_replicate]⟩
theorem deq_QD {x y : D} {a b : Rat} [hx : QD x a] [hy : QD y b] : deq x y = decide (a = b) := by rw [hx.h, hy.h, deq_q]
theorem deqs_map : ∀ (l m : List Rat), deqs (l.map qD) (m.map qD) = decide (l = m)
  | [], [] => by simp
  | [], b :: m => by simp
  | a :: l, [] => by simp
  | a :: l, b :: m => by simp [deqs_map l m]
theorem deqs_QL {ds es : List D} {l m : List Rat} [a : QL ds l] [b : QL es m] : deqs ds es = decide (l = m) := by rw [a.h, b.h, deqs_map]
theorem okDs_map (n : Nat) : ∀ l : List Rat, okDs (n + 1) (l.map qD) = true
  | [] => by simp
  | a :: l => by simp [okDs_map n l]
theorem okDs_QL {n : Nat} {ds : List D} {l : List Rat} [a : QL ds l] : okDs (n + 1) ds = true := by rw [a.h, okDs_map]
theorem flats_map : ∀ l : List Rat, D.flats (l.map qD) = true
  | [] => by simp
  | a :: l => by simp [flats_map l]
theorem flats_QL {ds : List D} {l : List Rat} [a : QL ds l] : D.flats ds = true := by rw [a.h, flats_map]
theorem len_QL {ds : List D} {l : List Rat} (a : QL ds l) : ds.length = l.length := by rw [a.h, List.length_map]
theorem atI_map {α β : Type} (f : α → β) (l : List α) (i : Int) : L2.atI (l.map f) i = (L2.atI l i).map f := by
  unfold L2.atI
  simp only [List.length_map]
  cases ixN l.length i <;> simp
theorem atI_gd {l : List Rat} {k : Nat} (h : k < l.length) : L2.atI l (k : Int) = some (gd l k) := by
  rw [atI_nat (List.getElem?_eq_getElem h)]
  simp [gd, List.getD, h]
theorem atI_last {l : List Rat} (h : l ≠ []) : L2.atI l (-1) = some (gd l (l.length - 1)) := by
  have hl := List.length_pos_iff.mpr h
  have e : l.length - 1 < l.length := by omega
  have g := atI_gd e
  unfold L2.atI at g ⊢
  have s : ixN l.length (-1) = ixN l.length ((l.length - 1 : Nat) : Int) := by
    unfold ixN
    rw [if_neg (by decide), if_pos (by omega), if_pos (by omega), if_pos (by omega)]
    congr 1
    omega
  rw [s]
  exact g
/-! ### binds, loops -/
theorem bind_assoc' {α β γ : Type} (r : Res α) (f : α → DS → Res β) (g : β → DS → Res γ) : (r.bind f).bind g = r.bind fun a s => (f a s).bind g := by cases r <;> rfl
theorem for_bind {β : Type} {p : Pat} {Bd : MS} {ds : List D} {env : SE} {s : DS} {f : Fl → DS → Res β} {X : Res β} (P : Nat → SE → Prop) (h0 : P 0 env)
    (step : ∀ (i : Nat) (env : SE) (d : D), ds[i]? = some d → P i env → ∃ as env', p.run d = some as ∧ (Bd (setSl env as) s = .ok (.nx env') s ∨ Bd (setSl env as) s = .ok (.ct env') s) ∧ P (i + 1) env')
    (fin : ∀ env', P ds.length env' → f (.nx env') s = X) : (forGo p Bd ds env s).bind f = X := by
  have key : ∀ (rest : List D) (i : Nat) (env : SE), ds.drop i = rest → i ≤ ds.length → P i env → ∃ env', forGo p Bd rest env s = .ok (.nx env') s ∧ P ds.length env' := by
    intro rest
    induction rest with
    | nil =>
      intro i env hd hi hP
      have : i = ds.length := by have := congrArg List.length hd; simp at this; omega
      subst this
      exact ⟨env, rfl, hP⟩
    | cons d r ih =>
      intro i env hd hi hP
      have hlt : i < ds.length := by have := congrArg List.length hd; simp at this; omega
      have hd2 : ds[i]? = some d := by
        have := congrArg (fun l => l[0]?) hd
        simpa using this
      obtain ⟨as, env', h1, h2, h3⟩ := step i env d hd2 hP
      obtain ⟨env2, g1, g2⟩ := ih (i + 1) env' (by rw [← List.tail_drop, hd]; rfl) (by omega) h3
      refine ⟨env2, ?_, g2⟩
      unfold forGo
      rw [h1]
      rcases h2 with h2 | h2 <;> simp only [h2, bind_ok] <;> exact g1
  obtain ⟨env', h1, h2⟩ := key ds 0 env (by simp) (by omega) h0
  rw [h1, bind_ok]
  exact fin env' h2
/-- over range: the turn's number itself -/
theorem for_bindR {β : Type} {i : Nat} {Bd : MS} {n : Nat} {env : SE} {s : DS} {f : Fl → DS → Res β} {X : Res β} (P : Nat → SE → Prop) (h0 : P 0 env)
    (step : ∀ (k : Nat) (env : SE), k < n → P k env → ∃ env', (Bd (env.set i (.val (.int k))) s = .ok (.nx env') s ∨ Bd (env.set i (.val (.int k))) s = .ok (.ct env') s) ∧ P (k + 1) env')
    (fin : ∀ env', P n env' → f (.nx env') s = X) : (forGo (.n i) Bd (rngD 0 (n : Int)) env s).bind f = X := by
  refine for_bind P h0 (fun k env d hd hP => ?_) fun env' h => fin env' (by rw [rngD_nat, List.length_map, List.length_range] at h; exact h)
  rw [rngD_nat, List.getElem?_map] at hd
  have hk : k < n := by
    by_cases h : k < n
    · exact h
    · rw [List.getElem?_eq_none (by simpa using h)] at hd; cases hd
  rw [List.getElem?_range hk] at hd
  cases hd
  obtain ⟨env', h1, h2⟩ := step k env hk hP
  exact ⟨_, env', rfl, h1, h2⟩
/-- over parts -/
theorem for_bindQ {β : Type} {i : Nat} {Bd : MS} {ds : List D} {l : List Rat} [hq : QL ds l] {env : SE} {s : DS} {f : Fl → DS → Res β} {X : Res β} (P : Nat → SE → Prop) (h0 : P 0 env)
    (step : ∀ (k : Nat) (env : SE), k < l.length → P k env → ∃ env', (Bd (env.set i (.val (qD (gd l k)))) s = .ok (.nx env') s ∨ Bd (env.set i (.val (qD (gd l k)))) s = .ok (.ct env') s) ∧ P (k + 1) env')
    (fin : ∀ env', P l.length env' → f (.nx env') s = X) : (forGo (.n i) Bd ds env s).bind f = X := by
  refine for_bind P h0 (fun k env d hd hP => ?_) fun env' h => fin env' (by rw [len_QL hq] at h; exact h)
  rw [hq.h, List.getElem?_map] at hd
  have hk : k < l.length := by
    by_cases h : k < l.length
    · exact h
    · rw [List.getElem?_eq_none (by simpa using h)] at hd; cases hd
  rw [List.getElem?_eq_getElem hk] at hd
  cases hd
  obtain ⟨env', h1, h2⟩ := step k env hk hP
  refine ⟨_, env', rfl, ?_, h2⟩
  have e : gd l k = l[k] := by simp [gd, List.getD, hk]
  rw [e] at h1
  exact h1
theorem while_bind {β : Type} {c : VE → M Bool} {Bd : MS} {fuel : Nat} {env : SE} {s : DS} {f : Fl → DS → Res β} {X : Res β} (P : Nat → SE → Prop) (Q : SE → Prop) {m : Nat} (h0 : P m env) (hm : m < fuel)
    (step : ∀ (m : Nat) (env : SE), P m env → (c (viewE env) s = .ok false s ∧ Q env) ∨ (c (viewE env) s = .ok true s ∧ ∃ env' m', Bd env s = .ok (.nx env') s ∧ m' < m ∧ P m' env'))
    (fin : ∀ env', Q env' → f (.nx env') s = X) : (whileGo c Bd fuel env s).bind f = X := by
  have key : ∀ (fuel m : Nat) (env : SE), P m env → m < fuel → ∃ env', whileGo c Bd fuel env s = .ok (.nx env') s ∧ Q env' := by
    intro fuel
    induction fuel with
    | zero => intro m env _ h; omega
    | succ fuel ih =>
      intro m env hP hm
      rcases step m env hP with ⟨h1, h2⟩ | ⟨h1, env', m', h2, h3, h4⟩
      · exact ⟨env, by unfold whileGo; rw [h1]; simp, h2⟩
      · obtain ⟨e2, g1, g2⟩ := ih m' env' h4 (by omega)
        refine ⟨e2, ?_, g2⟩
        unfold whileGo
        rw [h1]
        simp [h2, g1]
  obtain ⟨env', h1, h2⟩ := key fuel m env h0 hm
  rw [h1, bind_ok]
  exact fin env' h2
theorem measE_ge (env : SE) : 1000 ≤ measE env := by unfold measE; omega
/-- comprehensions -/
theorem lcGo_rng {f : D → M (Option D)} {g : Nat → D} {s : DS} {n : Nat} (h : ∀ k, k < n → f (.int k) s = .ok (some (g k)) s) : lcGo f (rngD 0 (n : Int)) s = .ok ((List.range n).map g) s := by
  rw [rngD_nat]
  exact lcGo_mapE fun a ha => h a (List.mem_range.mp ha)
theorem lcGo_QL {f : D → M (Option D)} {g : Rat → D} {s : DS} {ds : List D} {l : List Rat} [a : QL ds l] (h : ∀ q, q ∈ l → f (qD q) s = .ok (some (g q)) s) : lcGo f ds s = .ok (l.map g) s := by
  rw [a.h]
  exact lcGo_mapE h
/-- x[i], shut -/
def opIxQ : D → D → M D := opIx
theorem rb_ixQ {G : Gx} : RB G (rIx G.K) opIxQ := rb_ix
theorem ee_ixQ {X : Cx} {G : Gx} {a b : Expr} {ma mb : VE → M D} {pos : Pos} (hK : X.K = G.K) (ha : EE X G a ma) (hb : EE X G b mb) (hs : PlainIx b := by intro _ _; rfl) : EE X G (.Subscript a b pos) (mBin opIxQ ma mb) := ee_ix hK ha hb hs
@[simp] theorem ixq_tup (xs : List D) (i : Int) (s : DS) : opIxQ (.tup xs) (.int i) s = (match L2.atI xs i with | some d => .ok d s | none => .no) := rfl
@[simp] theorem ixq_lst (xs : List D) (i : Int) (s : DS) : opIxQ (.lst xs) (.int i) s = (match L2.atI xs i with | some d => .ok d s | none => .no) := rfl
@[simp] theorem ixq_q0 (q : Rat) (s : DS) : opIxQ (qD q) (.int 0) s = .ok (.int q.num) s := by simp [opIxQ, qD]
@[simp] theorem ixq_q1 (q : Rat) (s : DS) : opIxQ (qD q) (.int 1) s = .ok (.int q.den) s := by simp [opIxQ, qD]
theorem mulOk_iz {i j : Int} {a b : Nat} [x : Iz i a] [y : Iz j b] (h : a + b ≤ 1000000) : mulOk i j = true := mulOk_of x.h y.h h
end
end L2.Mir

set_option Elab.async false
set_option linter.all false
set_option maxRecDepth 100000
namespace L2.Mir
open PySem PySem.Spec PyProof.Rows
/-! ### xs[lo::c] of a list -/
def strI (c n : Nat) (lo : Option Int) : List Nat := (List.range (((if ((HT.sIx n 0 lo : Nat) : Int) < (n : Int) then ((n : Int) - ((HT.sIx n 0 lo : Nat) : Int) + (c : Int) - 1) / (c : Int) else 0) : Int).toNat)).map fun k => HT.sIx n 0 lo + c * k
def strD {α : Type} (c : Nat) (lo : Option Int) (xs : List α) : List α := (strI c xs.length lo).filterMap (xs[·]?)
theorem str_lo (lo : Option Int) (n : Nat) {c : Nat} (hc : 0 < c) : (sliceBounds lo none (some (c : Int)) n).1 = ((HT.sIx n 0 lo : Nat) : Int) ∧ (sliceBounds lo none (some (c : Int)) n).2.1 = (n : Int) ∧ (sliceBounds lo none (some (c : Int)) n).2.2 = (c : Int) := by
  have h0 : (c : Int) > 0 := by omega
  refine ⟨?_, ?_, rfl⟩
  · cases lo with
    | none => simp [sliceBounds, HT.sIx, h0]; omega
    | some i =>
      simp only [sliceBounds, HT.sIx, Option.getD_some, h0, if_true]
      by_cases h : i < 0
      · simp only [h, if_true] <;> omega
      · simp only [h, if_false] <;> omega
  · simp [sliceBounds, h0]; omega
theorem str_pick (its : List Value) (lo : Option Int) {c : Nat} (hc : 0 < c) : slicePick its.toArray lo none (some (c : Int)) = (strD c lo its).toArray := by
  obtain ⟨h1, h2, h3⟩ := str_lo lo its.toArray.size hc
  unfold slicePick
  rw [h1, h2, h3]
  unfold sliceRange strD strI
  have h0 : (c : Int) > 0 := by omega
  simp only [h0, if_true, List.size_toArray]
  congr 1
  have e : (fun (k : Nat) => ((((HT.sIx its.length 0 lo : Nat) : Int) + (c : Int) * (k : Int))).toNat) = fun k => HT.sIx its.length 0 lo + c * k := by
    funext k
    rw [← Int.natCast_mul, ← Int.natCast_add, Int.toNat_natCast]
  rw [e]
  congr 1
  funext x
  simp
theorem str_len {α : Type} (c : Nat) (lo : Option Int) (xs : List α) (hc : 0 < c) : (strD c lo xs).length ≤ xs.length := by
  have h1 : (strD c lo xs).length ≤ (strI c xs.length lo).length := List.length_filterMap_le _ _
  refine Nat.le_trans h1 ?_
  unfold strI
  rw [List.length_map, List.length_range]
  split
  · rename_i h
    have : ((xs.length : Int) - ((HT.sIx xs.length 0 lo : Nat) : Int) + (c : Int) - 1) / (c : Int) ≤ (xs.length : Int) - ((HT.sIx xs.length 0 lo : Nat) : Int) := ceilDiv_le _ _ (by omega) (by omega)
    omega
  · simp
theorem vals_pick {xs : List V} {us : List Value} (r : Vals xs us) : ∀ is : List Nat, Vals (is.filterMap (xs[·]?)) (is.filterMap (us[·]?))
  | [] => .nil
  | i :: is => by
    have ih := vals_pick r is
    have hl := Vals.length r
    by_cases h : i < xs.length
    · obtain ⟨u, h2, h3⟩ := Vals.get r (List.getElem?_eq_getElem h)
      rw [List.filterMap_cons_some (List.getElem?_eq_getElem h), List.filterMap_cons_some h2]
      exact .cons h3 ih
    · rw [List.filterMap_cons_none (List.getElem?_eq_none (by omega)), List.filterMap_cons_none (List.getElem?_eq_none (by omega))]
      exact ih
theorem vals_str {xs : List V} {us : List Value} (r : Vals xs us) (c : Nat) (lo : Option Int) : Vals (strD c lo xs) (strD c lo us) := by
  unfold strD
  rw [← Vals.length r]
  exact vals_pick r _
theorem Reps.pick {K : PySem.W.Frag} {W : Wd} {H : Hp} {ds : List D} {vs : List V} (r : Reps K W H ds vs) : ∀ is : List Nat, Reps K W H (is.filterMap (ds[·]?)) (is.filterMap (vs[·]?))
  | [] => rfl
  | i :: is => by
    have ih := Reps.pick r is
    have hl := r.length
    by_cases h : i < ds.length
    · obtain ⟨u, h2, h3⟩ := r.get (List.getElem?_eq_getElem h)
      rw [List.filterMap_cons_some (List.getElem?_eq_getElem h), List.filterMap_cons_some h2]
      exact ⟨_, _, rfl, h3, ih⟩
    · rw [List.filterMap_cons_none (List.getElem?_eq_none (by omega)), List.filterMap_cons_none (List.getElem?_eq_none (by omega))]
      exact ih
theorem Reps.str {K : PySem.W.Frag} {W : Wd} {H : Hp} {ds : List D} {vs : List V} (r : Reps K W H ds vs) (c : Nat) (lo : Option Int) : Reps K W H (strD c lo ds) (strD c lo vs) := by
  unfold strD
  rw [r.length]
  exact r.pick _
def tStr (K : PySem.W.Frag) (c : Nat) (te : TE) (tl : TO) : TE := fun σ H Q => te σ H fun x H1 => tl σ H1 fun l H2 => ∃ a xs, x = .ref a ∧ SqL K H2 a xs ∧ ∀ p, H2 p = none → Q (.ref p) (upd H2 p (.lst (strD c l xs)))
theorem pe_str2 {X : Cx} {e : Expr} {te : TE} {lo : Option Expr} {tl : TO} {c : Nat} {k : Nat} {p1 p3 pos : Pos} (hc : 0 < c) (he : PE X e te) (hl : PO X lo tl) : PE X (.Subscript e (.Slice lo none (some (.Constant (.int (c : Int)) k p1)) p3) pos) (tStr X.K c te tl) := by
  refine ⟨fun pins s σ H Q I h => ?_⟩
  refine Subscript_ (thn (he.run pins s σ H _ I h) fun v s1 ⟨x, H1, I1, r1, q1⟩ => ?_)
  have hst : PO X (some (.Constant (.int (c : Int)) k p1)) (tPart (tC (.int (c : Int)))) := po_some pe_int
  refine wpAny_Slice (thn (hl.run pins s1 σ H1 _ I1 q1) fun vl s2 ⟨l, H2, I2, pl, q2⟩ => ?_)
  obtain ⟨a, xs, ex, hx, q⟩ := q2
  subst ex
  cases r1
  refine thn (po_none.run pins s2 σ H2 (fun o H3 => o = none ∧ H3 = H2) I2 ⟨rfl, rfl⟩) fun vu s3 ⟨u, H3, I3, pu, eu, e3⟩ => ?_
  subst eu e3
  refine thn (hst.run pins s3 σ H3 (fun o H4 => o = some (c : Int) ∧ H4 = H3) I3 ⟨_, rfl, rfl, rfl⟩) fun vs s4 ⟨o, H4, I4, ps, eo, e4⟩ => ?_
  subst eo e4
  have I5 : Inv X pins σ H4 { s4 with heap := s4.heap.push { cls := .type "slice", data := .fields #[vl, vu, vs] } } := I4.kept (t' := s4.toks) fun b ob q => Heap.get?_push_of_some _ q
  obtain ⟨its, r, ht, hz⟩ := I5.list hx
  have hlen := Vals.length r
  show wpAny (model X.prog X.w) X.A (subscriptTail e (.Slice lo none (some (.Constant (.int (c : Int)) k p1)) p3) (.ref a) (.ref s4.heap.objs.size)) (EP X pins σ Q) X.xe { s4 with heap := s4.heap.push { cls := .type "slice", data := .fields #[vl, vu, vs] } }
  refine tail_any (ops := [.ref a, .ref s4.heap.objs.size]) ht.isList.typeIs (PySem.slot_list_getitem.lookup) ?_ (by with_unfolding_all rfl)
  refine wpAny_getItem_list_slice ht.isList (Heap.IsSliceOf.new _ vl vu vs) pl pu ps (by intro z; have := Option.some.inj z; omega) ?_ (by rw [List.size_toArray]; omega)
  rw [str_pick its l hc]
  refine ⟨.ref _, _, I5.laid (t' := s4.toks) (o := .lst (strD c l xs)) (fun b ob q => Heap.get?_push_of_some _ q) (Nat.le_refl _) ?_, rfl, q _ (I5.hok.fresh (Nat.le_refl _))⟩
  exact ⟨by have := str_len c l xs hc; omega, _, 0, vals_str r c l, Heap.get?_push_size _ rfl⟩
noncomputable section
@[simp] def mStr (c : Nat) (m : VE → M D) (lo : MP) : VE → M D := fun env s => (m env s).bind fun d s => (lo env s).bind fun l s => match d with
  | .lst ds => .ok (.lst (strD c l ds)) s
  | _ => .no
theorem ee_str2 {X : Cx} {G : Gx} {a : Expr} {ma : VE → M D} {lo : Option Expr} {ml : MP} {c : Nat} {pos : Pos} {k : Nat} {p1 p3 : Pos} (hc : 0 < c) (hK : X.K = G.K) (ha : EE X G a ma) (hl : EP' X G lo ml) : EE X G (.Subscript a (.Slice lo none (some (.Constant (.int (c : Int)) k p1)) p3) pos) (mStr c ma ml) :=
  pe_imp (pe_str2 hc ha hl) fun σ H Q h => by
    obtain ⟨W, env, s, hen, hs, h⟩ := h
    refine tM_bind hen hs h fun W1 H1 v x s1 e1 he1 hs1 rx _ h1 => ?_
    refine ⟨W1, env, s1, he1, hs1, ?_⟩
    cases q : ml env s1 with
    | ok l s2 =>
      rw [q] at h1
      intro W2 H2 e2 ws2
      have h2 := Aft.ext e2 h1
      simp only [bind_ok] at h2
      have rx2 := Rep.ext e2 _ _ rx
      split at h2
      · obtain ⟨p, vs, rfl, g1, _, r1⟩ := rep_lst rx2
        exact ⟨p, vs, rfl, .inl (.inl g1), fun p' hp => h2.lst ws2 (r1.str c l) hp⟩
      · exact h2.elim
    | exc x s' => rw [q] at h1; exact h1
    | no => rw [q] at h1; exact h1
/-! ### sorted(xs), ints; i << j -/
def dInts : List D → Option (List Int)
  | [] => some []
  | .int i :: r => (dInts r).map (i :: ·)
  | _ :: _ => none
def insI (i : Int) : List Int → List Int
  | [] => [i]
  | j :: r => if i ≤ j then i :: j :: r else j :: insI i r
def srtI : List Int → List Int
  | [] => []
  | i :: r => insI i (srtI r)
theorem insI_perm (i : Int) : ∀ l, (insI i l).Perm (i :: l)
  | [] => .refl _
  | j :: r => by
    unfold insI; split
    · exact .refl _
    · exact (List.Perm.cons j (insI_perm i r)).trans (List.Perm.swap i j r)
theorem srtI_perm : ∀ l, (srtI l).Perm l
  | [] => .refl _
  | i :: r => (insI_perm i _).trans (List.Perm.cons i (srtI_perm r))
theorem insI_sorted (i : Int) : ∀ l : List Int, l.Pairwise (· ≤ ·) → (insI i l).Pairwise (· ≤ ·)
  | [], _ => by simp [insI]
  | j :: r, h => by
    rw [List.pairwise_cons] at h
    unfold insI; split
    · rename_i c
      refine List.pairwise_cons.mpr ⟨fun x hx => ?_, List.pairwise_cons.mpr h⟩
      rcases List.mem_cons.mp hx with rfl | hx
      · exact c
      · have := h.1 x hx; omega
    · rename_i c
      refine List.pairwise_cons.mpr ⟨fun x hx => ?_, insI_sorted i r h.2⟩
      rcases List.mem_cons.mp ((insI_perm i r).mem_iff.mp hx) with rfl | hx
      · omega
      · exact h.1 x hx
theorem srtI_sorted : ∀ l, (srtI l).Pairwise (· ≤ ·)
  | [] => .nil
  | i :: r => insI_sorted i _ (srtI_sorted r)
theorem sorted_eq : ∀ {l m : List Int}, l.Perm m → l.Pairwise (· ≤ ·) → m.Pairwise (· ≤ ·) → l = m
  | [], m, h, _, _ => (List.Perm.nil_eq h)
  | a :: l, [], h, _, _ => absurd h.symm (by intro z; have := List.Perm.nil_eq z; simp at this)
  | a :: l, b :: m, h, h1, h2 => by
    rw [List.pairwise_cons] at h1 h2
    have e : a = b := by
      have m1 : a ∈ b :: m := h.mem_iff.mp (by simp)
      have m2 : b ∈ a :: l := h.mem_iff.mpr (by simp)
      rcases List.mem_cons.mp m1 with e | m1
      · exact e
      · rcases List.mem_cons.mp m2 with e | m2
        · exact e.symm
        · have x1 := h1.1 b m2
          have x2 := h2.1 a m1
          omega
    subst e
    rw [sorted_eq h.cons_inv h1.2 h2.2]
theorem dInts_reps {K : PySem.W.Frag} {W : Wd} {H : Hp} : ∀ {ds : List D} {vs : List V} {ns : List Int}, dInts ds = some ns → Reps K W H ds vs → vs = ns.map V.int
  | [], vs, ns, h, r => by simp only [dInts] at h; cases h; simp only [Reps] at r; subst r; rfl
  | d :: ds, vs, ns, h, r => by
    simp only [Reps] at r
    obtain ⟨v, w, rfl, h1, h2⟩ := r
    cases d <;> simp only [dInts] at h <;> try (cases h)
    rename_i i
    cases q : dInts ds with
    | none => rw [q] at h; cases h
    | some ms =>
      rw [q] at h
      cases h
      rw [dInts_reps q h2, rep_int h1]; rfl
theorem reps_ints {K : PySem.W.Frag} {W : Wd} {H : Hp} : ∀ ns : List Int, Reps K W H (ns.map D.int) (ns.map V.int)
  | [] => rfl
  | i :: ns => ⟨_, _, rfl, rfl, reps_ints ns⟩
@[simp] def bSorted (ds : List D) : M D := fun s => match ds with
  | [.lst xs] => match dInts xs with
    | some ns => .ok (.lst ((srtI ns).map D.int)) s
    | none => .no
  | _ => .no
theorem rc_sorted {G : Gx} : RC G (rSortedI G.K) bSorted := by
  intro W H s ds vs Q hs rs h
  unfold bSorted at h
  split at h
  · split at h
    · rename_i ns q
      obtain ⟨v, rfl, r⟩ := rs.one
      obtain ⟨a, us, rfl, h1, _, r1⟩ := rep_lst r
      have e := dInts_reps q r1
      subst e
      refine ⟨a, ns, rfl, .inl (.inl h1), fun ns' p hp hw hf => ?_⟩
      have e := sorted_eq (hp.trans (srtI_perm ns).symm) hw (srtI_sorted ns)
      subst e
      exact h.lst hs (reps_ints _) hf
    · exact h.elim
  · exact h.elim
@[simp] def opShl (x y : D) : M D := fun s => match x, y with
  | .int i, .int j => if 0 ≤ j ∧ j ≤ 1000000 ∧ i.natAbs < 2 ^ 64 then .ok (.int (i * 2 ^ j.toNat)) s else .no
  | _, _ => .no
theorem rb_shl {G : Gx} : RB G (rI CPow fun i j => V.int (i * 2 ^ j.toNat)) opShl := by
  intro W H s x y v u Q hs rx ry h
  unfold opShl at h
  split at h
  · split at h
    · rename_i hz; exact ⟨_, _, rep_int rx, rep_int ry, hz, h.now hs (by simp)⟩
    · exact h.elim
  · exact h.elim
/-! ### list(range(..)) -/
instance (a b : Int) : Decidable (RgOk a b) := Classical.propDecidable _
@[simp] theorem RgOk.small' {a b : Int} (h0 : -1000000 ≤ a) (h1 : a ≤ 1000000) (h2 : -1000000 ≤ b) (h3 : b ≤ 1000000) : RgOk a b := ⟨by omega, by omega, by omega, by omega, by omega⟩
@[simp] def mLstR1 (ma : VE → M D) : VE → M D := fun env s => (ma env s).bind fun d s => match d with
  | .int j => if RgOk 0 j then .ok (.lst (rngD 0 j)) s else .no
  | _ => .no
@[simp] def mLstR2 (ma mb : VE → M D) : VE → M D := fun env s => (ma env s).bind fun d s => (mb env s).bind fun e s => match d, e with
  | .int i, .int j => if RgOk i j then .ok (.lst (rngD i j)) s else .no
  | _, _ => .no
theorem reps_rg {K : PySem.W.Frag} {W : Wd} {H : Hp} (i j : Int) : Reps K W H (rngD i j) (rgV i j) := by
  have e1 : rngD i j = ((List.range (j - i).toNat).map fun (k : Nat) => i + (k : Int)).map D.int := by unfold rngD; rw [List.map_map]; rfl
  have e2 : rgV i j = ((List.range (j - i).toNat).map fun (k : Nat) => i + (k : Int)).map V.int := by unfold rgV; rw [List.map_map]; rfl
  rw [e1, e2]
  exact reps_ints _
theorem ee_listR1 {X : Cx} {G : Gx} {a : Expr} {ma : VE → M D} {p p2 pos pos2 : Pos} (hc : X.calm = true) (hm : X.mg "list" = none) (hr : X.mg "range" = none) (ha : EE X G a ma) (hg : Gl X "list" := by rfl) (hg2 : Gl X "range" := by rfl)
    (na : starEach [a] X.env = (false, eval a X.env) :: starEach [] X.env := by rfl) (nb : starEach [.Call (.Name "range" p2) [a] [] pos2] X.env = (false, eval (.Call (.Name "range" p2) [a] [] pos2) X.env) :: starEach [] X.env := by rfl) :
    EE X G (.Call (.Name "list" p) [.Call (.Name "range" p2) [a] [] pos2] [] pos) (mLstR1 ma) :=
  pe_imp (pe_listRg hc hg hm (prg_1 hg2 hr ha na) nb) fun σ H Q h => by
    obtain ⟨W, env, s, hen, hs, h⟩ := h
    refine tM_bind hen hs h fun W1 H1 v x s1 e1 he1 hs1 rx _ h1 => ?_
    split at h1
    · split at h1
      · rename_i ok
        exact ⟨_, rep_int rx, ok, fun q hq => h1.lst hs1 (reps_rg _ _) hq⟩
      · exact h1.elim
    · exact h1.elim
theorem ee_listR2 {X : Cx} {G : Gx} {a b : Expr} {ma mb : VE → M D} {p p2 pos pos2 : Pos} (hc : X.calm = true) (hm : X.mg "list" = none) (hr : X.mg "range" = none) (ha : EE X G a ma) (hb : EE X G b mb) (hg : Gl X "list" := by rfl) (hg2 : Gl X "range" := by rfl)
    (na : starEach [a, b] X.env = (false, eval a X.env) :: starEach [b] X.env := by rfl) (nb : starEach [b] X.env = (false, eval b X.env) :: starEach [] X.env := by rfl) (hp : (backTo pos2 (starEach [b] X.env)).any (·.1) = false := by rfl)
    (nc : starEach [.Call (.Name "range" p2) [a, b] [] pos2] X.env = (false, eval (.Call (.Name "range" p2) [a, b] [] pos2) X.env) :: starEach [] X.env := by rfl) :
    EE X G (.Call (.Name "list" p) [.Call (.Name "range" p2) [a, b] [] pos2] [] pos) (mLstR2 ma mb) :=
  pe_imp (pe_listRg hc hg hm (prg_2 hg2 hr ha hb na nb hp) nc) fun σ H Q h => by
    obtain ⟨W, env, s, hen, hs, h⟩ := h
    refine tM_bind hen hs h fun W1 H1 v x s1 e1 he1 hs1 rx _ h1 => ?_
    refine ⟨W1, env, s1, he1, hs1, ?_⟩
    cases q : mb env s1 with
    | ok e s2 =>
      rw [q] at h1
      intro W2 H2 y e2 ws2 ry
      have h2 := Aft.ext e2 h1
      simp only [bind_ok] at h2
      split at h2
      · split at h2
        · rename_i ok
          exact ⟨_, _, rep_int rx, rep_int ry, ok, fun q hq => h2.lst ws2 (reps_rg _ _) hq⟩
        · exact h2.elim
      · exact h2.elim
    | exc x s' => rw [q] at h1; exact h1
    | no => rw [q] at h1; exact h1
end
end L2.Mir

set_option Elab.async false
set_option linter.all false
set_option maxRecDepth 100000
namespace L2.Mir
open PySem PySem.Spec PyProof.Rows
noncomputable section
/-! ### lists read out of an own list of lists -/
@[simp] def Sl.rows : Sl → Bool
  | .own (.lst _ :: _) => true
  | .own _ => false
  | _ => true
/-- a row of tuples, and every own list is a list of lists -/
@[simp] def D.apt (env : SE) : D → Bool
  | .lst (.tup a :: r) => D.flats (.tup a :: r) && env.all Sl.rows
  | d => d.flat
theorem ps_impI {X : Cx} {st : Stmt} {t t' : TS} (h : PS X st t) (i : ∀ pins s D σ H, Inv X pins σ H s → t' D σ H → t D σ H) : PS X st t' := ⟨fun pins s σ H D I q => h.run pins s σ H D I (i pins s D σ H I q)⟩
theorem Inv.notK {X : Cx} {pins : List (Addr × Obj)} {σ : L2.St} {H : Hp} {s : Shared} (I : Inv X pins σ H s) {a : Addr} {us : List V} (h : H a = some (.lst us)) {o : Obj} (hk : X.K.lookup a = some o) (hc : o.cls = .type "tuple") : False := by
  obtain ⟨z, its, n, r, e⟩ := (Rd.of h).ok I.hok
  have := I.kIn a o hk
  have e2 := Option.some.inj (e.symm.trans this)
  rw [← e2] at hc
  exact absurd hc (by simp)
section
variable {X : Cx} {G : Gx}
theorem Rep.aptW {K : PySem.W.Frag} {H0 : Hp} {W0 : Wd} {pins : List (D × V)} {ps : List (Addr × Obj)} {W W' : Wd} {H H' : Hp} {σ : L2.St} {env : SE} {s : DS} {sh : Shared} (hK : X.K = K) (I : Inv X ps σ H sh) (ok : StOk K H0 W0 pins W H σ env s) (e : Ext (W.see env σ) H W' H') {d : D} {u : V} (ha : d.apt env = true) (r : Rep K W' H' d u) : Rep K (W'.unsee env σ) H' d u := by
  unfold D.apt at ha
  split at ha
  · rename_i a r'
    rw [Bool.and_eq_true] at ha
    obtain ⟨hf, hall⟩ := ha
    simp only [Rep] at r
    obtain ⟨p, vs, rfl, h1, h2, h3⟩ := r
    have r3 := Reps.flatW (W := W') (W' := W'.unsee env σ) _ _ hf (fun _ z => z) h3
    suffices hn : ¬ OwnAt env σ p by
      simp only [Rep]
      exact ⟨p, vs, rfl, h1, ⟨h2, hn⟩, r3⟩
    rintro ⟨i, ds, g1, g2⟩
    obtain ⟨p', ws, e1, e2, e3, e4, e5, e6⟩ := ok.own i ds g1
    rw [g2] at e1
    cases e1
    have hr := List.all_eq_true.mp hall _ (List.mem_of_getElem? g1)
    have nS : ¬ (W.see env σ).isS p := e5
    have k1 := e.keep p _ e2 nS
    rw [h1] at k1
    cases k1
    cases ds with
    | nil => simp [Sl.rows] at hr
    | cons d0 dr =>
      cases d0 <;> simp [Sl.rows] at hr
      rename_i xs
      simp only [Reps] at e3 h3
      obtain ⟨v0, w0, rfl, q1, q2⟩ := e3
      obtain ⟨v1, w1, ew, t1, t2⟩ := h3
      cases ew
      simp only [Rep] at q1 t1
      obtain ⟨b, us, rfl, b1, b2, b3⟩ := q1
      obtain ⟨c, zs, ec, c1, c2⟩ := t1
      cases ec
      have k2 := e.frs b _ (.inl b2) b1
      rcases c1 with (c1 | ⟨o, c1⟩) | ⟨o, its, n, hk, hc, _⟩
      · rw [k2] at c1; cases c1
      · rw [k2] at c1; cases c1
      · exact Inv.notK I b1 (by rw [hK]; exact hk) hc
  · exact Rep.flatW (W := W') (W' := W'.unsee env σ) _ _ ha (fun _ z => z) r
/-- a, b = e1, e2, the own lists seen -/
@[simp] def sParL (i j : Nat) (ml : VE → M (List D)) : MS := fun env s => (ml (viewE env) s).bind fun ds s => match ds with
  | [d, d'] => if d.apt env = true ∧ d'.apt env = true then .ok (.nx ((env.set i (.val d)).set j (.val d'))) s else .no
  | _ => .no
theorem es_parL (hK : X.K = G.K) (i j : Nat) {x y : Str} {a b : Expr} {ml : VE → M (List D)} {px py pt pos : Pos} {kt k2 pt2} (hc : X.calm = true) (hN : X.N.Nodup) (ha : EA X G [a, b] ml) (hi : X.N[i]? = some x := by rfl) (hj : X.N[j]? = some y := by rfl) (hij : i ≠ j := by decide)
    (hx : X.env.scope.names.lookup x = some .local := by rfl) (hy : X.env.scope.names.lookup y = some .local := by rfl)
    (hw : swappedStores [.Tuple [.Name x px, .Name y py] kt pt] (.Tuple [a, b] k2 pt2) X.env = pure (some [x, y]) := by rfl)
    (hs : swapsWithSole [.Tuple [.Name x px, .Name y py] kt pt] (.Tuple [a, b] k2 pt2) pos.line X.env = pure false := by rfl) :
    ES X G (.Assign [.Tuple [.Name x px, .Name y py] kt pt] (.Tuple [a, b] k2 pt2) pos) (sParL i j ml) := ps_impI (ps_par hc hN hi hj hij hx hy ha hw hs) fun ps sh D σ H I h => by
  obtain ⟨H0, W0, pins, W, env, s, ok, h⟩ := h
  refine ⟨W.see env σ, viewE env, s, ok.seen, ok.seeWS, ?_⟩
  unfold sParL at h
  cases q : ml (viewE env) s with
  | ok ds s' =>
    rw [q] at h
    simp only [bind_ok] at h
    intro W' H' u e ws rp
    split at h
    · rename_i d d'
      split at h
      · rename_i hap
        obtain ⟨v1, v2, rfl, r1, r2⟩ := rp.two
        have e2 := ok.unseeExt e
        have ok' := ok.after e2 (unseeWS ws)
        exact ⟨v1, v2, rfl, h (W'.unsee env σ) H' _ ((ok'.set (Rep.aptW hK I ok e hap.1 r1)).set (Rep.aptW hK I ok e hap.2 r2))⟩
      · exact h.elim
    · exact h.elim
  | exc x s' =>
    rw [q] at h
    exact fun W' H' c dd e ws rp => h (W'.unsee env σ) H' c dd (ok.ext.trans (ok.unseeExt e)) (unseeWS ws) rp
  | no => rw [q] at h; exact h
end
end
end L2.Mir

set_option Elab.async false
set_option linter.all false
set_option maxRecDepth 100000
set_option maxHeartbeats 4000000
namespace L2.Mir.W
open PySem PySem.Spec PyProof.Rows
def topS (i : Nat) : Stmt := PySem.Challenge.pw_bendwright_k29_whole_rounded_steps.main.body.getD i (.Pass ⟨0, 0, 0, 0⟩)
def xr0 : XR := fun _ _ _ _ _ => False
abbrev s_divisor : Stmt := topS 4
abbrev nm_divisor : List Str := ["one", "other"]
theorem sc_divisor : FnScope nm_divisor ["one", "other"] (defScope s_divisor) := ⟨rfl, rfl, rfl, by decide +kernel, rfl, by decide +kernel, by decide +kernel⟩
abbrev s_part : Stmt := topS 5
abbrev nm_part : List Str := ["above", "below", "common"]
theorem sc_part : FnScope nm_part ["above", "below"] (defScope s_part) := ⟨rfl, rfl, rfl, by decide +kernel, rfl, by decide +kernel, by decide +kernel⟩
abbrev s_is_part : Stmt := topS 6
abbrev nm_is_part : List Str := ["value", "number"]
theorem sc_is_part : FnScope nm_is_part ["value"] (defScope s_is_part) := ⟨rfl, rfl, rfl, by decide +kernel, rfl, by decide +kernel, by decide +kernel⟩
abbrev s_plus : Stmt := topS 7
abbrev nm_plus : List Str := ["one", "other"]
theorem sc_plus : FnScope nm_plus ["one", "other"] (defScope s_plus) := ⟨rfl, rfl, rfl, by decide +kernel, rfl, by decide +kernel, by decide +kernel⟩
abbrev s_minus : Stmt := topS 8
abbrev nm_minus : List Str := ["one", "other"]
theorem sc_minus : FnScope nm_minus ["one", "other"] (defScope s_minus) := ⟨rfl, rfl, rfl, by decide +kernel, rfl, by decide +kernel, by decide +kernel⟩
abbrev s_times : Stmt := topS 9
abbrev nm_times : List Str := ["one", "other"]
theorem sc_times : FnScope nm_times ["one", "other"] (defScope s_times) := ⟨rfl, rfl, rfl, by decide +kernel, rfl, by decide +kernel, by decide +kernel⟩
abbrev s_whole_below : Stmt := topS 10
abbrev nm_whole_below : List Str := ["one"]
theorem sc_whole_below : FnScope nm_whole_below ["one"] (defScope s_whole_below) := ⟨rfl, rfl, rfl, by decide +kernel, rfl, by decide +kernel, by decide +kernel⟩
abbrev s_is_steps : Stmt := topS 14
abbrev nm_is_steps : List Str := ["value", "one"]
theorem sc_is_steps : FnScope nm_is_steps ["value"] (defScope s_is_steps) := ⟨rfl, rfl, rfl, by decide +kernel, rfl, by decide +kernel, by decide +kernel⟩
abbrev s_is_step : Stmt := topS 15
abbrev nm_is_step : List Str := ["value", "one", "k"]
theorem sc_is_step : FnScope nm_is_step ["value"] (defScope s_is_step) := ⟨rfl, rfl, rfl, by decide +kernel, rfl, by decide +kernel, by decide +kernel⟩
abbrev s_is_wholes : Stmt := topS 16
abbrev nm_is_wholes : List Str := ["value", "one"]
theorem sc_is_wholes : FnScope nm_is_wholes ["value"] (defScope s_is_wholes) := ⟨rfl, rfl, rfl, by decide +kernel, rfl, by decide +kernel, by decide +kernel⟩
abbrev s_told_by : Stmt := topS 17
abbrev nm_told_by : List Str := ["step", "row", "place", "found", "k"]
theorem sc_told_by : FnScope nm_told_by ["step", "row", "place"] (defScope s_told_by) := ⟨rfl, rfl, rfl, by decide +kernel, rfl, by decide +kernel, by decide +kernel⟩
abbrev s_stepped : Stmt := topS 18
abbrev nm_stepped : List Str := ["pair", "step", "sign", "side", "other", "fresh", "k"]
theorem sc_stepped : FnScope nm_stepped ["pair", "step", "sign"] (defScope s_stepped) := ⟨rfl, rfl, rfl, by decide +kernel, rfl, by decide +kernel, by decide +kernel⟩
abbrev s_apart : Stmt := topS 19
abbrev nm_apart : List Str := ["row", "steps", "pair", "step"]
theorem sc_apart : FnScope nm_apart ["row", "steps"] (defScope s_apart) := ⟨rfl, rfl, rfl, by decide +kernel, rfl, by decide +kernel, by decide +kernel⟩
abbrev s_together : Stmt := topS 20
abbrev nm_together : List Str := ["pair", "steps", "step", "found", "k"]
theorem sc_together : FnScope nm_together ["pair", "steps"] (defScope s_together) := ⟨rfl, rfl, rfl, by decide +kernel, rfl, by decide +kernel, by decide +kernel⟩
abbrev s_pyramid : Stmt := topS 21
abbrev nm_pyramid : List Str := ["row", "steps", "many", "lows", "highs", "turn", "high"]
theorem sc_pyramid : FnScope nm_pyramid ["row", "steps", "many"] (defScope s_pyramid) := ⟨rfl, rfl, rfl, by decide +kernel, rfl, by decide +kernel, by decide +kernel⟩
abbrev s_back : Stmt := topS 22
abbrev nm_back : List Str := ["told", "steps", "lows", "highs", "high"]
theorem sc_back : FnScope nm_back ["told", "steps"] (defScope s_back) := ⟨rfl, rfl, rfl, by decide +kernel, rfl, by decide +kernel, by decide +kernel⟩
abbrev s_without_rounding : Stmt := topS 23
abbrev nm_without_rounding : List Str := ["row", "steps", "pair", "side", "first", "parts", "other", "size", "fresh", "k", "told", "j", "one"]
theorem sc_without_rounding : FnScope nm_without_rounding ["row", "steps"] (defScope s_without_rounding) := ⟨rfl, rfl, rfl, by decide +kernel, rfl, by decide +kernel, by decide +kernel⟩
abbrev s_gap_of : Stmt := topS 24
abbrev nm_gap_of : List Str := ["row", "steps", "told", "plain", "best", "side", "k", "gap"]
theorem sc_gap_of : FnScope nm_gap_of ["row", "steps"] (defScope s_gap_of) := ⟨rfl, rfl, rfl, by decide +kernel, rfl, by decide +kernel, by decide +kernel⟩
abbrev s_means_and_gaps : Stmt := topS 25
abbrev nm_means_and_gaps : List Str := []
theorem sc_means_and_gaps : FnScope nm_means_and_gaps [] (defScope s_means_and_gaps) := ⟨rfl, rfl, rfl, by decide +kernel, rfl, by decide +kernel, by decide +kernel⟩
abbrev s_near_means : Stmt := topS 26
abbrev nm_near_means : List Str := []
theorem sc_near_means : FnScope nm_near_means [] (defScope s_near_means) := ⟨rfl, rfl, rfl, by decide +kernel, rfl, by decide +kernel, by decide +kernel⟩
abbrev s_zigzag : Stmt := topS 27
abbrev nm_zigzag : List Str := ["number"]
theorem sc_zigzag : FnScope nm_zigzag ["number"] (defScope s_zigzag) := ⟨rfl, rfl, rfl, by decide +kernel, rfl, by decide +kernel, by decide +kernel⟩
abbrev s_unzigzag : Stmt := topS 28
abbrev nm_unzigzag : List Str := ["number"]
theorem sc_unzigzag : FnScope nm_unzigzag ["number"] (defScope s_unzigzag) := ⟨rfl, rfl, rfl, by decide +kernel, rfl, by decide +kernel, by decide +kernel⟩
abbrev s_cost : Stmt := topS 29
abbrev nm_cost : List Str := ["row", "found", "one", "told", "digits"]
theorem sc_cost : FnScope nm_cost ["row"] (defScope s_cost) := ⟨rfl, rfl, rfl, by decide +kernel, rfl, by decide +kernel, by decide +kernel⟩
abbrev s_is_same_way : Stmt := topS 30
abbrev nm_is_same_way : List Str := ["row", "steps"]
theorem sc_is_same_way : FnScope nm_is_same_way ["row", "steps"] (defScope s_is_same_way) := ⟨rfl, rfl, rfl, by decide +kernel, rfl, by decide +kernel, by decide +kernel⟩
abbrev s__law_state : Stmt := topS 32
abbrev nm__law_state : List Str := ["script", "numbers_left", "cell"]
theorem sc__law_state : FnScope nm__law_state ["script"] (defScope s__law_state) := ⟨rfl, rfl, rfl, by decide +kernel, rfl, by decide +kernel, by decide +kernel⟩
abbrev s__law_take : Stmt := topS 33
abbrev nm__law_take : List Str := ["state", "most", "numbers_left", "at", "cell", "stirred"]
theorem sc__law_take : FnScope nm__law_take ["state", "most"] (defScope s__law_take) := ⟨rfl, rfl, rfl, by decide +kernel, rfl, by decide +kernel, by decide +kernel⟩
abbrev s__law_part : Stmt := topS 35
abbrev nm__law_part : List Str := ["above", "below", "one", "other"]
theorem sc__law_part : FnScope nm__law_part ["above", "below"] (defScope s__law_part) := ⟨rfl, rfl, rfl, by decide +kernel, rfl, by decide +kernel, by decide +kernel⟩
abbrev s__law_add : Stmt := topS 36
abbrev nm__law_add : List Str := ["one", "other"]
theorem sc__law_add : FnScope nm__law_add ["one", "other"] (defScope s__law_add) := ⟨rfl, rfl, rfl, by decide +kernel, rfl, by decide +kernel, by decide +kernel⟩
abbrev s__law_mul : Stmt := topS 37
abbrev nm__law_mul : List Str := ["one", "other"]
theorem sc__law_mul : FnScope nm__law_mul ["one", "other"] (defScope s__law_mul) := ⟨rfl, rfl, rfl, by decide +kernel, rfl, by decide +kernel, by decide +kernel⟩
abbrev s__law_neg : Stmt := topS 38
abbrev nm__law_neg : List Str := ["one"]
theorem sc__law_neg : FnScope nm__law_neg ["one"] (defScope s__law_neg) := ⟨rfl, rfl, rfl, by decide +kernel, rfl, by decide +kernel, by decide +kernel⟩
abbrev s__law_total : Stmt := topS 40
abbrev nm__law_total : List Str := ["rows", "found", "one"]
theorem sc__law_total : FnScope nm__law_total ["rows"] (defScope s__law_total) := ⟨rfl, rfl, rfl, by decide +kernel, rfl, by decide +kernel, by decide +kernel⟩
abbrev s__law_fraction : Stmt := topS 46
abbrev nm__law_fraction : List Str := ["state", "most"]
theorem sc__law_fraction : FnScope nm__law_fraction ["state", "most"] (defScope s__law_fraction) := ⟨rfl, rfl, rfl, by decide +kernel, rfl, by decide +kernel, by decide +kernel⟩
abbrev s__law_floor : Stmt := topS 47
abbrev nm__law_floor : List Str := ["one"]
theorem sc__law_floor : FnScope nm__law_floor ["one"] (defScope s__law_floor) := ⟨rfl, rfl, rfl, by decide +kernel, rfl, by decide +kernel, by decide +kernel⟩
abbrev s__law_steps : Stmt := topS 48
abbrev nm__law_steps : List Str := ["state", "found", "k", "j"]
theorem sc__law_steps : FnScope nm__law_steps ["state"] (defScope s__law_steps) := ⟨rfl, rfl, rfl, by decide +kernel, rfl, by decide +kernel, by decide +kernel⟩
abbrev s__law_told : Stmt := topS 49
abbrev nm__law_told : List Str := ["step", "row", "place", "found", "k"]
theorem sc__law_told : FnScope nm__law_told ["step", "row", "place"] (defScope s__law_told) := ⟨rfl, rfl, rfl, by decide +kernel, rfl, by decide +kernel, by decide +kernel⟩
abbrev s__law_apart : Stmt := topS 50
abbrev nm__law_apart : List Str := ["row", "steps", "sign", "lists", "step", "side", "other", "fresh", "k"]
theorem sc__law_apart : FnScope nm__law_apart ["row", "steps", "sign"] (defScope s__law_apart) := ⟨rfl, rfl, rfl, by decide +kernel, rfl, by decide +kernel, by decide +kernel⟩
abbrev s__law_there : Stmt := topS 51
abbrev nm__law_there : List Str := ["state", "steps", "row", "due", "size", "step", "other", "place", "pair", "fresh", "k"]
theorem sc__law_there : FnScope nm__law_there ["state", "steps", "row"] (defScope s__law_there) := ⟨rfl, rfl, rfl, by decide +kernel, rfl, by decide +kernel, by decide +kernel⟩
abbrev s__law_plain : Stmt := topS 52
abbrev nm__law_plain : List Str := ["steps", "row", "lists", "size", "side", "first", "parts_told", "fresh", "k", "told", "best", "gap", "one", "j"]
theorem sc__law_plain : FnScope nm__law_plain ["steps", "row"] (defScope s__law_plain) := ⟨rfl, rfl, rfl, by decide +kernel, rfl, by decide +kernel, by decide +kernel⟩
abbrev s__law_pyramids : Stmt := topS 53
abbrev nm__law_pyramids : List Str := ["state", "steps", "many", "row", "lows", "highs", "turn", "pair", "told", "k"]
theorem sc__law_pyramids : FnScope nm__law_pyramids ["state", "steps"] (defScope s__law_pyramids) := ⟨rfl, rfl, rfl, by decide +kernel, rfl, by decide +kernel, by decide +kernel⟩
abbrev s__law_word : Stmt := topS 54
abbrev nm__law_word : List Str := ["call", "row", "steps", "many", "told", "error"]
theorem sc__law_word : FnScope nm__law_word ["call", "row", "steps", "many"] (defScope s__law_word) := ⟨rfl, rfl, rfl, by decide +kernel, rfl, by decide +kernel, by decide +kernel⟩
abbrev s__law_known : Stmt := topS 55
abbrev nm__law_known : List Str := ["state", "row", "means", "gaps", "k", "low", "high", "near", "half", "numbers", "whole", "one", "told", "digits"]
theorem sc__law_known : FnScope nm__law_known ["state"] (defScope s__law_known) := ⟨rfl, rfl, rfl, by decide +kernel, rfl, by decide +kernel, by decide +kernel⟩
abbrev s__law_odd : Stmt := topS 56
abbrev nm__law_odd : List Str := ["step", "bad", "less", "value", "pair"]
theorem sc__law_odd : FnScope nm__law_odd [] (defScope s__law_odd) := ⟨rfl, rfl, rfl, by decide +kernel, rfl, by decide +kernel, by decide +kernel⟩
abbrev s_law : Stmt := topS 57
abbrev nm_law : List Str := ["script", "state", "turn", "steps", "row", "k"]
theorem sc_law : FnScope nm_law ["script"] (defScope s_law) := ⟨rfl, rfl, rfl, by decide +kernel, rfl, by decide +kernel, by decide +kernel⟩
noncomputable section
/-! mirrors -/
abbrev f__law_take : List D → M D := fTake
def m_divisor : MS := (sSeq (sPar false 0 1 (mCons (mCB bAbs (mCons (mVar 0) mNil)) (mCons (mCB bAbs (mCons (mVar 1) mNil)) mNil))) (sSeq (sWhile (mCmpT opNe (mVar 1) (mC (.int 0))) (sPar false 0 1 (mCons (mVar 1) (mCons (mBin opMod (mVar 0) (mVar 1)) mNil)))) (sRet (mVar 0))))
def f_divisor : List D → M D := runDef 2 m_divisor
def m_part : MS := (sSeq (sIf (mCmpT (opCmp pLt) (mVar 1) (mC (.int 0))) (sPar false 0 1 (mCons (mBin opSub (mC (.int 0)) (mVar 0)) (mCons (mBin opSub (mC (.int 0)) (mVar 1)) mNil))) sNx) (sSeq (sSet false 2 (mCB f_divisor (mCons (mVar 0) (mCons (mVar 1) mNil)))) (sRet (mTup (mCons (mBin opDiv (mVar 0) (mVar 2)) (mCons (mBin opDiv (mVar 1) (mVar 2)) mNil))))))
def f_part : List D → M D := runDef 3 m_part
def m_is_part : MS := (sSeq (sIf (mOrT (mNotT (mTru (mIsi "tuple" (mVar 0)))) (mCmpT opNe (mCB bLen (mCons (mVar 0) mNil)) (mC (.int 2)))) (sRet (mC (.bl false))) sNx) (sSeq (sIf (mNotT (mTru (mCB bAll (mCons (mLc (.n 1) [1] (mSeq (mVar 0)) tsYes (mAnd (mIsi "int" (mVar 1)) (mNot (mIsi "bool" (mVar 1))))) mNil)))) (sRet (mC (.bl false))) sNx) (sRet (mAnd (mBin (opCmp pGe) (mBin opIxQ (mVar 0) (mC (.int 1))) (mC (.int 1))) (mBin opEq (mCB f_divisor (mCons (mBin opIxQ (mVar 0) (mC (.int 0))) (mCons (mBin opIxQ (mVar 0) (mC (.int 1))) mNil))) (mC (.int 1)))))))
def f_is_part : List D → M D := runDef 2 m_is_part
def m_plus : MS := (sRet (mCB f_part (mCons (mBin opAdd (mBin opMulT (mBin opIxQ (mVar 0) (mC (.int 0))) (mBin opIxQ (mVar 1) (mC (.int 1)))) (mBin opMulT (mBin opIxQ (mVar 1) (mC (.int 0))) (mBin opIxQ (mVar 0) (mC (.int 1))))) (mCons (mBin opMulT (mBin opIxQ (mVar 0) (mC (.int 1))) (mBin opIxQ (mVar 1) (mC (.int 1)))) mNil))))
def f_plus : List D → M D := runDef 2 m_plus
def m_minus : MS := (sRet (mCB f_part (mCons (mBin opSub (mBin opMulT (mBin opIxQ (mVar 0) (mC (.int 0))) (mBin opIxQ (mVar 1) (mC (.int 1)))) (mBin opMulT (mBin opIxQ (mVar 1) (mC (.int 0))) (mBin opIxQ (mVar 0) (mC (.int 1))))) (mCons (mBin opMulT (mBin opIxQ (mVar 0) (mC (.int 1))) (mBin opIxQ (mVar 1) (mC (.int 1)))) mNil))))
def f_minus : List D → M D := runDef 2 m_minus
def m_times : MS := (sRet (mCB f_part (mCons (mBin opMulT (mBin opIxQ (mVar 0) (mC (.int 0))) (mBin opIxQ (mVar 1) (mC (.int 0)))) (mCons (mBin opMulT (mBin opIxQ (mVar 0) (mC (.int 1))) (mBin opIxQ (mVar 1) (mC (.int 1)))) mNil))))
def f_times : List D → M D := runDef 2 m_times
def m_whole_below : MS := (sRet (mBin opDiv (mBin opIxQ (mVar 0) (mC (.int 0))) (mBin opIxQ (mVar 0) (mC (.int 1)))))
def f_whole_below : List D → M D := runDef 1 m_whole_below
def m_is_step : MS := (sSeq (sIf (mOrT (mNotT (mTru (mIsi "tuple" (mVar 0)))) (mOrT (mCmpT opNe (mCB bLen (mCons (mVar 0) mNil)) (mC (.int 3))) (mNotT (mTru (mIsi "tuple" (mBin opIxQ (mVar 0) (mC (.int 2)))))))) (sRet (mC (.bl false))) sNx) (sSeq (sIf (mNotT (mTru (mCB bAll (mCons (mLc (.n 2) [2] (mSeq (mSl (mVar 0) mNoP (mPart (mC (.int 2))))) tsYes (mAnd (mIsi "int" (mVar 2)) (mNot (mIsi "bool" (mVar 2))))) mNil)))) (sRet (mC (.bl false))) sNx) (sSeq (sIf (mOrT (mCmpT (opIn true) (mBin opIxQ (mVar 0) (mC (.int 0))) (mTup (mCons (mC (.int 0)) (mCons (mC (.int 1)) mNil)))) (mOrT (mCmpT (opCmp pGt) (mCB bAbs (mCons (mBin opIxQ (mVar 0) (mC (.int 1))) mNil)) (mC (.int 8))) (mNotT (mChainT (opCmp pLe) (opCmp pLe) (mC (.int 1)) (mCB bLen (mCons (mBin opIxQ (mVar 0) (mC (.int 2))) mNil)) (mC (.int 8)))))) (sRet (mC (.bl false))) sNx) (sRet (mCB bAll (mCons (mLc (.n 1) [1] (mSeq (mBin opIxQ (mVar 0) (mC (.int 2)))) tsYes (mCall f_is_part (mCons (mVar 1) mNil))) mNil))))))
def f_is_step : List D → M D := runDef 3 m_is_step
def m_is_steps : MS := (sSeq (sIf (mOrT (mNotT (mTru (mIsi "tuple" (mVar 0)))) (mCmpT (opCmp pGt) (mCB bLen (mCons (mVar 0) mNil)) (mC (.int 6)))) (sRet (mC (.bl false))) sNx) (sRet (mCB bAll (mCons (mLc (.n 1) [1] (mSeq (mVar 0)) tsYes (mCall f_is_step (mCons (mVar 1) mNil))) mNil))))
def f_is_steps : List D → M D := runDef 2 m_is_steps
def m_is_wholes : MS := (sSeq (sIf (mOrT (mNotT (mTru (mIsi "list" (mVar 0)))) (mOrT (mNotT (mChainT (opCmp pLe) (opCmp pLe) (mC (.int 2)) (mCB bLen (mCons (mVar 0) mNil)) (mC (.int 64)))) (mCmpT opEq (mBin opMod (mCB bLen (mCons (mVar 0) mNil)) (mC (.int 2))) (mC (.int 1))))) (sRet (mC (.bl false))) sNx) (sRet (mCB bAll (mCons (mLc (.n 1) [1] (mSeq (mVar 0)) tsYes (mAnd (mIsi "int" (mVar 1)) (mNot (mIsi "bool" (mVar 1))))) mNil))))
def f_is_wholes : List D → M D := runDef 2 m_is_wholes
def m_told_by : MS := (sSeq (sSet false 3 (mTup (mCons (mC (.int 1)) (mCons (mC (.int 2)) mNil)))) (sSeq (sFor (.n 4) (mRng1 (mCons (mCB bLen (mCons (mBin opIxQ (mVar 0) (mC (.int 2))) mNil)) mNil)) (sSet false 3 (mCB f_plus (mCons (mVar 3) (mCons (mCB f_times (mCons (mBin opIxQ (mBin opIxQ (mVar 0) (mC (.int 2))) (mVar 4)) (mCons (mTup (mCons (mBin opIxQ (mVar 1) (mBin opMod (mBin opAdd (mBin opAdd (mVar 2) (mBin opIxQ (mVar 0) (mC (.int 1)))) (mVar 4)) (mCB bLen (mCons (mVar 1) mNil)))) (mCons (mC (.int 1)) mNil))) mNil))) mNil))))) (sRet (mCB f_whole_below (mCons (mVar 3) mNil)))))
def f_told_by : List D → M D := runDef 5 m_told_by
def m_stepped : MS := (sSeq (sSet false 3 (mBin opIxQ (mVar 1) (mC (.int 0)))) (sSeq (sSet false 4 (mBin opIxQ (mVar 0) (mBin opSub (mC (.int 1)) (mVar 3)))) (sSeq (sSet false 5 (mLc (.n 6) [6] (mRng1 (mCons (mCB bLen (mCons (mBin opIxQ (mVar 0) (mVar 3)) mNil)) mNil)) tsYes (mBin opAdd (mBin opIxQ (mBin opIxQ (mVar 0) (mVar 3)) (mVar 6)) (mBin opMulT (mVar 2) (mCall f_told_by (mCons (mVar 1) (mCons (mVar 4) (mCons (mVar 6) mNil)))))))) (sRet (mIf (mCmpT opEq (mVar 3) (mC (.int 0))) (mTup (mCons (mVar 5) (mCons (mBin opIxQ (mVar 0) (mC (.int 1))) mNil))) (mTup (mCons (mBin opIxQ (mVar 0) (mC (.int 0))) (mCons (mVar 5) mNil))))))))
def f_stepped : List D → M D := runDef 7 m_stepped
def m_apart : MS := (sSeq (sIf (mNotT (mTru (mCB f_is_wholes (mCons (mVar 0) mNil)))) (sRaise 0 (PySem.Str.ofString "long")) sNx) (sSeq (sSet false 2 (mTup (mCons (mStr 2 (mVar 0) mNoP) (mCons (mStr 2 (mVar 0) (mPart (mC (.int 1)))) mNil)))) (sSeq (sFor (.n 3) (mSeq (mVar 1)) (sSet false 2 (mCB f_stepped (mCons (mVar 2) (mCons (mVar 3) (mCons (mC (.int 1)) mNil)))))) (sRet (mVar 2)))))
def f_apart : List D → M D := runDef 4 m_apart
def m_together : MS := (sSeq (sIf (mOrT (mCmpT opNe (mCB bLen (mCons (mBin opIxQ (mVar 0) (mC (.int 0))) mNil)) (mCB bLen (mCons (mBin opIxQ (mVar 0) (mC (.int 1))) mNil))) (mCmpT opEq (mCB bLen (mCons (mBin opIxQ (mVar 0) (mC (.int 0))) mNil)) (mC (.int 0)))) (sRaise 0 (PySem.Str.ofString "long")) sNx) (sSeq (sFor (.n 2) (mSeq (mRevA (mVar 1))) (sSet false 0 (mCB f_stepped (mCons (mVar 0) (mCons (mVar 2) (mCons (mBin opSub (mC (.int 0)) (mC (.int 1))) mNil)))))) (sSeq (sSetO false 3 (mLst mNil)) (sSeq (sFor (.n 4) (mRng1 (mCons (mCB bLen (mCons (mBin opIxQ (mVar 0) (mC (.int 0))) mNil)) mNil)) (sExt false 3 (mLst (mCons (mBin opIxQ (mBin opIxQ (mVar 0) (mC (.int 0))) (mVar 4)) (mCons (mBin opIxQ (mBin opIxQ (mVar 0) (mC (.int 1))) (mVar 4)) mNil))))) (sRet (mVar 3))))))
def f_together : List D → M D := runDef 5 m_together
def m_pyramid : MS := (sSeq (sItems false [3, 4] (mConsV (mCB bList (mCons (mVar 0) mNil)) (mConsO (mLst mNil) mNilI))) (sSeq (sFor (.n 5) (mRng1 (mCons (mVar 2) mNil)) (sSeq (sAsg false (.t [(.n 3), (.n 6)]) (mCB f_apart (mCons (mVar 3) (mCons (mVar 1) mNil)))) (sApp false 4 (mVar 6)))) (sRet (mTup (mCons (mVar 3) (mCons (mVar 4) mNil))))))
def f_pyramid : List D → M D := runDef 7 m_pyramid
def m_back : MS := (sSeq (sAsg false (.t [(.n 2), (.n 3)]) (mVar 0)) (sSeq (sFor (.n 4) (mSeq (mRevA (mVar 3))) (sSet false 2 (mCB f_together (mCons (mTup (mCons (mVar 2) (mCons (mVar 4) mNil))) (mCons (mVar 1) mNil))))) (sRet (mCB bList (mCons (mVar 2) mNil)))))
def f_back : List D → M D := runDef 5 m_back
def m_without_rounding : MS := (sSeq (sIf (mNotT (mTru (mCB f_is_wholes (mCons (mVar 0) mNil)))) (sRaise 0 (PySem.Str.ofString "long")) sNx) (sSeq (sSetO false 2 (mLst (mCons (mLc (.n 12) [12] (mSeq (mStr 2 (mVar 0) mNoP)) tsYes (mTup (mCons (mVar 12) (mCons (mC (.int 1)) mNil)))) (mCons (mLc (.n 12) [12] (mSeq (mStr 2 (mVar 0) (mPart (mC (.int 1))))) tsYes (mTup (mCons (mVar 12) (mCons (mC (.int 1)) mNil)))) mNil)))) (sSeq (sFor (.t [(.n 3), (.n 4), (.n 5)]) (mSeq (mVar 1)) (sSeq (sParL 6 7 (mCons (mBin opIxQ (mVar 2) (mBin opSub (mC (.int 1)) (mVar 3))) (mCons (mCB bLen (mCons (mBin opIxQ (mVar 2) (mVar 3)) mNil)) mNil))) (sSeq (sSetO false 8 (mLst mNil)) (sSeq (sFor (.n 9) (mRng1 (mCons (mVar 7) mNil)) (sSeq (sSet true 10 (mBin opIxQ (mBin opIxQ (mVar 2) (mVar 3)) (mVar 9))) (sSeq (sFor (.n 11) (mRng1 (mCons (mCB bLen (mCons (mVar 5) mNil)) mNil)) (sSet false 10 (mCB f_plus (mCons (mVar 10) (mCons (mCB f_times (mCons (mBin opIxQ (mVar 5) (mVar 11)) (mCons (mBin opIxQ (mVar 6) (mBin opMod (mBin opAdd (mBin opAdd (mVar 9) (mVar 4)) (mVar 11)) (mVar 7))) mNil))) mNil))))) (sApp false 8 (mVar 10))))) (sFrz 8 (sSetI false 2 (mVar 3) (mVar 8))))))) (sRet (mTup (mCons (mBin opIxQ (mVar 2) (mC (.int 0))) (mCons (mBin opIxQ (mVar 2) (mC (.int 1))) mNil)))))))
def f_without_rounding : List D → M D := runDef 13 m_without_rounding
def m_gap_of : MS := (sSeq (sPar false 2 3 (mCons (mCB f_apart (mCons (mVar 0) (mCons (mVar 1) mNil))) (mCons (mCB f_without_rounding (mCons (mVar 0) (mCons (mVar 1) mNil))) mNil))) (sSeq (sSet false 4 (mTup (mCons (mC (.int 0)) (mCons (mC (.int 1)) mNil)))) (sSeq (sFor (.n 5) (mRng1 (mCons (mC (.int 2)) mNil)) (sFor (.n 6) (mRng1 (mCons (mCB bLen (mCons (mBin opIxQ (mVar 2) (mVar 5)) mNil)) mNil)) (sSeq (sSet false 7 (mCB f_minus (mCons (mTup (mCons (mBin opIxQ (mBin opIxQ (mVar 2) (mVar 5)) (mVar 6)) (mCons (mC (.int 1)) mNil))) (mCons (mBin opIxQ (mBin opIxQ (mVar 3) (mVar 5)) (mVar 6)) mNil)))) (sSeq (sSet false 7 (mTup (mCons (mCB bAbs (mCons (mBin opIxQ (mVar 7) (mC (.int 0))) mNil)) (mCons (mBin opIxQ (mVar 7) (mC (.int 1))) mNil)))) (sSet false 4 (mIf (mCmpT (opCmp pGt) (mBin opIxQ (mCB f_minus (mCons (mVar 7) (mCons (mVar 4) mNil))) (mC (.int 0))) (mC (.int 0))) (mVar 7) (mVar 4))))))) (sRet (mVar 4)))))
def f_gap_of : List D → M D := runDef 8 m_gap_of
def m_means_and_gaps : MS := (sRet (mTup (mCons (mTup (mCons (mC (.int 1)) (mCons (mC (.int 0)) (mCons (mTup (mCons (mTup (mCons (mBin opSub (mC (.int 0)) (mC (.int 1))) (mCons (mC (.int 1)) mNil))) mNil)) mNil)))) (mCons (mTup (mCons (mC (.int 0)) (mCons (mC (.int 0)) (mCons (mTup (mCons (mTup (mCons (mC (.int 1)) (mCons (mC (.int 2)) mNil))) mNil)) mNil)))) mNil))))
def f_means_and_gaps : List D → M D := runDef 0 m_means_and_gaps
def m_near_means : MS := (sRet (mTup (mCons (mTup (mCons (mC (.int 1)) (mCons (mC (.int 0)) (mCons (mTup (mCons (mTup (mCons (mBin opSub (mC (.int 0)) (mC (.int 1))) (mCons (mC (.int 2)) mNil))) (mCons (mTup (mCons (mBin opSub (mC (.int 0)) (mC (.int 1))) (mCons (mC (.int 2)) mNil))) mNil))) mNil)))) (mCons (mTup (mCons (mC (.int 0)) (mCons (mBin opSub (mC (.int 0)) (mC (.int 1))) (mCons (mTup (mCons (mTup (mCons (mC (.int 1)) (mCons (mC (.int 4)) mNil))) (mCons (mTup (mCons (mC (.int 1)) (mCons (mC (.int 4)) mNil))) mNil))) mNil)))) mNil))))
def f_near_means : List D → M D := runDef 0 m_near_means
def m_zigzag : MS := (sRet (mIf (mCmpT (opCmp pGe) (mVar 0) (mC (.int 0))) (mBin opMulT (mC (.int 2)) (mVar 0)) (mBin opSub (mBin opSub (mC (.int 0)) (mBin opMulT (mC (.int 2)) (mVar 0))) (mC (.int 1)))))
def f_zigzag : List D → M D := runDef 1 m_zigzag
def m_unzigzag : MS := (sRet (mIf (mCmpT opEq (mBin opMod (mVar 0) (mC (.int 2))) (mC (.int 0))) (mBin opDiv (mVar 0) (mC (.int 2))) (mBin opSub (mC (.int 0)) (mBin opDiv (mBin opAdd (mVar 0) (mC (.int 1))) (mC (.int 2))))))
def f_unzigzag : List D → M D := runDef 1 m_unzigzag
def m_cost : MS := (sSeq (sSet false 1 (mC (.int 0))) (sSeq (sFor (.n 2) (mSeq (mVar 0)) (sSeq (sPar false 3 4 (mCons (mBin opDiv (mCB f_zigzag (mCons (mVar 2) mNil)) (mC (.int 2))) (mCons (mC (.int 1)) mNil))) (sSeq (sWhile (mCmpT (opCmp pGt) (mVar 3) (mC (.int 0))) (sPar false 3 4 (mCons (mBin opDiv (mVar 3) (mC (.int 2))) (mCons (mBin opAdd (mVar 4) (mC (.int 1))) mNil)))) (sAug false 1 (fun i j => i + j) (mVar 4))))) (sRet (mVar 1))))
def f_cost : List D → M D := runDef 5 m_cost
def m_is_same_way : MS := (sRet (mBin opEq (mCB f_together (mCons (mCB f_apart (mCons (mVar 0) (mCons (mVar 1) mNil))) (mCons (mVar 1) mNil))) (mCB bList (mCons (mVar 0) mNil))))
def f_is_same_way : List D → M D := runDef 2 m_is_same_way
def m__law_part : MS := (sSeq (sPar false 2 3 (mCons (mCB bAbs (mCons (mVar 0) mNil)) (mCons (mCB bAbs (mCons (mVar 1) mNil)) mNil))) (sSeq (sWhile (mCmpT opNe (mVar 3) (mC (.int 0))) (sPar false 2 3 (mCons (mVar 3) (mCons (mBin opMod (mCB bInt (mCons (mVar 2) mNil)) (mVar 3)) mNil)))) (sSeq (sSet false 2 (mIf (mCmpT (opCmp pLt) (mVar 1) (mC (.int 0))) (mBin opSub (mC (.int 0)) (mVar 2)) (mVar 2))) (sRet (mTup (mCons (mBin opDiv (mVar 0) (mVar 2)) (mCons (mBin opDiv (mVar 1) (mVar 2)) mNil)))))))
def f__law_part : List D → M D := runDef 4 m__law_part
def m__law_add : MS := (sRet (mCB f__law_part (mCons (mBin opAdd (mBin opMulT (mBin opIxQ (mVar 0) (mC (.int 0))) (mBin opIxQ (mVar 1) (mC (.int 1)))) (mBin opMulT (mBin opIxQ (mVar 1) (mC (.int 0))) (mBin opIxQ (mVar 0) (mC (.int 1))))) (mCons (mBin opMulT (mBin opIxQ (mVar 0) (mC (.int 1))) (mBin opIxQ (mVar 1) (mC (.int 1)))) mNil))))
def f__law_add : List D → M D := runDef 2 m__law_add
def m__law_mul : MS := (sRet (mCB f__law_part (mCons (mBin opMulT (mBin opIxQ (mVar 0) (mC (.int 0))) (mBin opIxQ (mVar 1) (mC (.int 0)))) (mCons (mBin opMulT (mBin opIxQ (mVar 0) (mC (.int 1))) (mBin opIxQ (mVar 1) (mC (.int 1)))) mNil))))
def f__law_mul : List D → M D := runDef 2 m__law_mul
def m__law_neg : MS := (sRet (mTup (mCons (mBin opSub (mC (.int 0)) (mBin opIxQ (mVar 0) (mC (.int 0)))) (mCons (mBin opIxQ (mVar 0) (mC (.int 1))) mNil))))
def f__law_neg : List D → M D := runDef 1 m__law_neg
def m__law_total : MS := (sSeq (sSet false 1 (mTup (mCons (mC (.int 0)) (mCons (mC (.int 1)) mNil)))) (sSeq (sFor (.n 2) (mSeq (mVar 0)) (sSet false 1 (mCB f__law_add (mCons (mVar 1) (mCons (mVar 2) mNil))))) (sRet (mVar 1))))
def f__law_total : List D → M D := runDef 3 m__law_total
def m__law_fraction : MS := (sRet (mCB f__law_part (mCons (mBin opSub (mCB f__law_take (mCons (mVar 0) (mCons (mBin opAdd (mBin opMulT (mC (.int 2)) (mVar 1)) (mC (.int 1))) mNil))) (mVar 1)) (mCons (mBin opAdd (mC (.int 1)) (mCB f__law_take (mCons (mVar 0) (mCons (mC (.int 3)) mNil)))) mNil))))
def f__law_fraction : List D → M D := runDef 2 m__law_fraction
def m__law_floor : MS := (sRet (mBin opDiv (mBin opIxQ (mVar 0) (mC (.int 0))) (mBin opIxQ (mVar 0) (mC (.int 1)))))
def f__law_floor : List D → M D := runDef 1 m__law_floor
def m__law_steps : MS := (sSeq (sSetO false 1 (mLst mNil)) (sSeq (sFor (.n 2) (mRng1 (mCons (mCB f__law_take (mCons (mVar 0) (mCons (mC (.int 4)) mNil))) mNil)) (sApp false 1 (mTup (mCons (mCB f__law_take (mCons (mVar 0) (mCons (mC (.int 2)) mNil))) (mCons (mBin opSub (mCB f__law_take (mCons (mVar 0) (mCons (mC (.int 5)) mNil))) (mC (.int 2))) (mCons (mCB bTuple (mCons (mLc (.n 3) [3] (mRng1 (mCons (mBin opAdd (mC (.int 1)) (mCB f__law_take (mCons (mVar 0) (mCons (mC (.int 3)) mNil)))) mNil)) tsYes (mCall f__law_fraction (mCons (mVar 0) (mCons (mC (.int 2)) mNil)))) mNil)) mNil)))))) (sRet (mCB bTuple (mCons (mVar 1) mNil)))))
def f__law_steps : List D → M D := runDef 4 m__law_steps
def m__law_told : MS := (sSeq (sSet false 3 (mTup (mCons (mC (.int 1)) (mCons (mC (.int 2)) mNil)))) (sSeq (sFor (.n 4) (mRng1 (mCons (mCB bLen (mCons (mBin opIxQ (mVar 0) (mC (.int 2))) mNil)) mNil)) (sSet false 3 (mCB f__law_add (mCons (mVar 3) (mCons (mCB f__law_mul (mCons (mBin opIxQ (mBin opIxQ (mVar 0) (mC (.int 2))) (mVar 4)) (mCons (mTup (mCons (mBin opIxQ (mVar 1) (mBin opMod (mCB bInt (mCons (mBin opAdd (mBin opAdd (mVar 2) (mBin opIxQ (mVar 0) (mC (.int 1)))) (mVar 4)) mNil)) (mCB bLen (mCons (mVar 1) mNil)))) (mCons (mC (.int 1)) mNil))) mNil))) mNil))))) (sRet (mCB f__law_floor (mCons (mVar 3) mNil)))))
def f__law_told : List D → M D := runDef 5 m__law_told
def m__law_apart : MS := (sSeq (sSet false 3 (mLst (mCons (mStr 2 (mVar 0) mNoP) (mCons (mStr 2 (mVar 0) (mPart (mC (.int 1)))) mNil)))) (sSeq (sFor (.n 4) (mSeq (mVar 1)) (sSeq (sAsg false (.t [(.n 5), (.n 6)]) (mTup (mCons (mBin opIxQ (mVar 4) (mC (.int 0))) (mCons (mBin opIxQ (mVar 3) (mBin opSub (mC (.int 1)) (mBin opIxQ (mVar 4) (mC (.int 0))))) mNil)))) (sSeq (sSet false 7 (mLc (.n 8) [8] (mRng1 (mCons (mCB bLen (mCons (mBin opIxQ (mVar 3) (mVar 5)) mNil)) mNil)) tsYes (mBin opAdd (mBin opIxQ (mBin opIxQ (mVar 3) (mVar 5)) (mVar 8)) (mBin opMulT (mVar 2) (mCall f__law_told (mCons (mVar 4) (mCons (mVar 6) (mCons (mVar 8) mNil)))))))) (sSet false 3 (mIf (mCmpT opEq (mVar 5) (mC (.int 0))) (mLst (mCons (mVar 7) (mCons (mBin opIxQ (mVar 3) (mC (.int 1))) mNil))) (mLst (mCons (mBin opIxQ (mVar 3) (mC (.int 0))) (mCons (mVar 7) mNil)))))))) (sRet (mTup (mCons (mBin opIxQ (mVar 3) (mC (.int 0))) (mCons (mBin opIxQ (mVar 3) (mC (.int 1))) mNil))))))
def f__law_apart : List D → M D := runDef 9 m__law_apart
def m__law_there : MS := (sSeq (sSet false 3 (mCB f__law_apart (mCons (mVar 2) (mCons (mVar 1) (mCons (mC (.int 1)) mNil))))) (sSeq (sIf (mOrT (mCmpT (opIs true) (mCB f_is_steps (mCons (mVar 1) mNil)) (mC (.bl true))) (mOrT (mCmpT (opIs true) (mCB f_is_wholes (mCons (mVar 2) mNil)) (mC (.bl true))) (mOrT (mCmpT opNe (mCB f_apart (mCons (mVar 2) (mCons (mVar 1) mNil))) (mVar 3)) (mOrT (mCmpT opNe (mCB f_together (mCons (mVar 3) (mCons (mVar 1) mNil))) (mVar 2)) (mCmpT (opIs true) (mCB f_is_same_way (mCons (mVar 2) (mCons (mVar 1) mNil))) (mC (.bl true))))))) (sRet (mC (.bl false))) sNx) (sSeq (sSet false 4 (mBin opDiv (mCB bLen (mCons (mVar 2) mNil)) (mC (.int 2)))) (sSeq (sFor (.n 5) (mSeq (mVar 1)) (sSeq (sPar false 6 7 (mCons (mIf (mCmpT opEq (mBin opIxQ (mVar 5) (mC (.int 0))) (mC (.int 0))) (mStr 2 (mVar 2) (mPart (mC (.int 1)))) (mStr 2 (mVar 2) mNoP)) (mCons (mCB f__law_take (mCons (mVar 0) (mCons (mVar 4) mNil))) mNil))) (sSeq (sIf (mOrT (mCmpT (opIs true) (mCB f_is_step (mCons (mVar 5) mNil)) (mC (.bl true))) (mCmpT opNe (mCB f_told_by (mCons (mVar 5) (mCons (mVar 6) (mCons (mVar 7) mNil)))) (mCB f__law_told (mCons (mVar 5) (mCons (mVar 6) (mCons (mVar 7) mNil)))))) (sRet (mC (.bl false))) sNx) (sSeq (sSet false 8 (mTup (mCons (mStr 2 (mVar 2) mNoP) (mCons (mStr 2 (mVar 2) (mPart (mC (.int 1)))) mNil)))) (sSeq (sSet false 9 (mCB f_stepped (mCons (mVar 8) (mCons (mVar 5) (mCons (mC (.int 1)) mNil))))) (sIf (mOrT (mCmpT opNe (mVar 9) (mCB f__law_apart (mCons (mVar 2) (mCons (mTup (mCons (mVar 5) mNil)) (mCons (mC (.int 1)) mNil))))) (mCmpT opNe (mCB f_stepped (mCons (mVar 9) (mCons (mVar 5) (mCons (mNeg (mC (.int 1))) mNil)))) (mVar 8))) (sRet (mC (.bl false))) sNx)))))) (sSeq (sSet false 8 (mTup (mCons (mLc (.n 10) [10] (mRng1 (mCons (mVar 4) mNil)) tsYes (mBin opSub (mCall f__law_take (mCons (mVar 0) (mCons (mC (.int 9)) mNil))) (mC (.int 4)))) (mCons (mLc (.n 10) [10] (mRng1 (mCons (mVar 4) mNil)) tsYes (mBin opSub (mCall f__law_take (mCons (mVar 0) (mCons (mC (.int 9)) mNil))) (mC (.int 4)))) mNil)))) (sRet (mBin opEq (mCB f_apart (mCons (mCB f_together (mCons (mVar 8) (mCons (mVar 1) mNil))) (mCons (mVar 1) mNil))) (mVar 8))))))))
def f__law_there : List D → M D := runDef 11 m__law_there
def m__law_plain : MS := (sSeq (sSet false 2 (mLst (mCons (mLc (.n 12) [12] (mSeq (mStr 2 (mVar 1) mNoP)) tsYes (mTup (mCons (mVar 12) (mCons (mC (.int 1)) mNil)))) (mCons (mLc (.n 12) [12] (mSeq (mStr 2 (mVar 1) (mPart (mC (.int 1))))) tsYes (mTup (mCons (mVar 12) (mCons (mC (.int 1)) mNil)))) mNil)))) (sSeq (sSet false 3 (mBin opDiv (mCB bLen (mCons (mVar 1) mNil)) (mC (.int 2)))) (sSeq (sFor (.t [(.n 4), (.n 5), (.n 6)]) (mSeq (mVar 0)) (sSeq (sSetO false 7 (mLst mNil)) (sSeq (sFor (.n 8) (mRng1 (mCons (mVar 3) mNil)) (sApp false 7 (mCB f__law_add (mCons (mBin opIxQ (mBin opIxQ (mVar 2) (mVar 4)) (mVar 8)) (mCons (mCB f__law_total (mCons (mLc (.n 13) [13] (mRng1 (mCons (mCB bLen (mCons (mVar 6) mNil)) mNil)) tsYes (mCall f__law_mul (mCons (mBin opIxQ (mVar 6) (mVar 13)) (mCons (mBin opIxQ (mBin opIxQ (mVar 2) (mBin opSub (mC (.int 1)) (mVar 4))) (mBin opMod (mCB bInt (mCons (mBin opAdd (mBin opAdd (mVar 8) (mVar 5)) (mVar 13)) mNil)) (mVar 3))) mNil)))) mNil)) mNil))))) (sFrz 7 (sSet false 2 (mIf (mCmpT opEq (mVar 4) (mC (.int 0))) (mLst (mCons (mVar 7) (mCons (mBin opIxQ (mVar 2) (mC (.int 1))) mNil))) (mLst (mCons (mBin opIxQ (mVar 2) (mC (.int 0))) (mCons (mVar 7) mNil))))))))) (sSeq (sPar false 9 10 (mCons (mCB f__law_apart (mCons (mVar 1) (mCons (mVar 0) (mCons (mC (.int 1)) mNil)))) (mCons (mTup (mCons (mC (.int 0)) (mCons (mC (.int 1)) mNil))) mNil))) (sSeq (sFor (.n 4) (mRng1 (mCons (mC (.int 2)) mNil)) (sFor (.n 8) (mRng1 (mCons (mVar 3) mNil)) (sSeq (sSet false 11 (mCB f__law_add (mCons (mTup (mCons (mBin opIxQ (mBin opIxQ (mVar 9) (mVar 4)) (mVar 8)) (mCons (mC (.int 1)) mNil))) (mCons (mCB f__law_neg (mCons (mBin opIxQ (mBin opIxQ (mVar 2) (mVar 4)) (mVar 8)) mNil)) mNil)))) (sSeq (sSet false 11 (mTup (mCons (mCB bAbs (mCons (mBin opIxQ (mVar 11) (mC (.int 0))) mNil)) (mCons (mBin opIxQ (mVar 11) (mC (.int 1))) mNil)))) (sSet false 10 (mIf (mCmpT (opCmp pGt) (mBin opMulT (mBin opIxQ (mVar 11) (mC (.int 0))) (mBin opIxQ (mVar 10) (mC (.int 1)))) (mBin opMulT (mBin opIxQ (mVar 10) (mC (.int 0))) (mBin opIxQ (mVar 11) (mC (.int 1))))) (mVar 11) (mVar 10))))))) (sRet (mAnd (mBin opEq (mCB f_without_rounding (mCons (mVar 1) (mCons (mVar 0) mNil))) (mTup (mCons (mBin opIxQ (mVar 2) (mC (.int 0))) (mCons (mBin opIxQ (mVar 2) (mC (.int 1))) mNil)))) (mAnd (mBin opEq (mCB f_gap_of (mCons (mVar 1) (mCons (mVar 0) mNil))) (mVar 10)) (mOr (mBin opNe (mCB bLen (mCons (mVar 0) mNil)) (mC (.int 1))) (mBin (opCmp pLe) (mBin opMulT (mC (.int 2)) (mBin opIxQ (mVar 10) (mC (.int 0)))) (mBin opIxQ (mVar 10) (mC (.int 1)))))))))))))
def f__law_plain : List D → M D := runDef 14 m__law_plain
def m__law_word : MS := (sTry 0 (rHide (fun env s => (noX ((mCmpT (opIs false) (mVar 3) (mC .non)) env s)).bind fun b s => if b = true then (mCallV 0 [("without_rounding", f_without_rounding), ("together", f_together), ("apart", f_apart)] (mCons (mVar 1) (mCons (mVar 2) mNil))) env s else (mCallV 0 [("pyramid", f_pyramid)] (mCons (mVar 1) (mCons (mVar 2) (mCons (mVar 3) mNil)))) env s)) (sSeq (sSet false 4 (mIf (mCmpT (opIs false) (mVar 3) (mC .non)) (mCallVL 0 [("without_rounding", f_without_rounding), ("together", f_together), ("apart", f_apart)] (mCons (mVar 1) (mCons (mVar 2) mNil))) (mCallVL 0 [("pyramid", f_pyramid)] (mCons (mVar 1) (mCons (mVar 2) (mCons (mVar 3) mNil)))))) (sRet (mC (.str (PySem.Str.ofString ""))))) (sGone 5 (fun w => fun _ s => .ok (.rt (.str w)) s)))
def f__law_word : List D → M D := runDef 6 m__law_word
def m__law_pyramids : MS := (sSeq (sSet false 2 (mBin opAdd (mC (.int 1)) (mCB f__law_take (mCons (mVar 0) (mCons (mC (.int 3)) mNil))))) (sSeq (sSet false 3 (mLc (.n 9) [9] (mRng1 (mCons (mBin opMulT (mBin opShl (mC (.int 1)) (mVar 2)) (mBin opAdd (mC (.int 1)) (mCB f__law_take (mCons (mVar 0) (mCons (mC (.int 2)) mNil))))) mNil)) tsYes (mBin opSub (mCall f__law_take (mCons (mVar 0) (mCons (mC (.int 21)) mNil))) (mC (.int 10))))) (sSeq (sItems false [4, 5] (mConsV (mCB bList (mCons (mVar 3) mNil)) (mConsO (mLst mNil) mNilI))) (sSeq (sFor (.n 6) (mRng1 (mCons (mVar 2) mNil)) (sSeq (sSet false 7 (mCB f__law_apart (mCons (mVar 4) (mCons (mVar 1) (mCons (mC (.int 1)) mNil))))) (sSeq (sSet false 4 (mBin opIxQ (mVar 7) (mC (.int 0)))) (sApp false 5 (mBin opIxQ (mVar 7) (mC (.int 1))))))) (sSeq (sSet false 8 (mCB f_pyramid (mCons (mVar 3) (mCons (mVar 1) (mCons (mVar 2) mNil))))) (sSeq (sIf (mOrT (mCmpT opNe (mVar 8) (mTup (mCons (mVar 4) (mCons (mVar 5) mNil)))) (mCmpT opNe (mCB f_back (mCons (mVar 8) (mCons (mVar 1) mNil))) (mVar 3))) (sRet (mC (.bl false))) sNx) (sRet (mOr (mBin opEq (mCB f__law_word (mCons (mC (.fn "pyramid")) (mCons (mVar 3) (mCons (mVar 1) (mCons (mBin opAdd (mVar 2) (mC (.int 4))) mNil))))) (mC (.str (PySem.Str.ofString "long")))) (mBin opEq (mCB bLen (mCons (mVar 3) mNil)) (mC (.int 0)))))))))))
def f__law_pyramids : List D → M D := runDef 10 m__law_pyramids
def q__law_known_1 : MS := (sSet false 1 (mLc (.n 4) [4] (mRng1 (mCons (mC (.int 8)) mNil)) tsYes (mBin opSub (mCall f__law_take (mCons (mVar 0) (mCons (mC (.int 31)) mNil))) (mC (.int 15)))))
def q__law_known_2 : MS := (sAsg false (.t [(.n 2), (.n 3)]) (mCB f_apart (mCons (mVar 1) (mCons (mCB f_means_and_gaps mNil) mNil))))
def q__law_known_3 : MS := (sFor (.n 4) (mRng1 (mCons (mC (.int 4)) mNil)) (sSeq (sPar false 5 6 (mCons (mBin opIxQ (mVar 1) (mBin opMulT (mC (.int 2)) (mVar 4))) (mCons (mBin opIxQ (mVar 1) (mBin opAdd (mBin opMulT (mC (.int 2)) (mVar 4)) (mC (.int 1)))) mNil))) (sIf (mOrT (mCmpT opNe (mBin opIxQ (mVar 3) (mVar 4)) (mBin opSub (mVar 6) (mVar 5))) (mAndT (mCmpT opNe (mBin opIxQ (mVar 2) (mVar 4)) (mBin opDiv (mBin opAdd (mBin opAdd (mVar 5) (mVar 6)) (mC (.int 1))) (mC (.int 2)))) (mCmpT opNe (mBin opIxQ (mVar 2) (mVar 4)) (mBin opAdd (mVar 5) (mBin opDiv (mBin opAdd (mBin opIxQ (mVar 3) (mVar 4)) (mC (.int 1))) (mC (.int 2))))))) (sRet (mC (.bl false))) sNx)))
def q__law_known_4 : MS := (sSet false 7 (mCB f_apart (mCons (mVar 1) (mCons (mCB f_near_means mNil) mNil))))
def q__law_known_5 : MS := (sFor (.n 4) (mRng1 (mCons (mC (.int 4)) mNil)) (sSeq (sSet false 8 (mBin opDiv (mBin opAdd (mBin opSub (mBin opSub (mBin opMulT (mC (.int 2)) (mBin opIxQ (mVar 1) (mBin opAdd (mBin opMulT (mC (.int 2)) (mVar 4)) (mC (.int 1))))) (mBin opIxQ (mVar 1) (mBin opMulT (mC (.int 2)) (mVar 4)))) (mBin opIxQ (mVar 1) (mBin opMod (mCB bInt (mCons (mBin opAdd (mBin opMulT (mC (.int 2)) (mVar 4)) (mC (.int 2))) mNil)) (mC (.int 8))))) (mC (.int 1))) (mC (.int 2)))) (sIf (mCmpT opNe (mBin opIxQ (mBin opIxQ (mVar 7) (mC (.int 1))) (mVar 4)) (mVar 8)) (sRet (mC (.bl false))) sNx)))
def q__law_known_6 : MS := (sFor (.n 4) (mRng1 (mCons (mC (.int 4)) mNil)) (sIf (mCmpT opNe (mBin opIxQ (mBin opIxQ (mVar 7) (mC (.int 0))) (mVar 4)) (mBin opAdd (mBin opIxQ (mVar 1) (mBin opMulT (mC (.int 2)) (mVar 4))) (mBin opDiv (mBin opAdd (mBin opAdd (mBin opIxQ (mBin opIxQ (mVar 7) (mC (.int 1))) (mBin opMod (mCB bInt (mCons (mBin opSub (mVar 4) (mC (.int 1))) mNil)) (mC (.int 4)))) (mBin opIxQ (mBin opIxQ (mVar 7) (mC (.int 1))) (mVar 4))) (mC (.int 2))) (mC (.int 4))))) (sRet (mC (.bl false))) sNx))
def q__law_known_7 : MS := (sSet false 9 (mLc (.n 4) [4] (mRng2 (mCons (mNeg (mC (.int 9))) (mCons (mC (.int 10)) mNil))) tsYes (mCall f_zigzag (mCons (mVar 4) mNil))))
def q__law_known_8 : MS := (sIf (mOrT (mCmpT opNe (mCB bSorted (mCons (mVar 9) mNil)) (mLstR1 (mC (.int 19)))) (mOrT (mCmpT opNe (mLc (.n 11) [11] (mSeq (mVar 9)) tsYes (mCall f_unzigzag (mCons (mVar 11) mNil))) (mLstR2 (mNeg (mC (.int 9))) (mC (.int 10)))) (mCmpT opNe (mLc (.n 4) [4] (mSeq (mTup (mCons (mC (.int 0)) (mCons (mNeg (mC (.int 1))) (mCons (mC (.int 1)) (mCons (mNeg (mC (.int 2))) (mCons (mC (.int 2)) mNil))))))) tsYes (mCall f_zigzag (mCons (mVar 4) mNil))) (mLst (mCons (mC (.int 0)) (mCons (mC (.int 1)) (mCons (mC (.int 2)) (mCons (mC (.int 3)) (mCons (mC (.int 4)) mNil))))))))) (sRet (mC (.bl false))) sNx)
def q__law_known_9 : MS := (sSet false 10 (mC (.int 0)))
def q__law_known_10 : MS := (sFor (.n 11) (mSeq (mVar 1)) (sSeq (sPar false 12 13 (mCons (mCB f_zigzag (mCons (mVar 11) mNil)) (mCons (mC (.int 1)) mNil))) (sSeq (sWhile (mCmpT (opCmp pGt) (mVar 12) (mC (.int 1))) (sPar false 12 13 (mCons (mBin opDiv (mVar 12) (mC (.int 2))) (mCons (mBin opAdd (mVar 13) (mC (.int 1))) mNil)))) (sSet false 10 (mBin opAdd (mVar 10) (mVar 13))))))
def q__law_known_11 : MS := (sRet (mAnd (mBin opEq (mCB f_cost (mCons (mVar 1) mNil)) (mVar 10)) (mBin opEq (mCB f_cost (mCons (mLst mNil) mNil)) (mC (.int 0)))))
def m__law_known : MS := (sSeq q__law_known_1 (sSeq q__law_known_2 (sSeq q__law_known_3 (sSeq q__law_known_4 (sSeq q__law_known_5 (sSeq q__law_known_6 (sSeq q__law_known_7 (sSeq q__law_known_8 (sSeq q__law_known_9 (sSeq q__law_known_10 q__law_known_11))))))))))
def f__law_known : List D → M D := runDef 14 m__law_known
def m__law_odd : MS := (sSeq (sSet false 0 (mTup (mCons (mC (.int 0)) (mCons (mC (.int 0)) (mCons (mTup (mCons (mTup (mCons (mC (.int 1)) (mCons (mC (.int 2)) mNil))) mNil)) mNil))))) (sSeq (sSet false 1 (mLst (mCons (mC .non) (mCons (mLst (mCons (mVar 0) mNil)) (mCons (mBin opMulT (mTup (mCons (mVar 0) mNil)) (mC (.int 7))) (mCons (mTup (mCons (mC .non) mNil)) (mCons (mTup (mCons (mTup (mCons (mC (.int 2)) (mCons (mC (.int 0)) (mCons (mTup (mCons (mTup (mCons (mC (.int 1)) (mCons (mC (.int 2)) mNil))) mNil)) mNil)))) mNil)) (mCons (mTup (mCons (mTup (mCons (mC (.int 0)) (mCons (mC (.int 9)) (mCons (mTup (mCons (mTup (mCons (mC (.int 1)) (mCons (mC (.int 2)) mNil))) mNil)) mNil)))) mNil)) (mCons (mTup (mCons (mTup (mCons (mC (.int 0)) (mCons (mC (.int 0)) (mCons (mTup mNil) mNil)))) mNil)) (mCons (mTup (mCons (mTup (mCons (mC (.int 0)) (mCons (mC (.int 0)) (mCons (mBin opMulT (mTup (mCons (mTup (mCons (mC (.int 1)) (mCons (mC (.int 2)) mNil))) mNil)) (mC (.int 9))) mNil)))) mNil)) (mCons (mTup (mCons (mTup (mCons (mC (.bl true)) (mCons (mC (.int 0)) (mCons (mTup (mCons (mTup (mCons (mC (.int 1)) (mCons (mC (.int 2)) mNil))) mNil)) mNil)))) mNil)) (mCons (mTup (mCons (mTup (mCons (mC (.int 0)) (mCons (mC (.int 0)) (mCons (mLst (mCons (mTup (mCons (mC (.int 1)) (mCons (mC (.int 2)) mNil))) mNil)) mNil)))) mNil)) mNil)))))))))))) (sSeq (sIf (mOrT (mCmpT opNe (mLc (.n 3) [3] (mSeq (mVar 1)) tsYes (mCall f_is_steps (mCons (mVar 3) mNil))) (mBin opMulT (mLst (mCons (mC (.bl false)) mNil)) (mC (.int 10)))) (mCmpT (opIs true) (mCB f_is_steps (mCons (mTup mNil) mNil)) (mC (.bl true)))) (sRet (mC (.bl false))) sNx) (sSeq (sSet false 2 (mLst (mCons (mC .non) (mCons (mLst mNil) (mCons (mLst (mCons (mC (.int 1)) mNil)) (mCons (mLst (mCons (mC (.int 1)) (mCons (mC (.int 2)) (mCons (mC (.int 3)) mNil)))) (mCons (mTup (mCons (mC (.int 1)) (mCons (mC (.int 2)) mNil))) (mCons (mLst (mCons (mC (.int 1)) (mCons (mC (.bl true)) mNil))) (mCons (mLst (mCons (mC (.int 1)) (mCons (mC (.str (PySem.Str.ofString "a"))) mNil))) (mCons (mBin opMulT (mLst (mCons (mC (.int 0)) mNil)) (mC (.int 66))) mNil)))))))))) (sSeq (sIf (mCmpT opNe (mLc (.n 3) [3] (mSeq (mVar 2)) tsYes (mCall f_is_wholes (mCons (mVar 3) mNil))) (mBin opMulT (mLst (mCons (mC (.bl false)) mNil)) (mC (.int 8)))) (sRet (mC (.bl false))) sNx) (sSeq (sIf (mOrT (mCmpT opNe (mLc (.n 3) [3] (mSeq (mTup (mCons (mLst mNil) (mCons (mLst (mCons (mC (.int 1)) (mCons (mC (.int 2)) (mCons (mC (.int 3)) mNil)))) (mCons (mBin opMulT (mLst (mCons (mC (.int 0)) mNil)) (mC (.int 66))) mNil))))) tsYes (mCall f__law_word (mCons (mC (.fn "apart")) (mCons (mVar 3) (mCons (mTup mNil) (mCons (mC .non) mNil)))))) (mBin opMulT (mLst (mCons (mC (.str (PySem.Str.ofString "long"))) mNil)) (mC (.int 3)))) (mCmpT opNe (mCB f__law_word (mCons (mC (.fn "without_rounding")) (mCons (mLst (mCons (mC (.int 1)) mNil)) (mCons (mTup mNil) (mCons (mC .non) mNil))))) (mC (.str (PySem.Str.ofString "long"))))) (sRet (mC (.bl false))) sNx) (sRet (mBin opEq (mLc (.n 4) [4] (mSeq (mTup (mCons (mTup (mCons (mLst mNil) (mCons (mLst mNil) mNil))) (mCons (mTup (mCons (mLst (mCons (mC (.int 1)) mNil)) (mCons (mLst (mCons (mC (.int 1)) (mCons (mC (.int 2)) mNil))) mNil))) mNil)))) tsYes (mCall f__law_word (mCons (mC (.fn "together")) (mCons (mVar 4) (mCons (mTup mNil) (mCons (mC .non) mNil)))))) (mBin opMulT (mLst (mCons (mC (.str (PySem.Str.ofString "long"))) mNil)) (mC (.int 2)))))))))))
def f__law_odd : List D → M D := runDef 5 m__law_odd
def l_1 : MS := (sFor (.n 2) (mRng1 (mCons (mC (.int 3)) mNil)) (sSeq (sPar false 3 4 (mCons (mCall f__law_steps (mCons (mVar 1) mNil)) (mCons (mLc (.n 5) [5] (mRng1 (mCons (mBin opAdd (mC (.int 2)) (mBin opMulT (mC (.int 2)) (mCall f__law_take (mCons (mVar 1) (mCons (mC (.int 8)) mNil))))) mNil)) tsYes (mBin opSub (mCall f__law_take (mCons (mVar 1) (mCons (mC (.int 41)) mNil))) (mC (.int 20)))) mNil))) (sIf (mOrT (mNotT (mTru (mCall f__law_there (mCons (mVar 1) (mCons (mVar 3) (mCons (mVar 4) mNil)))))) (mOrT (mNotT (mTru (mCall f__law_plain (mCons (mVar 3) (mCons (mVar 4) mNil))))) (mNotT (mTru (mCall f__law_pyramids (mCons (mVar 1) (mCons (mVar 3) mNil))))))) (sRet (mC (.bl false))) sNx)))
def l_2 : MS := (sRet (mAnd (mBin opEq (mC (.int 6)) (mC (.int 6))) (mAnd (mBin opEq (mC (.int 64)) (mC (.int 64))) (mAnd (mCall f__law_known (mCons (mVar 1) mNil)) (mCall f__law_odd mNil)))))
def m_law : MS := (sSeq l_1 l_2)
end
/-! what stands -/
abbrev c_Misstep : Stmt := inCls (topS 2) 0
section
variable {C0 : Addr}
variable {P : Program} {w : World} {K : PySem.W.Frag} {mg : Str → Option Value} {base : Heap} {f0 f1 f2 f3 f4 f5 f6 f7 f8 f9 f10 f11 f12 f13 f14 f15 f16 f17 f18 f19 f20 f21 f22 f23 f24 f25 f26 f27 f28 f29 f30 f31 f32 f33 f34 f35 f36 f37 f38 f39 f40 f41 f42 : Addr} {fd0 fd1 fd2 fd3 fd4 fd5 fd6 fd7 fd8 fd9 fd10 fd11 fd12 fd13 fd14 fd15 fd16 fd17 fd18 fd19 fd20 fd21 fd22 fd23 fd24 fd25 fd26 fd27 fd28 fd29 fd30 fd31 fd32 fd33 fd34 fd35 fd36 fd37 fd38 fd39 fd40 fd41 fd42 : FuncData}
structure Tx (P : Program) (K : PySem.W.Frag) (mg : Str → Option Value) (C0 : Addr) (f0 f1 f2 f3 f4 f5 f6 f7 f8 f9 f10 f11 f12 f13 f14 f15 f16 f17 f18 f19 f20 f21 f22 f23 f24 f25 f26 f27 f28 f29 f30 f31 f32 f33 f34 f35 f36 f37 f38 f39 f40 f41 f42 : Addr) (fd0 fd1 fd2 fd3 fd4 fd5 fd6 fd7 fd8 fd9 fd10 fd11 fd12 fd13 fd14 fd15 fd16 fd17 fd18 fd19 fd20 fd21 fd22 fd23 fd24 fd25 fd26 fd27 fd28 fd29 fd30 fd31 fd32 fd33 fd34 fd35 fd36 fd37 fd38 fd39 fd40 fd41 fd42 : FuncData) : Prop where
  F_divisor : Fun K "divisor" "divisor" s_divisor f0 fd0
  m_divisor : mg "divisor" = some (.ref f0)
  b_divisor : Binds K fd0 ["one", "other"] []
  F_part : Fun K "part" "part" s_part f1 fd1
  m_part : mg "part" = some (.ref f1)
  b_part : Binds K fd1 ["above", "below"] []
  F_is_part : Fun K "is_part" "is_part" s_is_part f2 fd2
  m_is_part : mg "is_part" = some (.ref f2)
  b_is_part : Binds K fd2 ["value"] []
  F_plus : Fun K "plus" "plus" s_plus f3 fd3
  m_plus : mg "plus" = some (.ref f3)
  b_plus : Binds K fd3 ["one", "other"] []
  F_minus : Fun K "minus" "minus" s_minus f4 fd4
  m_minus : mg "minus" = some (.ref f4)
  b_minus : Binds K fd4 ["one", "other"] []
  F_times : Fun K "times" "times" s_times f5 fd5
  m_times : mg "times" = some (.ref f5)
  b_times : Binds K fd5 ["one", "other"] []
  F_whole_below : Fun K "whole_below" "whole_below" s_whole_below f6 fd6
  m_whole_below : mg "whole_below" = some (.ref f6)
  b_whole_below : Binds K fd6 ["one"] []
  F_is_steps : Fun K "is_steps" "is_steps" s_is_steps f7 fd7
  m_is_steps : mg "is_steps" = some (.ref f7)
  b_is_steps : Binds K fd7 ["value"] []
  F_is_step : Fun K "is_step" "is_step" s_is_step f8 fd8
  m_is_step : mg "is_step" = some (.ref f8)
  b_is_step : Binds K fd8 ["value"] []
  F_is_wholes : Fun K "is_wholes" "is_wholes" s_is_wholes f9 fd9
  m_is_wholes : mg "is_wholes" = some (.ref f9)
  b_is_wholes : Binds K fd9 ["value"] []
  F_told_by : Fun K "told_by" "told_by" s_told_by f10 fd10
  m_told_by : mg "told_by" = some (.ref f10)
  b_told_by : Binds K fd10 ["step", "row", "place"] []
  F_stepped : Fun K "stepped" "stepped" s_stepped f11 fd11
  m_stepped : mg "stepped" = some (.ref f11)
  b_stepped : Binds K fd11 ["pair", "step", "sign"] []
  F_apart : Fun K "apart" "apart" s_apart f12 fd12
  m_apart : mg "apart" = some (.ref f12)
  b_apart : Binds K fd12 ["row", "steps"] []
  n_apart : PySem.W.nsIn K mainGlobals "apart" = some (some (.ref f12))
  F_together : Fun K "together" "together" s_together f13 fd13
  m_together : mg "together" = some (.ref f13)
  b_together : Binds K fd13 ["pair", "steps"] []
  n_together : PySem.W.nsIn K mainGlobals "together" = some (some (.ref f13))
  F_pyramid : Fun K "pyramid" "pyramid" s_pyramid f14 fd14
  m_pyramid : mg "pyramid" = some (.ref f14)
  b_pyramid : Binds K fd14 ["row", "steps", "many"] []
  n_pyramid : PySem.W.nsIn K mainGlobals "pyramid" = some (some (.ref f14))
  F_back : Fun K "back" "back" s_back f15 fd15
  m_back : mg "back" = some (.ref f15)
  b_back : Binds K fd15 ["told", "steps"] []
  F_without_rounding : Fun K "without_rounding" "without_rounding" s_without_rounding f16 fd16
  m_without_rounding : mg "without_rounding" = some (.ref f16)
  b_without_rounding : Binds K fd16 ["row", "steps"] []
  n_without_rounding : PySem.W.nsIn K mainGlobals "without_rounding" = some (some (.ref f16))
  F_gap_of : Fun K "gap_of" "gap_of" s_gap_of f17 fd17
  m_gap_of : mg "gap_of" = some (.ref f17)
  b_gap_of : Binds K fd17 ["row", "steps"] []
  F_means_and_gaps : Fun K "means_and_gaps" "means_and_gaps" s_means_and_gaps f18 fd18
  m_means_and_gaps : mg "means_and_gaps" = some (.ref f18)
  b_means_and_gaps : Binds K fd18 [] []
  F_near_means : Fun K "near_means" "near_means" s_near_means f19 fd19
  m_near_means : mg "near_means" = some (.ref f19)
  b_near_means : Binds K fd19 [] []
  F_zigzag : Fun K "zigzag" "zigzag" s_zigzag f20 fd20
  m_zigzag : mg "zigzag" = some (.ref f20)
  b_zigzag : Binds K fd20 ["number"] []
  F_unzigzag : Fun K "unzigzag" "unzigzag" s_unzigzag f21 fd21
  m_unzigzag : mg "unzigzag" = some (.ref f21)
  b_unzigzag : Binds K fd21 ["number"] []
  F_cost : Fun K "cost" "cost" s_cost f22 fd22
  m_cost : mg "cost" = some (.ref f22)
  b_cost : Binds K fd22 ["row"] []
  F_is_same_way : Fun K "is_same_way" "is_same_way" s_is_same_way f23 fd23
  m_is_same_way : mg "is_same_way" = some (.ref f23)
  b_is_same_way : Binds K fd23 ["row", "steps"] []
  F__law_state : Fun K "_law_state" "_law_state" s__law_state f24 fd24
  m__law_state : mg "_law_state" = some (.ref f24)
  b__law_state : Binds K fd24 ["script"] []
  F__law_take : Fun K "_law_take" "_law_take" s__law_take f25 fd25
  m__law_take : mg "_law_take" = some (.ref f25)
  b__law_take : Binds K fd25 ["state", "most"] []
  F__law_part : Fun K "_law_part" "_law_part" s__law_part f26 fd26
  m__law_part : mg "_law_part" = some (.ref f26)
  b__law_part : Binds K fd26 ["above", "below"] []
  F__law_add : Fun K "_law_add" "_law_add" s__law_add f27 fd27
  m__law_add : mg "_law_add" = some (.ref f27)
  b__law_add : Binds K fd27 ["one", "other"] []
  F__law_mul : Fun K "_law_mul" "_law_mul" s__law_mul f28 fd28
  m__law_mul : mg "_law_mul" = some (.ref f28)
  b__law_mul : Binds K fd28 ["one", "other"] []
  F__law_neg : Fun K "_law_neg" "_law_neg" s__law_neg f29 fd29
  m__law_neg : mg "_law_neg" = some (.ref f29)
  b__law_neg : Binds K fd29 ["one"] []
  F__law_total : Fun K "_law_total" "_law_total" s__law_total f30 fd30
  m__law_total : mg "_law_total" = some (.ref f30)
  b__law_total : Binds K fd30 ["rows"] []
  F__law_fraction : Fun K "_law_fraction" "_law_fraction" s__law_fraction f31 fd31
  m__law_fraction : mg "_law_fraction" = some (.ref f31)
  b__law_fraction : Binds K fd31 ["state", "most"] []
  F__law_floor : Fun K "_law_floor" "_law_floor" s__law_floor f32 fd32
  m__law_floor : mg "_law_floor" = some (.ref f32)
  b__law_floor : Binds K fd32 ["one"] []
  F__law_steps : Fun K "_law_steps" "_law_steps" s__law_steps f33 fd33
  m__law_steps : mg "_law_steps" = some (.ref f33)
  b__law_steps : Binds K fd33 ["state"] []
  F__law_told : Fun K "_law_told" "_law_told" s__law_told f34 fd34
  m__law_told : mg "_law_told" = some (.ref f34)
  b__law_told : Binds K fd34 ["step", "row", "place"] []
  F__law_apart : Fun K "_law_apart" "_law_apart" s__law_apart f35 fd35
  m__law_apart : mg "_law_apart" = some (.ref f35)
  b__law_apart : Binds K fd35 ["row", "steps", "sign"] []
  F__law_there : Fun K "_law_there" "_law_there" s__law_there f36 fd36
  m__law_there : mg "_law_there" = some (.ref f36)
  b__law_there : Binds K fd36 ["state", "steps", "row"] []
  F__law_plain : Fun K "_law_plain" "_law_plain" s__law_plain f37 fd37
  m__law_plain : mg "_law_plain" = some (.ref f37)
  b__law_plain : Binds K fd37 ["steps", "row"] []
  F__law_pyramids : Fun K "_law_pyramids" "_law_pyramids" s__law_pyramids f38 fd38
  m__law_pyramids : mg "_law_pyramids" = some (.ref f38)
  b__law_pyramids : Binds K fd38 ["state", "steps"] []
  F__law_word : Fun K "_law_word" "_law_word" s__law_word f39 fd39
  m__law_word : mg "_law_word" = some (.ref f39)
  b__law_word : Binds K fd39 ["call", "row", "steps", "many"] []
  F__law_known : Fun K "_law_known" "_law_known" s__law_known f40 fd40
  m__law_known : mg "_law_known" = some (.ref f40)
  b__law_known : Binds K fd40 ["state"] []
  F__law_odd : Fun K "_law_odd" "_law_odd" s__law_odd f41 fd41
  m__law_odd : mg "_law_odd" = some (.ref f41)
  b__law_odd : Binds K fd41 [] []
  F_law : Fun K "law" "law" s_law f42 fd42
  m_law : mg "law" = some (.ref f42)
  b_law : Binds K fd42 ["script"] []
  g_Misstep : mg "Misstep" = some (.ref C0)
  X_Misstep : ExI P K C0 "Misstep.__init__" "word" "word" (PySem.Str.ofString "this may not be done: ") c_Misstep
  x_Misstep : XfC K C0
  e_Misstep : PySem.W.exmOne K (.ref C0) (.ref C0) = some true
  z_super : mg "super" = none
  z_abs : mg "abs" = none
  z_all : mg "all" = none
  z_bool : mg "bool" = none
  z_int : mg "int" = none
  z_isinstance : mg "isinstance" = none
  z_len : mg "len" = none
  z_list : mg "list" = none
  z_range : mg "range" = none
  z_sorted : mg "sorted" = none
  z_tuple : mg "tuple" = none
  c_MOST_LONG : ∃ t, mg "MOST_LONG" = some (.int 64 t)
  c_MOST_STEPS : ∃ t, mg "MOST_STEPS" = some (.int 6 t)
end
end L2.Mir.W

set_option Elab.async false
set_option linter.all false
set_option maxRecDepth 100000
set_option maxHeartbeats 4000000
namespace L2.Mir.W
open PySem PySem.Spec PyProof.Rows
section
variable {C0 : Addr}
variable {P : Program} {w : World} {K : PySem.W.Frag} {mg : Str → Option Value} {base : Heap} {f0 f1 f2 f3 f4 f5 f6 f7 f8 f9 f10 f11 f12 f13 f14 f15 f16 f17 f18 f19 f20 f21 f22 f23 f24 f25 f26 f27 f28 f29 f30 f31 f32 f33 f34 f35 f36 f37 f38 f39 f40 f41 f42 : Addr} {fd0 fd1 fd2 fd3 fd4 fd5 fd6 fd7 fd8 fd9 fd10 fd11 fd12 fd13 fd14 fd15 fd16 fd17 fd18 fd19 fd20 fd21 fd22 fd23 fd24 fd25 fd26 fd27 fd28 fd29 fd30 fd31 fd32 fd33 fd34 fd35 fd36 fd37 fd38 fd39 fd40 fd41 fd42 : FuncData}
/-! the walks -/
theorem ok_divisor (T : Tx P K mg C0 f0 f1 f2 f3 f4 f5 f6 f7 f8 f9 f10 f11 f12 f13 f14 f15 f16 f17 f18 f19 f20 f21 f22 f23 f24 f25 f26 f27 f28 f29 f30 f31 f32 f33 f34 f35 f36 f37 f38 f39 f40 f41 f42 fd0 fd1 fd2 fd3 fd4 fd5 fd6 fd7 fd8 fd9 fd10 fd11 fd12 fd13 fd14 fd15 fd16 fd17 fd18 fd19 fd20 fd21 fd22 fd23 fd24 fd25 fd26 fd27 fd28 fd29 fd30 fd31 fd32 fd33 fd34 fd35 fd36 fd37 fd38 fd39 fd40 fd41 fd42) : FnOk P w K mg base (L2.CX P w) 1 f0 fd0 ["one", "other"] (spM K (xrOf [(C0, "word")]) 2 f_divisor) :=
  have nd := sc_divisor.nd
  fn_okX (m := m_divisor) (N := nm_divisor) (ps := ["one", "other"]) 0 rfl rfl rfl T.F_divisor sc_divisor fun cdv A outer s H E hr tk po => (es_cons (es_par false 0 1 rfl nd (ea_cons (ee_callB call_abs rc_abs T.z_abs (by decide +kernel) (ea_cons (ee_var 0) ea_nil)) (ea_cons (ee_callB call_abs rc_abs T.z_abs (by decide +kernel) (ea_cons (ee_var 1) ea_nil)) ea_nil))) (es_cons (es_while po (et_cmp (op_neD hr.units) rb_ne (ee_var 1) ee_int) (es_one (es_par false 0 1 rfl nd (ea_cons (ee_var 1) (ea_cons (ee_bin op_mod rb_mod (ee_var 0) (ee_var 1)) ea_nil))))) (es_one (es_ret (ee_var 0)))))
theorem ok_part (T : Tx P K mg C0 f0 f1 f2 f3 f4 f5 f6 f7 f8 f9 f10 f11 f12 f13 f14 f15 f16 f17 f18 f19 f20 f21 f22 f23 f24 f25 f26 f27 f28 f29 f30 f31 f32 f33 f34 f35 f36 f37 f38 f39 f40 f41 f42 fd0 fd1 fd2 fd3 fd4 fd5 fd6 fd7 fd8 fd9 fd10 fd11 fd12 fd13 fd14 fd15 fd16 fd17 fd18 fd19 fd20 fd21 fd22 fd23 fd24 fd25 fd26 fd27 fd28 fd29 fd30 fd31 fd32 fd33 fd34 fd35 fd36 fd37 fd38 fd39 fd40 fd41 fd42) : FnOk P w K mg base (L2.CX P w) 2 f1 fd1 ["above", "below"] (spM K (xrOf [(C0, "word")]) 2 f_part) :=
  have nd := sc_part.nd
  fn_okX (m := m_part) (N := nm_part) (ps := ["above", "below"]) 1 rfl rfl rfl T.F_part sc_part fun cdv A outer s H E hr tk po => (es_cons (es_if (et_cmp op_lt (rb_cmp (p := pLt)) (ee_var 1) ee_int) (es_one (es_par false 0 1 rfl nd (ea_cons (ee_bin op_sub rb_sub ee_int (ee_var 0)) (ea_cons (ee_bin op_sub rb_sub ee_int (ee_var 1)) ea_nil)))) es_nil) (es_cons (es_set false 2 nd (ee_callX (ok_divisor T) tk (hr.mono (j := 1) (by decide)) T.m_divisor T.F_divisor.kp T.b_divisor rfl (ea_cons (ee_var 0) (ea_cons (ee_var 1) ea_nil)) (lc (lc ln)))) (es_one (es_ret (ee_tup (ea_cons (ee_bin op_divA rb_div (ee_var 0) (ee_var 2)) (ea_cons (ee_bin op_divA rb_div (ee_var 1) (ee_var 2)) ea_nil)) (lc (lc ln)))))))
theorem ok_is_part (T : Tx P K mg C0 f0 f1 f2 f3 f4 f5 f6 f7 f8 f9 f10 f11 f12 f13 f14 f15 f16 f17 f18 f19 f20 f21 f22 f23 f24 f25 f26 f27 f28 f29 f30 f31 f32 f33 f34 f35 f36 f37 f38 f39 f40 f41 f42 fd0 fd1 fd2 fd3 fd4 fd5 fd6 fd7 fd8 fd9 fd10 fd11 fd12 fd13 fd14 fd15 fd16 fd17 fd18 fd19 fd20 fd21 fd22 fd23 fd24 fd25 fd26 fd27 fd28 fd29 fd30 fd31 fd32 fd33 fd34 fd35 fd36 fd37 fd38 fd39 fd40 fd41 fd42) : FnOk P w K mg base (L2.CX P w) 2 f2 fd2 ["value"] (spM K (xrOf [(C0, "word")]) 1 f_is_part) :=
  have nd := sc_is_part.nd
  fn_okX (m := m_is_part) (N := nm_is_part) (ps := ["value"]) 1 rfl rfl rfl T.F_is_part sc_is_part fun cdv A outer s H E hr tk po => (es_cons (es_if (et_w (ew_or (et_not (et_val (ee_isi (T := "tuple") rfl (ee_var 0) T.z_isinstance (by decide +kernel) T.z_tuple (by decide +kernel)) rfl)) (ew_or1 (et_cmp (op_neD hr.units) rb_ne (ee_callB call_len rc_len T.z_len PySem.boot_len (ea_cons (ee_var 0) ea_nil)) ee_int)))) (es_one (es_ret ee_bl)) es_nil) (es_cons (es_if (et_not (et_val (ee_callB (cr_all rfl) rc_all T.z_all (by decide +kernel) (ea_cons (ee_lc (own := [("number", 1)]) (p := (.n 1)) rfl nd (ei_seq rfl (ee_var 0)) (blkOk_by (N := nm_is_part) (sc := defScope s_is_part) (by decide +kernel)) (by decide) (fun _ _ _ _ _ => (eg_name nd)) (fun _ _ _ _ _ => ets_nil) (fun _ _ _ _ _ => (ee_and (ee_isi (T := "int") rfl (ee_var 1) T.z_isinstance (by decide +kernel) T.z_int (by decide +kernel)) (ee_one (ee_not (ee_isi (T := "bool") rfl (ee_var 1) T.z_isinstance (by decide +kernel) T.z_bool (by decide +kernel))))))) ea_nil)) rfl)) (es_one (es_ret ee_bl)) es_nil) (es_one (es_ret (ee_and (ee_cmp op_ge (rb_cmp (p := pGe)) (ee_ixQ rfl (ee_var 0) ee_int) ee_int) (ee_one (ee_cmp (op_eqD hr.units) rb_eq (ee_callX (ok_divisor T) tk (hr.mono (j := 1) (by decide)) T.m_divisor T.F_divisor.kp T.b_divisor rfl (ea_cons (ee_ixQ rfl (ee_var 0) ee_int) (ea_cons (ee_ixQ rfl (ee_var 0) ee_int) ea_nil)) (lc (lc ln))) ee_int)))))))
theorem ok_plus (T : Tx P K mg C0 f0 f1 f2 f3 f4 f5 f6 f7 f8 f9 f10 f11 f12 f13 f14 f15 f16 f17 f18 f19 f20 f21 f22 f23 f24 f25 f26 f27 f28 f29 f30 f31 f32 f33 f34 f35 f36 f37 f38 f39 f40 f41 f42 fd0 fd1 fd2 fd3 fd4 fd5 fd6 fd7 fd8 fd9 fd10 fd11 fd12 fd13 fd14 fd15 fd16 fd17 fd18 fd19 fd20 fd21 fd22 fd23 fd24 fd25 fd26 fd27 fd28 fd29 fd30 fd31 fd32 fd33 fd34 fd35 fd36 fd37 fd38 fd39 fd40 fd41 fd42) : FnOk P w K mg base (L2.CX P w) 3 f3 fd3 ["one", "other"] (spM K (xrOf [(C0, "word")]) 2 f_plus) :=
  have nd := sc_plus.nd
  fn_okX (m := m_plus) (N := nm_plus) (ps := ["one", "other"]) 2 rfl rfl rfl T.F_plus sc_plus fun cdv A outer s H E hr tk po => (es_one (es_ret (ee_callX (ok_part T) tk (hr.mono (j := 2) (by decide)) T.m_part T.F_part.kp T.b_part rfl (ea_cons (ee_bin or_add rb_add (ee_bin or_mulT rb_mulT (ee_ixQ rfl (ee_var 0) ee_int) (ee_ixQ rfl (ee_var 1) ee_int)) (ee_bin or_mulT rb_mulT (ee_ixQ rfl (ee_var 1) ee_int) (ee_ixQ rfl (ee_var 0) ee_int))) (ea_cons (ee_bin or_mulT rb_mulT (ee_ixQ rfl (ee_var 0) ee_int) (ee_ixQ rfl (ee_var 1) ee_int)) ea_nil)) (lc (lc ln)))))
theorem ok_minus (T : Tx P K mg C0 f0 f1 f2 f3 f4 f5 f6 f7 f8 f9 f10 f11 f12 f13 f14 f15 f16 f17 f18 f19 f20 f21 f22 f23 f24 f25 f26 f27 f28 f29 f30 f31 f32 f33 f34 f35 f36 f37 f38 f39 f40 f41 f42 fd0 fd1 fd2 fd3 fd4 fd5 fd6 fd7 fd8 fd9 fd10 fd11 fd12 fd13 fd14 fd15 fd16 fd17 fd18 fd19 fd20 fd21 fd22 fd23 fd24 fd25 fd26 fd27 fd28 fd29 fd30 fd31 fd32 fd33 fd34 fd35 fd36 fd37 fd38 fd39 fd40 fd41 fd42) : FnOk P w K mg base (L2.CX P w) 3 f4 fd4 ["one", "other"] (spM K (xrOf [(C0, "word")]) 2 f_minus) :=
  have nd := sc_minus.nd
  fn_okX (m := m_minus) (N := nm_minus) (ps := ["one", "other"]) 2 rfl rfl rfl T.F_minus sc_minus fun cdv A outer s H E hr tk po => (es_one (es_ret (ee_callX (ok_part T) tk (hr.mono (j := 2) (by decide)) T.m_part T.F_part.kp T.b_part rfl (ea_cons (ee_bin op_sub rb_sub (ee_bin or_mulT rb_mulT (ee_ixQ rfl (ee_var 0) ee_int) (ee_ixQ rfl (ee_var 1) ee_int)) (ee_bin or_mulT rb_mulT (ee_ixQ rfl (ee_var 1) ee_int) (ee_ixQ rfl (ee_var 0) ee_int))) (ea_cons (ee_bin or_mulT rb_mulT (ee_ixQ rfl (ee_var 0) ee_int) (ee_ixQ rfl (ee_var 1) ee_int)) ea_nil)) (lc (lc ln)))))
theorem ok_times (T : Tx P K mg C0 f0 f1 f2 f3 f4 f5 f6 f7 f8 f9 f10 f11 f12 f13 f14 f15 f16 f17 f18 f19 f20 f21 f22 f23 f24 f25 f26 f27 f28 f29 f30 f31 f32 f33 f34 f35 f36 f37 f38 f39 f40 f41 f42 fd0 fd1 fd2 fd3 fd4 fd5 fd6 fd7 fd8 fd9 fd10 fd11 fd12 fd13 fd14 fd15 fd16 fd17 fd18 fd19 fd20 fd21 fd22 fd23 fd24 fd25 fd26 fd27 fd28 fd29 fd30 fd31 fd32 fd33 fd34 fd35 fd36 fd37 fd38 fd39 fd40 fd41 fd42) : FnOk P w K mg base (L2.CX P w) 3 f5 fd5 ["one", "other"] (spM K (xrOf [(C0, "word")]) 2 f_times) :=
  have nd := sc_times.nd
  fn_okX (m := m_times) (N := nm_times) (ps := ["one", "other"]) 2 rfl rfl rfl T.F_times sc_times fun cdv A outer s H E hr tk po => (es_one (es_ret (ee_callX (ok_part T) tk (hr.mono (j := 2) (by decide)) T.m_part T.F_part.kp T.b_part rfl (ea_cons (ee_bin or_mulT rb_mulT (ee_ixQ rfl (ee_var 0) ee_int) (ee_ixQ rfl (ee_var 1) ee_int)) (ea_cons (ee_bin or_mulT rb_mulT (ee_ixQ rfl (ee_var 0) ee_int) (ee_ixQ rfl (ee_var 1) ee_int)) ea_nil)) (lc (lc ln)))))
theorem ok_whole_below (T : Tx P K mg C0 f0 f1 f2 f3 f4 f5 f6 f7 f8 f9 f10 f11 f12 f13 f14 f15 f16 f17 f18 f19 f20 f21 f22 f23 f24 f25 f26 f27 f28 f29 f30 f31 f32 f33 f34 f35 f36 f37 f38 f39 f40 f41 f42 fd0 fd1 fd2 fd3 fd4 fd5 fd6 fd7 fd8 fd9 fd10 fd11 fd12 fd13 fd14 fd15 fd16 fd17 fd18 fd19 fd20 fd21 fd22 fd23 fd24 fd25 fd26 fd27 fd28 fd29 fd30 fd31 fd32 fd33 fd34 fd35 fd36 fd37 fd38 fd39 fd40 fd41 fd42) : FnOk P w K mg base (L2.CX P w) 1 f6 fd6 ["one"] (spM K (xrOf [(C0, "word")]) 1 f_whole_below) :=
  have nd := sc_whole_below.nd
  fn_okX (m := m_whole_below) (N := nm_whole_below) (ps := ["one"]) 0 rfl rfl rfl T.F_whole_below sc_whole_below fun cdv A outer s H E hr tk po => (es_one (es_ret (ee_bin op_divA rb_div (ee_ixQ rfl (ee_var 0) ee_int) (ee_ixQ rfl (ee_var 0) ee_int))))
theorem ok_is_step (T : Tx P K mg C0 f0 f1 f2 f3 f4 f5 f6 f7 f8 f9 f10 f11 f12 f13 f14 f15 f16 f17 f18 f19 f20 f21 f22 f23 f24 f25 f26 f27 f28 f29 f30 f31 f32 f33 f34 f35 f36 f37 f38 f39 f40 f41 f42 fd0 fd1 fd2 fd3 fd4 fd5 fd6 fd7 fd8 fd9 fd10 fd11 fd12 fd13 fd14 fd15 fd16 fd17 fd18 fd19 fd20 fd21 fd22 fd23 fd24 fd25 fd26 fd27 fd28 fd29 fd30 fd31 fd32 fd33 fd34 fd35 fd36 fd37 fd38 fd39 fd40 fd41 fd42) : FnOk P w K mg base (L2.CX P w) 3 f8 fd8 ["value"] (spM K (xrOf [(C0, "word")]) 1 f_is_step) :=
  have nd := sc_is_step.nd
  fn_okX (m := m_is_step) (N := nm_is_step) (ps := ["value"]) 2 rfl rfl rfl T.F_is_step sc_is_step fun cdv A outer s H E hr tk po => (es_cons (es_if (et_w (ew_or (et_not (et_val (ee_isi (T := "tuple") rfl (ee_var 0) T.z_isinstance (by decide +kernel) T.z_tuple (by decide +kernel)) rfl)) (ew_or (et_cmp (op_neD hr.units) rb_ne (ee_callB call_len rc_len T.z_len PySem.boot_len (ea_cons (ee_var 0) ea_nil)) ee_int) (ew_or1 (et_not (et_val (ee_isi (T := "tuple") rfl (ee_ixQ rfl (ee_var 0) ee_int) T.z_isinstance (by decide +kernel) T.z_tuple (by decide +kernel)) rfl)))))) (es_one (es_ret ee_bl)) es_nil) (es_cons (es_if (et_not (et_val (ee_callB (cr_all rfl) rc_all T.z_all (by decide +kernel) (ea_cons (ee_lc (own := [("k", 2)]) (p := (.n 2)) rfl nd (ei_seq rfl (ee_sl rfl (ee_var 0) ep_none (ep_some ee_int))) (blkOk_by (N := nm_is_step) (sc := defScope s_is_step) (by decide +kernel)) (by decide) (fun _ _ _ _ _ => (eg_name nd)) (fun _ _ _ _ _ => ets_nil) (fun _ _ _ _ _ => (ee_and (ee_isi (T := "int") rfl (ee_var 2) T.z_isinstance (by decide +kernel) T.z_int (by decide +kernel)) (ee_one (ee_not (ee_isi (T := "bool") rfl (ee_var 2) T.z_isinstance (by decide +kernel) T.z_bool (by decide +kernel))))))) ea_nil)) rfl)) (es_one (es_ret ee_bl)) es_nil) (es_cons (es_if (et_w (ew_or (et_cmp (or_notin (Room.u65 hr)) rb_notin (ee_ixQ rfl (ee_var 0) ee_int) (ee_tup (ea_cons ee_int (ea_cons ee_int ea_nil)) (lc (lc ln)))) (ew_or (et_cmp op_gt (rb_cmp (p := pGt)) (ee_callB call_abs rc_abs T.z_abs (by decide +kernel) (ea_cons (ee_ixQ rfl (ee_var 0) ee_int) ea_nil)) ee_int) (ew_or1 (et_not (et_chain op_le op_le (rb_cmp (p := pLe)) (rb_cmp (p := pLe)) ee_int (ee_callB call_len rc_len T.z_len PySem.boot_len (ea_cons (ee_ixQ rfl (ee_var 0) ee_int) ea_nil)) ee_int)))))) (es_one (es_ret ee_bl)) es_nil) (es_one (es_ret (ee_callB (cr_all rfl) rc_all T.z_all (by decide +kernel) (ea_cons (ee_lc (own := [("one", 1)]) (p := (.n 1)) rfl nd (ei_seq rfl (ee_ixQ rfl (ee_var 0) ee_int)) (blkOk_by (N := nm_is_step) (sc := defScope s_is_step) (by decide +kernel)) (by decide) (fun _ _ _ _ _ => (eg_name nd)) (fun _ _ _ _ _ => ets_nil) (fun _ _ _ _ _ => (ee_callL (ok_is_part T) (hr.mono (j := 2) (by decide)) T.m_is_part T.F_is_part.kp T.b_is_part rfl (ea_cons (ee_var 1) ea_nil) (lc ln)))) ea_nil)))))))
theorem ok_is_steps (T : Tx P K mg C0 f0 f1 f2 f3 f4 f5 f6 f7 f8 f9 f10 f11 f12 f13 f14 f15 f16 f17 f18 f19 f20 f21 f22 f23 f24 f25 f26 f27 f28 f29 f30 f31 f32 f33 f34 f35 f36 f37 f38 f39 f40 f41 f42 fd0 fd1 fd2 fd3 fd4 fd5 fd6 fd7 fd8 fd9 fd10 fd11 fd12 fd13 fd14 fd15 fd16 fd17 fd18 fd19 fd20 fd21 fd22 fd23 fd24 fd25 fd26 fd27 fd28 fd29 fd30 fd31 fd32 fd33 fd34 fd35 fd36 fd37 fd38 fd39 fd40 fd41 fd42) : FnOk P w K mg base (L2.CX P w) 4 f7 fd7 ["value"] (spM K (xrOf [(C0, "word")]) 1 f_is_steps) :=
  have nd := sc_is_steps.nd
  fn_okX (m := m_is_steps) (N := nm_is_steps) (ps := ["value"]) 3 rfl rfl rfl T.F_is_steps sc_is_steps fun cdv A outer s H E hr tk po => (es_cons (es_if (et_w (ew_or (et_not (et_val (ee_isi (T := "tuple") rfl (ee_var 0) T.z_isinstance (by decide +kernel) T.z_tuple (by decide +kernel)) rfl)) (ew_or1 (et_cmp op_gt (rb_cmp (p := pGt)) (ee_callB call_len rc_len T.z_len PySem.boot_len (ea_cons (ee_var 0) ea_nil)) (ee_gintE rfl T.c_MOST_STEPS))))) (es_one (es_ret ee_bl)) es_nil) (es_one (es_ret (ee_callB (cr_all rfl) rc_all T.z_all (by decide +kernel) (ea_cons (ee_lc (own := [("one", 1)]) (p := (.n 1)) rfl nd (ei_seq rfl (ee_var 0)) (blkOk_by (N := nm_is_steps) (sc := defScope s_is_steps) (by decide +kernel)) (by decide) (fun _ _ _ _ _ => (eg_name nd)) (fun _ _ _ _ _ => ets_nil) (fun _ _ _ _ _ => (ee_callL (ok_is_step T) (hr.mono (j := 3) (by decide)) T.m_is_step T.F_is_step.kp T.b_is_step rfl (ea_cons (ee_var 1) ea_nil) (lc ln)))) ea_nil)))))
theorem ok_is_wholes (T : Tx P K mg C0 f0 f1 f2 f3 f4 f5 f6 f7 f8 f9 f10 f11 f12 f13 f14 f15 f16 f17 f18 f19 f20 f21 f22 f23 f24 f25 f26 f27 f28 f29 f30 f31 f32 f33 f34 f35 f36 f37 f38 f39 f40 f41 f42 fd0 fd1 fd2 fd3 fd4 fd5 fd6 fd7 fd8 fd9 fd10 fd11 fd12 fd13 fd14 fd15 fd16 fd17 fd18 fd19 fd20 fd21 fd22 fd23 fd24 fd25 fd26 fd27 fd28 fd29 fd30 fd31 fd32 fd33 fd34 fd35 fd36 fd37 fd38 fd39 fd40 fd41 fd42) : FnOk P w K mg base (L2.CX P w) 1 f9 fd9 ["value"] (spM K (xrOf [(C0, "word")]) 1 f_is_wholes) :=
  have nd := sc_is_wholes.nd
  fn_okX (m := m_is_wholes) (N := nm_is_wholes) (ps := ["value"]) 0 rfl rfl rfl T.F_is_wholes sc_is_wholes fun cdv A outer s H E hr tk po => (es_cons (es_if (et_w (ew_or (et_not (et_val (ee_isi (T := "list") rfl (ee_var 0) T.z_isinstance (by decide +kernel) T.z_list (by decide +kernel)) rfl)) (ew_or (et_not (et_chain op_le op_le (rb_cmp (p := pLe)) (rb_cmp (p := pLe)) ee_int (ee_callB call_len rc_len T.z_len PySem.boot_len (ea_cons (ee_var 0) ea_nil)) (ee_gintE rfl T.c_MOST_LONG))) (ew_or1 (et_cmp (op_eqD hr.units) rb_eq (ee_bin op_mod rb_mod (ee_callB call_len rc_len T.z_len PySem.boot_len (ea_cons (ee_var 0) ea_nil)) ee_int) ee_int))))) (es_one (es_ret ee_bl)) es_nil) (es_one (es_ret (ee_callB (cr_all rfl) rc_all T.z_all (by decide +kernel) (ea_cons (ee_lc (own := [("one", 1)]) (p := (.n 1)) rfl nd (ei_seq rfl (ee_var 0)) (blkOk_by (N := nm_is_wholes) (sc := defScope s_is_wholes) (by decide +kernel)) (by decide) (fun _ _ _ _ _ => (eg_name nd)) (fun _ _ _ _ _ => ets_nil) (fun _ _ _ _ _ => (ee_and (ee_isi (T := "int") rfl (ee_var 1) T.z_isinstance (by decide +kernel) T.z_int (by decide +kernel)) (ee_one (ee_not (ee_isi (T := "bool") rfl (ee_var 1) T.z_isinstance (by decide +kernel) T.z_bool (by decide +kernel))))))) ea_nil)))))
theorem ok_told_by (T : Tx P K mg C0 f0 f1 f2 f3 f4 f5 f6 f7 f8 f9 f10 f11 f12 f13 f14 f15 f16 f17 f18 f19 f20 f21 f22 f23 f24 f25 f26 f27 f28 f29 f30 f31 f32 f33 f34 f35 f36 f37 f38 f39 f40 f41 f42 fd0 fd1 fd2 fd3 fd4 fd5 fd6 fd7 fd8 fd9 fd10 fd11 fd12 fd13 fd14 fd15 fd16 fd17 fd18 fd19 fd20 fd21 fd22 fd23 fd24 fd25 fd26 fd27 fd28 fd29 fd30 fd31 fd32 fd33 fd34 fd35 fd36 fd37 fd38 fd39 fd40 fd41 fd42) : FnOk P w K mg base (L2.CX P w) 4 f10 fd10 ["step", "row", "place"] (spM K (xrOf [(C0, "word")]) 3 f_told_by) :=
  have nd := sc_told_by.nd
  fn_okX (m := m_told_by) (N := nm_told_by) (ps := ["step", "row", "place"]) 3 rfl rfl rfl T.F_told_by sc_told_by fun cdv A outer s H E hr tk po => (es_cons (es_set false 3 nd (ee_tup (ea_cons ee_int (ea_cons ee_int ea_nil)) (lc (lc ln)))) (es_cons (es_for (p := (.n 4)) po rfl (ei_rng1 T.z_range (ea_cons (ee_callB call_len rc_len T.z_len PySem.boot_len (ea_cons (ee_ixQ rfl (ee_var 0) ee_int) ea_nil)) ea_nil)) (eg_name nd) (es_one (es_set false 3 nd (ee_callX (ok_plus T) tk (hr.mono (j := 3) (by decide)) T.m_plus T.F_plus.kp T.b_plus rfl (ea_cons (ee_var 3) (ea_cons (ee_callX (ok_times T) tk (hr.mono (j := 3) (by decide)) T.m_times T.F_times.kp T.b_times rfl (ea_cons (ee_ixQ rfl (ee_ixQ rfl (ee_var 0) ee_int) (ee_var 4)) (ea_cons (ee_tup (ea_cons (ee_ixQ rfl (ee_var 1) (ee_bin op_mod rb_mod (ee_bin or_add rb_add (ee_bin or_add rb_add (ee_var 2) (ee_ixQ rfl (ee_var 0) ee_int)) (ee_var 4)) (ee_callB call_len rc_len T.z_len PySem.boot_len (ea_cons (ee_var 1) ea_nil)))) (ea_cons ee_int ea_nil)) (lc (lc ln))) ea_nil)) (lc (lc ln))) ea_nil)) (lc (lc ln)))))) (es_one (es_ret (ee_callX (ok_whole_below T) tk (hr.mono (j := 1) (by decide)) T.m_whole_below T.F_whole_below.kp T.b_whole_below rfl (ea_cons (ee_var 3) ea_nil) (lc ln))))))
theorem ok_stepped (T : Tx P K mg C0 f0 f1 f2 f3 f4 f5 f6 f7 f8 f9 f10 f11 f12 f13 f14 f15 f16 f17 f18 f19 f20 f21 f22 f23 f24 f25 f26 f27 f28 f29 f30 f31 f32 f33 f34 f35 f36 f37 f38 f39 f40 f41 f42 fd0 fd1 fd2 fd3 fd4 fd5 fd6 fd7 fd8 fd9 fd10 fd11 fd12 fd13 fd14 fd15 fd16 fd17 fd18 fd19 fd20 fd21 fd22 fd23 fd24 fd25 fd26 fd27 fd28 fd29 fd30 fd31 fd32 fd33 fd34 fd35 fd36 fd37 fd38 fd39 fd40 fd41 fd42) : FnOk P w K mg base (L2.CX P w) 5 f11 fd11 ["pair", "step", "sign"] (spM K (xrOf [(C0, "word")]) 3 f_stepped) :=
  have nd := sc_stepped.nd
  fn_okX (m := m_stepped) (N := nm_stepped) (ps := ["pair", "step", "sign"]) 4 rfl rfl rfl T.F_stepped sc_stepped fun cdv A outer s H E hr tk po => (es_cons (es_set false 3 nd (ee_ixQ rfl (ee_var 1) ee_int)) (es_cons (es_set false 4 nd (ee_ixQ rfl (ee_var 0) (ee_bin op_sub rb_sub ee_int (ee_var 3)))) (es_cons (es_setLc (own := [("k", 6)]) (p := (.n 6)) false 5 rfl nd (sw_true rfl rfl rfl (by decide +kernel)) (ei_rng1 T.z_range (ea_cons (ee_callB call_len rc_len T.z_len PySem.boot_len (ea_cons (ee_ixQ rfl (ee_var 0) (ee_var 3)) ea_nil)) ea_nil)) (blkOk_by (N := nm_stepped) (sc := defScope s_stepped) (by decide +kernel)) (by decide) (fun _ _ _ _ _ => (eg_name nd)) (fun _ _ _ _ _ => ets_nil) (fun _ _ _ _ _ => (ee_bin or_add rb_add (ee_ixQ rfl (ee_ixQ rfl (ee_var 0) (ee_var 3)) (ee_var 6)) (ee_bin or_mulT rb_mulT (ee_var 2) (ee_callL (ok_told_by T) (hr.mono (j := 4) (by decide)) T.m_told_by T.F_told_by.kp T.b_told_by rfl (ea_cons (ee_var 1) (ea_cons (ee_var 4) (ea_cons (ee_var 6) ea_nil))) (lc (lc (lc ln)))))))) (es_one (es_ret (ee_if (et_cmp (op_eqD hr.units) rb_eq (ee_var 3) ee_int) (ee_tup (ea_cons (ee_var 5) (ea_cons (ee_ixQ rfl (ee_var 0) ee_int) ea_nil)) (lc (lc ln))) (ee_tup (ea_cons (ee_ixQ rfl (ee_var 0) ee_int) (ea_cons (ee_var 5) ea_nil)) (lc (lc ln)))))))))
theorem ok_apart (T : Tx P K mg C0 f0 f1 f2 f3 f4 f5 f6 f7 f8 f9 f10 f11 f12 f13 f14 f15 f16 f17 f18 f19 f20 f21 f22 f23 f24 f25 f26 f27 f28 f29 f30 f31 f32 f33 f34 f35 f36 f37 f38 f39 f40 f41 f42 fd0 fd1 fd2 fd3 fd4 fd5 fd6 fd7 fd8 fd9 fd10 fd11 fd12 fd13 fd14 fd15 fd16 fd17 fd18 fd19 fd20 fd21 fd22 fd23 fd24 fd25 fd26 fd27 fd28 fd29 fd30 fd31 fd32 fd33 fd34 fd35 fd36 fd37 fd38 fd39 fd40 fd41 fd42) : FnOk P w K mg base (L2.CX P w) 6 f12 fd12 ["row", "steps"] (spM K (xrOf [(C0, "word")]) 2 f_apart) :=
  have nd := sc_apart.nd
  fn_okX (m := m_apart) (N := nm_apart) (ps := ["row", "steps"]) 5 rfl rfl rfl T.F_apart sc_apart fun cdv A outer s H E hr tk po => (es_cons (es_if (et_not (et_val (ee_callX (ok_is_wholes T) tk (hr.mono (j := 1) (by decide)) T.m_is_wholes T.F_is_wholes.kp T.b_is_wholes rfl (ea_cons (ee_var 0) ea_nil) (lc ln)) rfl)) (es_one (es_raise (k := 0) T.X_Misstep rfl tk rfl rfl (hr.mono (by decide)) T.g_Misstep T.z_super (by rw [sizeLine_eq]; decide))) es_nil) (es_cons (es_set false 2 nd (ee_tup (ea_cons (ee_str2 (c := 2) (by decide) rfl (ee_var 0) ep_none) (ea_cons (ee_str2 (c := 2) (by decide) rfl (ee_var 0) (ep_some ee_int)) ea_nil)) (lc (lc ln)))) (es_cons (es_for (p := (.n 3)) po rfl (ei_seq rfl (ee_var 1)) (eg_name nd) (es_one (es_set false 2 nd (ee_callX (ok_stepped T) tk (hr.mono (j := 5) (by decide)) T.m_stepped T.F_stepped.kp T.b_stepped rfl (ea_cons (ee_var 2) (ea_cons (ee_var 3) (ea_cons ee_int ea_nil))) (lc (lc (lc ln))))))) (es_one (es_ret (ee_var 2))))))
theorem ok_together (T : Tx P K mg C0 f0 f1 f2 f3 f4 f5 f6 f7 f8 f9 f10 f11 f12 f13 f14 f15 f16 f17 f18 f19 f20 f21 f22 f23 f24 f25 f26 f27 f28 f29 f30 f31 f32 f33 f34 f35 f36 f37 f38 f39 f40 f41 f42 fd0 fd1 fd2 fd3 fd4 fd5 fd6 fd7 fd8 fd9 fd10 fd11 fd12 fd13 fd14 fd15 fd16 fd17 fd18 fd19 fd20 fd21 fd22 fd23 fd24 fd25 fd26 fd27 fd28 fd29 fd30 fd31 fd32 fd33 fd34 fd35 fd36 fd37 fd38 fd39 fd40 fd41 fd42) : FnOk P w K mg base (L2.CX P w) 6 f13 fd13 ["pair", "steps"] (spM K (xrOf [(C0, "word")]) 2 f_together) :=
  have nd := sc_together.nd
  fn_okX (m := m_together) (N := nm_together) (ps := ["pair", "steps"]) 5 rfl rfl rfl T.F_together sc_together fun cdv A outer s H E hr tk po => (es_cons (es_if (et_w (ew_or (et_cmp (op_neD hr.units) rb_ne (ee_callB call_len rc_len T.z_len PySem.boot_len (ea_cons (ee_ixQ rfl (ee_var 0) ee_int) ea_nil)) (ee_callB call_len rc_len T.z_len PySem.boot_len (ea_cons (ee_ixQ rfl (ee_var 0) ee_int) ea_nil))) (ew_or1 (et_cmp (op_eqD hr.units) rb_eq (ee_callB call_len rc_len T.z_len PySem.boot_len (ea_cons (ee_ixQ rfl (ee_var 0) ee_int) ea_nil)) ee_int)))) (es_one (es_raise (k := 0) T.X_Misstep rfl tk rfl rfl (hr.mono (by decide)) T.g_Misstep T.z_super (by rw [sizeLine_eq]; decide))) es_nil) (es_cons (es_for (p := (.n 2)) po rfl (ei_seq rfl (ee_revA rfl (ee_var 1))) (eg_name nd) (es_one (es_set false 0 nd (ee_callX (ok_stepped T) tk (hr.mono (j := 5) (by decide)) T.m_stepped T.F_stepped.kp T.b_stepped rfl (ea_cons (ee_var 0) (ea_cons (ee_var 2) (ea_cons (ee_bin op_sub rb_sub ee_int ee_int) ea_nil))) (lc (lc (lc ln))))))) (es_cons (es_setO false 3 nd (ef_lst ea_nil ln)) (es_cons (es_for (p := (.n 4)) po rfl (ei_rng1 T.z_range (ea_cons (ee_callB call_len rc_len T.z_len PySem.boot_len (ea_cons (ee_ixQ rfl (ee_var 0) ee_int) ea_nil)) ea_nil)) (eg_name nd) (es_one (es_ext false 3 (ee_lst (ea_cons (ee_ixQ rfl (ee_ixQ rfl (ee_var 0) ee_int) (ee_var 4)) (ea_cons (ee_ixQ rfl (ee_ixQ rfl (ee_var 0) ee_int) (ee_var 4)) ea_nil)) (lc (lc ln))) rfl (hm := fun h => pe_bm PySem.F.plainAttrs_list PySem.F.slot_list_extend PySem.F.type_list_extend mt_extendAll (pv 3) (pa_cons h pa_nil))))) (es_one (es_ret (ee_var 3)))))))
theorem ok_pyramid (T : Tx P K mg C0 f0 f1 f2 f3 f4 f5 f6 f7 f8 f9 f10 f11 f12 f13 f14 f15 f16 f17 f18 f19 f20 f21 f22 f23 f24 f25 f26 f27 f28 f29 f30 f31 f32 f33 f34 f35 f36 f37 f38 f39 f40 f41 f42 fd0 fd1 fd2 fd3 fd4 fd5 fd6 fd7 fd8 fd9 fd10 fd11 fd12 fd13 fd14 fd15 fd16 fd17 fd18 fd19 fd20 fd21 fd22 fd23 fd24 fd25 fd26 fd27 fd28 fd29 fd30 fd31 fd32 fd33 fd34 fd35 fd36 fd37 fd38 fd39 fd40 fd41 fd42) : FnOk P w K mg base (L2.CX P w) 7 f14 fd14 ["row", "steps", "many"] (spM K (xrOf [(C0, "word")]) 3 f_pyramid) :=
  have nd := sc_pyramid.nd
  fn_okX (m := m_pyramid) (N := nm_pyramid) (ps := ["row", "steps", "many"]) 6 rfl rfl rfl T.F_pyramid sc_pyramid fun cdv A outer s H E hr tk po => (es_cons (es_parO false 3 4 rfl nd (ei_consV (ee_callTy call_list_of rc_list T.z_list (by decide +kernel) (ea_cons (ee_var 0) ea_nil)) (ei_consO (ef_lst ea_nil ln) ei_nilI))) (es_cons (es_for (p := (.n 5)) po rfl (ei_rng1 T.z_range (ea_cons (ee_var 2) ea_nil)) (eg_name nd) (es_cons (es_asg false (ee_callX (ok_apart T) tk (hr.mono (j := 6) (by decide)) T.m_apart T.F_apart.kp T.b_apart rfl (ea_cons (ee_var 3) (ea_cons (ee_var 1) ea_nil)) (lc (lc ln))) (eg_tup rfl rfl (egs_cons (eg_name nd) (egs_cons (eg_name nd) egs_nil)))) (es_one (es_app false 4 (ee_var 6) rfl (hm := fun h => pe_bm PySem.F.plainAttrs_list PySem.F.slot_list_append PySem.F.type_list_append mt_append (pv 4) (pa_cons h pa_nil)))))) (es_one (es_ret (ee_tup (ea_cons (ee_var 3) (ea_cons (ee_var 4) ea_nil)) (lc (lc ln)))))))
theorem ok_back (T : Tx P K mg C0 f0 f1 f2 f3 f4 f5 f6 f7 f8 f9 f10 f11 f12 f13 f14 f15 f16 f17 f18 f19 f20 f21 f22 f23 f24 f25 f26 f27 f28 f29 f30 f31 f32 f33 f34 f35 f36 f37 f38 f39 f40 f41 f42 fd0 fd1 fd2 fd3 fd4 fd5 fd6 fd7 fd8 fd9 fd10 fd11 fd12 fd13 fd14 fd15 fd16 fd17 fd18 fd19 fd20 fd21 fd22 fd23 fd24 fd25 fd26 fd27 fd28 fd29 fd30 fd31 fd32 fd33 fd34 fd35 fd36 fd37 fd38 fd39 fd40 fd41 fd42) : FnOk P w K mg base (L2.CX P w) 7 f15 fd15 ["told", "steps"] (spM K (xrOf [(C0, "word")]) 2 f_back) :=
  have nd := sc_back.nd
  fn_okX (m := m_back) (N := nm_back) (ps := ["told", "steps"]) 6 rfl rfl rfl T.F_back sc_back fun cdv A outer s H E hr tk po => (es_cons (es_asg false (ee_var 0) (eg_tup rfl rfl (egs_cons (eg_name nd) (egs_cons (eg_name nd) egs_nil)))) (es_cons (es_for (p := (.n 4)) po rfl (ei_seq rfl (ee_revA rfl (ee_var 3))) (eg_name nd) (es_one (es_set false 2 nd (ee_callX (ok_together T) tk (hr.mono (j := 6) (by decide)) T.m_together T.F_together.kp T.b_together rfl (ea_cons (ee_tup (ea_cons (ee_var 2) (ea_cons (ee_var 4) ea_nil)) (lc (lc ln))) (ea_cons (ee_var 1) ea_nil)) (lc (lc ln)))))) (es_one (es_ret (ee_callTy call_list_of rc_list T.z_list (by decide +kernel) (ea_cons (ee_var 2) ea_nil))))))
theorem ok_without_rounding (T : Tx P K mg C0 f0 f1 f2 f3 f4 f5 f6 f7 f8 f9 f10 f11 f12 f13 f14 f15 f16 f17 f18 f19 f20 f21 f22 f23 f24 f25 f26 f27 f28 f29 f30 f31 f32 f33 f34 f35 f36 f37 f38 f39 f40 f41 f42 fd0 fd1 fd2 fd3 fd4 fd5 fd6 fd7 fd8 fd9 fd10 fd11 fd12 fd13 fd14 fd15 fd16 fd17 fd18 fd19 fd20 fd21 fd22 fd23 fd24 fd25 fd26 fd27 fd28 fd29 fd30 fd31 fd32 fd33 fd34 fd35 fd36 fd37 fd38 fd39 fd40 fd41 fd42) : FnOk P w K mg base (L2.CX P w) 4 f16 fd16 ["row", "steps"] (spM K (xrOf [(C0, "word")]) 2 f_without_rounding) :=
  have nd := sc_without_rounding.nd
  fn_okX (m := m_without_rounding) (N := nm_without_rounding) (ps := ["row", "steps"]) 3 rfl rfl rfl T.F_without_rounding sc_without_rounding fun cdv A outer s H E hr tk po => (es_cons (es_if (et_not (et_val (ee_callX (ok_is_wholes T) tk (hr.mono (j := 1) (by decide)) T.m_is_wholes T.F_is_wholes.kp T.b_is_wholes rfl (ea_cons (ee_var 0) ea_nil) (lc ln)) rfl)) (es_one (es_raise (k := 0) T.X_Misstep rfl tk rfl rfl (hr.mono (by decide)) T.g_Misstep T.z_super (by rw [sizeLine_eq]; decide))) es_nil) (es_cons (es_setO false 2 nd (ef_lst (ea_cons (ee_lc (own := [("one", 12)]) (p := (.n 12)) rfl nd (ei_seq rfl (ee_str2 (c := 2) (by decide) rfl (ee_var 0) ep_none)) (blkOk_by (N := nm_without_rounding) (sc := defScope s_without_rounding) (by decide +kernel)) (by decide) (fun _ _ _ _ _ => (eg_name nd)) (fun _ _ _ _ _ => ets_nil) (fun _ _ _ _ _ => (ee_tup (ea_cons (ee_var 12) (ea_cons ee_int ea_nil)) (lc (lc ln))))) (ea_cons (ee_lc (own := [("one", 12)]) (p := (.n 12)) rfl nd (ei_seq rfl (ee_str2 (c := 2) (by decide) rfl (ee_var 0) (ep_some ee_int))) (blkOk_by (N := nm_without_rounding) (sc := defScope s_without_rounding) (by decide +kernel)) (by decide) (fun _ _ _ _ _ => (eg_name nd)) (fun _ _ _ _ _ => ets_nil) (fun _ _ _ _ _ => (ee_tup (ea_cons (ee_var 12) (ea_cons ee_int ea_nil)) (lc (lc ln))))) ea_nil)) (lc (lc ln)))) (es_cons (es_for (p := (.t [(.n 3), (.n 4), (.n 5)])) po rfl (ei_seq rfl (ee_var 1)) (eg_tup rfl rfl (egs_cons (eg_name nd) (egs_cons (eg_name nd) (egs_cons (eg_name nd) egs_nil)))) (es_cons (es_parL rfl 6 7 rfl nd (ea_cons (ee_ixQ rfl (ee_var 2) (ee_bin op_sub rb_sub ee_int (ee_var 3))) (ea_cons (ee_callB call_len rc_len T.z_len PySem.boot_len (ea_cons (ee_ixQ rfl (ee_var 2) (ee_var 3)) ea_nil)) ea_nil))) (es_cons (es_setO false 8 nd (ef_lst ea_nil ln)) (es_cons (es_for (p := (.n 9)) po rfl (ei_rng1 T.z_range (ea_cons (ee_var 7) ea_nil)) (eg_name nd) (es_cons (es_set true 10 nd (ee_ixQ rfl (ee_ixQ rfl (ee_var 2) (ee_var 3)) (ee_var 9))) (es_cons (es_for (p := (.n 11)) po rfl (ei_rng1 T.z_range (ea_cons (ee_callB call_len rc_len T.z_len PySem.boot_len (ea_cons (ee_var 5) ea_nil)) ea_nil)) (eg_name nd) (es_one (es_set false 10 nd (ee_callX (ok_plus T) tk (hr.mono (j := 3) (by decide)) T.m_plus T.F_plus.kp T.b_plus rfl (ea_cons (ee_var 10) (ea_cons (ee_callX (ok_times T) tk (hr.mono (j := 3) (by decide)) T.m_times T.F_times.kp T.b_times rfl (ea_cons (ee_ixQ rfl (ee_var 5) (ee_var 11)) (ea_cons (ee_ixQ rfl (ee_var 6) (ee_bin op_mod rb_mod (ee_bin or_add rb_add (ee_bin or_add rb_add (ee_var 9) (ee_var 4)) (ee_var 11)) (ee_var 7))) ea_nil)) (lc (lc ln))) ea_nil)) (lc (lc ln)))))) (es_one (es_app false 8 (ee_var 10) rfl (hm := fun h => pe_bm PySem.F.plainAttrs_list PySem.F.slot_list_append PySem.F.type_list_append mt_append (pv 8) (pa_cons h pa_nil))))))) (es_one (es_frz 8 (es_setI false 2 (ee_var 8) (ee_var 3)))))))) (es_one (es_ret (ee_tup (ea_cons (ee_ixQ rfl (ee_var 2) ee_int) (ea_cons (ee_ixQ rfl (ee_var 2) ee_int) ea_nil)) (lc (lc ln))))))))
theorem ok_gap_of (T : Tx P K mg C0 f0 f1 f2 f3 f4 f5 f6 f7 f8 f9 f10 f11 f12 f13 f14 f15 f16 f17 f18 f19 f20 f21 f22 f23 f24 f25 f26 f27 f28 f29 f30 f31 f32 f33 f34 f35 f36 f37 f38 f39 f40 f41 f42 fd0 fd1 fd2 fd3 fd4 fd5 fd6 fd7 fd8 fd9 fd10 fd11 fd12 fd13 fd14 fd15 fd16 fd17 fd18 fd19 fd20 fd21 fd22 fd23 fd24 fd25 fd26 fd27 fd28 fd29 fd30 fd31 fd32 fd33 fd34 fd35 fd36 fd37 fd38 fd39 fd40 fd41 fd42) : FnOk P w K mg base (L2.CX P w) 7 f17 fd17 ["row", "steps"] (spM K (xrOf [(C0, "word")]) 2 f_gap_of) :=
  have nd := sc_gap_of.nd
  fn_okX (m := m_gap_of) (N := nm_gap_of) (ps := ["row", "steps"]) 6 rfl rfl rfl T.F_gap_of sc_gap_of fun cdv A outer s H E hr tk po => (es_cons (es_par false 2 3 rfl nd (ea_cons (ee_callX (ok_apart T) tk (hr.mono (j := 6) (by decide)) T.m_apart T.F_apart.kp T.b_apart rfl (ea_cons (ee_var 0) (ea_cons (ee_var 1) ea_nil)) (lc (lc ln))) (ea_cons (ee_callX (ok_without_rounding T) tk (hr.mono (j := 4) (by decide)) T.m_without_rounding T.F_without_rounding.kp T.b_without_rounding rfl (ea_cons (ee_var 0) (ea_cons (ee_var 1) ea_nil)) (lc (lc ln))) ea_nil))) (es_cons (es_set false 4 nd (ee_tup (ea_cons ee_int (ea_cons ee_int ea_nil)) (lc (lc ln)))) (es_cons (es_for (p := (.n 5)) po rfl (ei_rng1 T.z_range (ea_cons ee_int ea_nil)) (eg_name nd) (es_one (es_for (p := (.n 6)) po rfl (ei_rng1 T.z_range (ea_cons (ee_callB call_len rc_len T.z_len PySem.boot_len (ea_cons (ee_ixQ rfl (ee_var 2) (ee_var 5)) ea_nil)) ea_nil)) (eg_name nd) (es_cons (es_set false 7 nd (ee_callX (ok_minus T) tk (hr.mono (j := 3) (by decide)) T.m_minus T.F_minus.kp T.b_minus rfl (ea_cons (ee_tup (ea_cons (ee_ixQ rfl (ee_ixQ rfl (ee_var 2) (ee_var 5)) (ee_var 6)) (ea_cons ee_int ea_nil)) (lc (lc ln))) (ea_cons (ee_ixQ rfl (ee_ixQ rfl (ee_var 3) (ee_var 5)) (ee_var 6)) ea_nil)) (lc (lc ln)))) (es_cons (es_set false 7 nd (ee_tup (ea_cons (ee_callB call_abs rc_abs T.z_abs (by decide +kernel) (ea_cons (ee_ixQ rfl (ee_var 7) ee_int) ea_nil)) (ea_cons (ee_ixQ rfl (ee_var 7) ee_int) ea_nil)) (lc (lc ln)))) (es_one (es_set false 4 nd (ee_if (et_cmp op_gt (rb_cmp (p := pGt)) (ee_ixQ rfl (ee_callX (ok_minus T) tk (hr.mono (j := 3) (by decide)) T.m_minus T.F_minus.kp T.b_minus rfl (ea_cons (ee_var 7) (ea_cons (ee_var 4) ea_nil)) (lc (lc ln))) ee_int) ee_int) (ee_var 7) (ee_var 4))))))))) (es_one (es_ret (ee_var 4))))))
theorem ok_means_and_gaps (T : Tx P K mg C0 f0 f1 f2 f3 f4 f5 f6 f7 f8 f9 f10 f11 f12 f13 f14 f15 f16 f17 f18 f19 f20 f21 f22 f23 f24 f25 f26 f27 f28 f29 f30 f31 f32 f33 f34 f35 f36 f37 f38 f39 f40 f41 f42 fd0 fd1 fd2 fd3 fd4 fd5 fd6 fd7 fd8 fd9 fd10 fd11 fd12 fd13 fd14 fd15 fd16 fd17 fd18 fd19 fd20 fd21 fd22 fd23 fd24 fd25 fd26 fd27 fd28 fd29 fd30 fd31 fd32 fd33 fd34 fd35 fd36 fd37 fd38 fd39 fd40 fd41 fd42) : FnOk P w K mg base (L2.CX P w) 1 f18 fd18 [] (spM K (xrOf [(C0, "word")]) 0 f_means_and_gaps) :=
  have nd := sc_means_and_gaps.nd
  fn_okX (m := m_means_and_gaps) (N := nm_means_and_gaps) (ps := []) 0 rfl rfl rfl T.F_means_and_gaps sc_means_and_gaps fun cdv A outer s H E hr tk po => (es_one (es_ret (ee_tup (ea_cons (ee_tup (ea_cons ee_int (ea_cons ee_int (ea_cons (ee_tup (ea_cons (ee_tup (ea_cons (ee_bin op_sub rb_sub ee_int ee_int) (ea_cons ee_int ea_nil)) (lc (lc ln))) ea_nil) (lc ln)) ea_nil))) (lc (lc (lc ln)))) (ea_cons (ee_tup (ea_cons ee_int (ea_cons ee_int (ea_cons (ee_tup (ea_cons (ee_tup (ea_cons ee_int (ea_cons ee_int ea_nil)) (lc (lc ln))) ea_nil) (lc ln)) ea_nil))) (lc (lc (lc ln)))) ea_nil)) (lc (lc ln)))))
theorem ok_near_means (T : Tx P K mg C0 f0 f1 f2 f3 f4 f5 f6 f7 f8 f9 f10 f11 f12 f13 f14 f15 f16 f17 f18 f19 f20 f21 f22 f23 f24 f25 f26 f27 f28 f29 f30 f31 f32 f33 f34 f35 f36 f37 f38 f39 f40 f41 f42 fd0 fd1 fd2 fd3 fd4 fd5 fd6 fd7 fd8 fd9 fd10 fd11 fd12 fd13 fd14 fd15 fd16 fd17 fd18 fd19 fd20 fd21 fd22 fd23 fd24 fd25 fd26 fd27 fd28 fd29 fd30 fd31 fd32 fd33 fd34 fd35 fd36 fd37 fd38 fd39 fd40 fd41 fd42) : FnOk P w K mg base (L2.CX P w) 1 f19 fd19 [] (spM K (xrOf [(C0, "word")]) 0 f_near_means) :=
  have nd := sc_near_means.nd
  fn_okX (m := m_near_means) (N := nm_near_means) (ps := []) 0 rfl rfl rfl T.F_near_means sc_near_means fun cdv A outer s H E hr tk po => (es_one (es_ret (ee_tup (ea_cons (ee_tup (ea_cons ee_int (ea_cons ee_int (ea_cons (ee_tup (ea_cons (ee_tup (ea_cons (ee_bin op_sub rb_sub ee_int ee_int) (ea_cons ee_int ea_nil)) (lc (lc ln))) (ea_cons (ee_tup (ea_cons (ee_bin op_sub rb_sub ee_int ee_int) (ea_cons ee_int ea_nil)) (lc (lc ln))) ea_nil)) (lc (lc ln))) ea_nil))) (lc (lc (lc ln)))) (ea_cons (ee_tup (ea_cons ee_int (ea_cons (ee_bin op_sub rb_sub ee_int ee_int) (ea_cons (ee_tup (ea_cons (ee_tup (ea_cons ee_int (ea_cons ee_int ea_nil)) (lc (lc ln))) (ea_cons (ee_tup (ea_cons ee_int (ea_cons ee_int ea_nil)) (lc (lc ln))) ea_nil)) (lc (lc ln))) ea_nil))) (lc (lc (lc ln)))) ea_nil)) (lc (lc ln)))))
theorem ok_zigzag (T : Tx P K mg C0 f0 f1 f2 f3 f4 f5 f6 f7 f8 f9 f10 f11 f12 f13 f14 f15 f16 f17 f18 f19 f20 f21 f22 f23 f24 f25 f26 f27 f28 f29 f30 f31 f32 f33 f34 f35 f36 f37 f38 f39 f40 f41 f42 fd0 fd1 fd2 fd3 fd4 fd5 fd6 fd7 fd8 fd9 fd10 fd11 fd12 fd13 fd14 fd15 fd16 fd17 fd18 fd19 fd20 fd21 fd22 fd23 fd24 fd25 fd26 fd27 fd28 fd29 fd30 fd31 fd32 fd33 fd34 fd35 fd36 fd37 fd38 fd39 fd40 fd41 fd42) : FnOk P w K mg base (L2.CX P w) 1 f20 fd20 ["number"] (spM K (xrOf [(C0, "word")]) 1 f_zigzag) :=
  have nd := sc_zigzag.nd
  fn_okX (m := m_zigzag) (N := nm_zigzag) (ps := ["number"]) 0 rfl rfl rfl T.F_zigzag sc_zigzag fun cdv A outer s H E hr tk po => (es_one (es_ret (ee_if (et_cmp op_ge (rb_cmp (p := pGe)) (ee_var 0) ee_int) (ee_bin or_mulT rb_mulT ee_int (ee_var 0)) (ee_bin op_sub rb_sub (ee_bin op_sub rb_sub ee_int (ee_bin or_mulT rb_mulT ee_int (ee_var 0))) ee_int))))
theorem ok_unzigzag (T : Tx P K mg C0 f0 f1 f2 f3 f4 f5 f6 f7 f8 f9 f10 f11 f12 f13 f14 f15 f16 f17 f18 f19 f20 f21 f22 f23 f24 f25 f26 f27 f28 f29 f30 f31 f32 f33 f34 f35 f36 f37 f38 f39 f40 f41 f42 fd0 fd1 fd2 fd3 fd4 fd5 fd6 fd7 fd8 fd9 fd10 fd11 fd12 fd13 fd14 fd15 fd16 fd17 fd18 fd19 fd20 fd21 fd22 fd23 fd24 fd25 fd26 fd27 fd28 fd29 fd30 fd31 fd32 fd33 fd34 fd35 fd36 fd37 fd38 fd39 fd40 fd41 fd42) : FnOk P w K mg base (L2.CX P w) 1 f21 fd21 ["number"] (spM K (xrOf [(C0, "word")]) 1 f_unzigzag) :=
  have nd := sc_unzigzag.nd
  fn_okX (m := m_unzigzag) (N := nm_unzigzag) (ps := ["number"]) 0 rfl rfl rfl T.F_unzigzag sc_unzigzag fun cdv A outer s H E hr tk po => (es_one (es_ret (ee_if (et_cmp (op_eqD hr.units) rb_eq (ee_bin op_mod rb_mod (ee_var 0) ee_int) ee_int) (ee_bin op_divA rb_div (ee_var 0) ee_int) (ee_bin op_sub rb_sub ee_int (ee_bin op_divA rb_div (ee_bin or_add rb_add (ee_var 0) ee_int) ee_int)))))
theorem ok_cost (T : Tx P K mg C0 f0 f1 f2 f3 f4 f5 f6 f7 f8 f9 f10 f11 f12 f13 f14 f15 f16 f17 f18 f19 f20 f21 f22 f23 f24 f25 f26 f27 f28 f29 f30 f31 f32 f33 f34 f35 f36 f37 f38 f39 f40 f41 f42 fd0 fd1 fd2 fd3 fd4 fd5 fd6 fd7 fd8 fd9 fd10 fd11 fd12 fd13 fd14 fd15 fd16 fd17 fd18 fd19 fd20 fd21 fd22 fd23 fd24 fd25 fd26 fd27 fd28 fd29 fd30 fd31 fd32 fd33 fd34 fd35 fd36 fd37 fd38 fd39 fd40 fd41 fd42) : FnOk P w K mg base (L2.CX P w) 2 f22 fd22 ["row"] (spM K (xrOf [(C0, "word")]) 1 f_cost) :=
  have nd := sc_cost.nd
  fn_okX (m := m_cost) (N := nm_cost) (ps := ["row"]) 1 rfl rfl rfl T.F_cost sc_cost fun cdv A outer s H E hr tk po => (es_cons (es_set false 1 nd ee_int) (es_cons (es_for (p := (.n 2)) po rfl (ei_seq rfl (ee_var 0)) (eg_name nd) (es_cons (es_par false 3 4 rfl nd (ea_cons (ee_bin op_divA rb_div (ee_callX (ok_zigzag T) tk (hr.mono (j := 1) (by decide)) T.m_zigzag T.F_zigzag.kp T.b_zigzag rfl (ea_cons (ee_var 2) ea_nil) (lc ln)) ee_int) (ea_cons ee_int ea_nil))) (es_cons (es_while po (et_cmp op_gt (rb_cmp (p := pGt)) (ee_var 3) ee_int) (es_one (es_par false 3 4 rfl nd (ea_cons (ee_bin op_divA rb_div (ee_var 3) ee_int) (ea_cons (ee_bin or_add rb_add (ee_var 4) ee_int) ea_nil))))) (es_one (es_aug false 1 nd ip_add (ee_var 4)))))) (es_one (es_ret (ee_var 1)))))
theorem ok_is_same_way (T : Tx P K mg C0 f0 f1 f2 f3 f4 f5 f6 f7 f8 f9 f10 f11 f12 f13 f14 f15 f16 f17 f18 f19 f20 f21 f22 f23 f24 f25 f26 f27 f28 f29 f30 f31 f32 f33 f34 f35 f36 f37 f38 f39 f40 f41 f42 fd0 fd1 fd2 fd3 fd4 fd5 fd6 fd7 fd8 fd9 fd10 fd11 fd12 fd13 fd14 fd15 fd16 fd17 fd18 fd19 fd20 fd21 fd22 fd23 fd24 fd25 fd26 fd27 fd28 fd29 fd30 fd31 fd32 fd33 fd34 fd35 fd36 fd37 fd38 fd39 fd40 fd41 fd42) : FnOk P w K mg base (L2.CX P w) 7 f23 fd23 ["row", "steps"] (spM K (xrOf [(C0, "word")]) 2 f_is_same_way) :=
  have nd := sc_is_same_way.nd
  fn_okX (m := m_is_same_way) (N := nm_is_same_way) (ps := ["row", "steps"]) 6 rfl rfl rfl T.F_is_same_way sc_is_same_way fun cdv A outer s H E hr tk po => (es_one (es_ret (ee_cmp (op_eqD hr.units) rb_eq (ee_callX (ok_together T) tk (hr.mono (j := 6) (by decide)) T.m_together T.F_together.kp T.b_together rfl (ea_cons (ee_callX (ok_apart T) tk (hr.mono (j := 6) (by decide)) T.m_apart T.F_apart.kp T.b_apart rfl (ea_cons (ee_var 0) (ea_cons (ee_var 1) ea_nil)) (lc (lc ln))) (ea_cons (ee_var 1) ea_nil)) (lc (lc ln))) (ee_callTy call_list_of rc_list T.z_list (by decide +kernel) (ea_cons (ee_var 0) ea_nil)))))
theorem ok__law_state (T : Tx P K mg C0 f0 f1 f2 f3 f4 f5 f6 f7 f8 f9 f10 f11 f12 f13 f14 f15 f16 f17 f18 f19 f20 f21 f22 f23 f24 f25 f26 f27 f28 f29 f30 f31 f32 f33 f34 f35 f36 f37 f38 f39 f40 f41 f42 fd0 fd1 fd2 fd3 fd4 fd5 fd6 fd7 fd8 fd9 fd10 fd11 fd12 fd13 fd14 fd15 fd16 fd17 fd18 fd19 fd20 fd21 fd22 fd23 fd24 fd25 fd26 fd27 fd28 fd29 fd30 fd31 fd32 fd33 fd34 fd35 fd36 fd37 fd38 fd39 fd40 fd41 fd42) : FnOk P w K mg base CX0 1 f24 fd24 ["script"] (spState K) := by
  have nd := sc__law_state.nd
  refine T.F__law_state.ok (k := 0) sc__law_state (fun vs H Q E h => ?_) (fun cdv A outer s H vs Q E hr h => ?_)
  · obtain ⟨a, ns, rfl, _⟩ := h
    rfl
  · obtain ⟨a, ns, rfl, hS, hlen, q⟩ := h
    refine ⟨_, pss_cons (ps_setLc (i := 1) (own := [("cell", 2)]) (g := gName 2) (tt := tYes) rfl nd rfl rfl (sw_true rfl rfl rfl (by decide +kernel)) (pi_list (pe_slice sl_list (pv 0) po_none (po_some pe_int))) (blkOk_by (N := nm__law_state) (sc := defScope s__law_state) (by decide +kernel)) (fun _ _ _ _ _ => pg_name (i := 2) nd rfl (Or.inl rfl)) (fun _ _ _ _ _ => pts_nil) (fun _ _ _ _ _ => pe_callB call_abs (by rfl) T.z_abs (by decide +kernel) (pa_cons (pv 2) pa_nil)))
      (pss_cons (ps_if (pt_cmpR op_eq (pe_callB call_len_seq (by rfl) T.z_len PySem.boot_len (pa_cons (pv 1) pa_nil)) pe_int (nomark _)) (pss_one (ps_set (i := 1) nd rfl (.inl rfl) (pe_lst (pa_cons pe_int pa_nil)))) pss_nil)
      (pss_one (ps_ret (pe_lst (pa_cons pe_int (pa_cons (pv 1) pa_nil)))))), ?_⟩
    refine ⟨_, rfl, 63, rfl, a, ns.map V.int, rfl, hS, fun c nc => ?_⟩
    have hcut : cutV (ns.map V.int) none (some 63) = (ns.take 63).map V.int := by
      unfold cutV
      rw [HT.sIx_none, show HT.sIx (ns.map V.int).length (ns.map V.int).length (some 63) = min 63 (ns.map V.int).length from HT.sIx_nat _ _ 63]
      rw [List.drop_zero, Nat.sub_zero, ← List.map_take, List.length_map]
      congr 1
      by_cases h : 63 ≤ ns.length
      · rw [Nat.min_eq_left h]
      · rw [Nat.min_eq_right (by omega), List.take_of_length_le (Nat.le_refl _), List.take_of_length_le (by omega)]
    rw [hcut]
    let xs := ns.take 63
    have hxl : xs.length ≤ 63 := by show (ns.take 63).length ≤ 63; rw [List.length_take]; omega
    have s1 : Same H (upd H c (.lst (xs.map V.int))) := fun b o e => by rw [upd_ne (ne_of_none e nc)]; exact e
    refine ⟨c, rfl, ⟨_, .inl (.inl upd_same)⟩, fun D hD => ?_⟩
    have hDc : D ≠ c := fun e => by rw [e, upd_same] at hD; cases hD
    have hD0 : H D = none := by rwa [upd_ne hDc] at hD
    let ab : Int → Int := fun i => if i < 0 then -i else i
    refine lc_list (K := K) (a := c) (xs := xs.map V.int) (fun i H' => Same H H' ∧ H' c = some (.lst (xs.map V.int)) ∧ H' D = some (.lst (((xs.take i).map ab).map V.int))) ⟨?_, ?_, ?_⟩ (fun i H' _ p => .inl (.inl p.2.1)) (fun i x H' hx p => ?_) (fun H' p => ?_)
    · exact fun b o e => by rw [upd_ne (fun z => by rw [z, hD0] at e; cases e)]; exact s1 b o e
    · rw [upd_ne hDc.symm]; exact upd_same
    · rw [upd_same]; rfl
    · obtain ⟨p1, p2, p3⟩ := p
      rw [List.getElem?_map] at hx
      cases qx : xs[i]? with
      | none => rw [qx] at hx; cases hx
      | some k =>
        rw [qx] at hx
        cases hx
        have hil : i < xs.length := (List.getElem?_eq_some_iff.mp qx).1
        refine ⟨rfl, _, rfl, k, rfl, _, p3, ?_, ?_, ?_, ?_⟩
        · rw [List.length_map, List.length_map, List.length_take, sizeLine_eq]; omega
        · exact fun b o e => by rw [upd_ne (fun z => by rw [z, hD0] at e; cases e)]; exact p1 b o e
        · rw [upd_ne hDc.symm]; exact p2
        · rw [upd_same, List.take_add_one, qx]
          simp [ab]
    · obtain ⟨p1, p2, p3⟩ := p
      rw [List.length_map, List.take_of_length_le (Nat.le_refl _)] at p3
      refine ⟨_, rfl, D, _, rfl, .inl (SqL.of p3), rfl, _, rfl, ite2 (fun e => ?_) (fun e => ?_)⟩
      · have e0 : ((((xs.map ab).map V.int).length : Nat) : Int) = 0 := V.int.inj (of_decide_eq_true e)
        have hst : stCells ns = [0] := by
          unfold stCells
          simp only []
          have h0 : (xs.map ab).length = 0 := by rw [List.length_map] at e0; omega
          exact if_pos h0
        refine ⟨by show 1 ≤ sizeLine; rw [sizeLine_eq]; decide, fun c2 nc2 => ?_⟩
        refine ⟨_, rfl, by show 2 ≤ sizeLine; rw [sizeLine_eq]; decide, fun p np => ?_⟩
        have npc : p ≠ c2 := fun e => by rw [e, upd_same] at np; cases np
        have hc2 : H c2 = none := by
          cases z : H c2 with
          | none => rfl
          | some o => rw [p1 c2 o z] at nc2; cases nc2
        have hp : H p = none := by
          cases z : H p with
          | none => rfl
          | some o => rw [upd_ne npc, p1 p o z] at np; cases np
        refine q _ p c2 (fun b o z => ?_) hp hc2 npc upd_same ?_
        · rw [upd_ne (fun y => by rw [y, hp] at z; cases z), upd_ne (fun y => by rw [y, hc2] at z; cases z)]
          exact p1 b o z
        · rw [upd_ne npc.symm, upd_same, hst]; rfl
      · have e0 : ¬ ((((xs.map ab).map V.int).length : Nat) : Int) = 0 := fun z => e (decide_eq_true (by rw [z]))
        have hst : stCells ns = xs.map ab := by
          unfold stCells
          simp only []
          rw [if_neg (fun z => e0 (by rw [List.length_map]; have : (xs.map ab).length = 0 := z; omega))]
        refine ⟨_, rfl, by show 2 ≤ sizeLine; rw [sizeLine_eq]; decide, fun p np => ?_⟩
        have npD : p ≠ D := fun e => by rw [e, p3] at np; cases np
        have hp : H p = none := by
          cases z : H p with
          | none => rfl
          | some o => rw [p1 p o z] at np; cases np
        refine q _ p D (fun b o z => ?_) hp hD0 npD upd_same ?_
        · rw [upd_ne (fun y => by rw [y, hp] at z; cases z)]
          exact p1 b o z
        · rw [upd_ne npD.symm, p3, hst]
theorem ok0__law_take (T : Tx P K mg C0 f0 f1 f2 f3 f4 f5 f6 f7 f8 f9 f10 f11 f12 f13 f14 f15 f16 f17 f18 f19 f20 f21 f22 f23 f24 f25 f26 f27 f28 f29 f30 f31 f32 f33 f34 f35 f36 f37 f38 f39 f40 f41 f42 fd0 fd1 fd2 fd3 fd4 fd5 fd6 fd7 fd8 fd9 fd10 fd11 fd12 fd13 fd14 fd15 fd16 fd17 fd18 fd19 fd20 fd21 fd22 fd23 fd24 fd25 fd26 fd27 fd28 fd29 fd30 fd31 fd32 fd33 fd34 fd35 fd36 fd37 fd38 fd39 fd40 fd41 fd42) : FnOk P w K mg base CX0 1 f25 fd25 ["state", "most"] (spM K (xrOf [(C0, "word")]) 2 fTake) := by
  refine FnOk.imp ?_ take_imp
  have nd := sc__law_take.nd
  refine T.F__law_take.ok (k := 0) sc__law_take (fun vs H Q E h => ?_) (fun cdv A outer s H vs Q E hr h => ?_)
  · obtain ⟨sa, ca, at', most, cells, rfl, _⟩ := h
    rfl
  · obtain ⟨sa, ca, at', most, cells, rfl, h1, h2, hne, hz, hm, q⟩ := h
    refine ⟨_, (pss_cons (ps_if (pt_cmpR op_lt (pv 1) pe_int (nomark _)) (pss_one (ps_ret pe_int)) pss_nil)
      (pss_cons (ps_set (i := 2) nd rfl (.inl rfl) (pe_ix ix_list (pv 0) pe_int (fun _ _ => rfl)))
      (pss_cons (ps_set (i := 3) nd rfl (.inl rfl) (pe_op op_mod (pe_callTy call_int1 (by rfl) T.z_int (by decide +kernel) (pa_cons (pe_ix ix_list (pv 0) pe_int (fun _ _ => rfl)) pa_nil)) (pe_callB call_len_seq (by rfl) T.z_len PySem.boot_len (pa_cons (pv 2) pa_nil))))
      (pss_cons (ps_set (i := 4) nd rfl (.inl rfl) (pe_ix ix_list (pv 2) (pv 3) (fun _ _ => rfl)))
      (pss_cons (ps_if (pt_cmpR op_ge (pv 4) pe_int (nomark _)) (pss_cons (ps_asg (pe_op op_fdivW (pv 4) (pv 1)) (pg_sub (pv 2) (pv 3) set_list)) (pss_one (ps_ret (pe_op op_mod (pe_callTy call_int1 (by rfl) T.z_int (by decide +kernel) (pa_cons (pv 4) pa_nil)) (pv 1))))) pss_nil)
      (pss_cons (ps_asg (pe_op op_add (pe_ix ix_list (pv 0) pe_int (fun _ _ => rfl)) pe_int) (pg_sub (pv 0) pe_int set_list))
      (pss_cons (ps_set (i := 5) nd rfl (.inl rfl) (pe_op op_mod (pe_callTy call_int1 (by rfl) T.z_int (by decide +kernel) (pa_cons (pe_op op_add (pe_op op_mul (pv 4) pe_int) (pe_op op_mul (pe_ix ix_list (pv 0) pe_int (fun _ _ => rfl)) pe_int)) pa_nil)) pe_int))
      (pss_cons (ps_set (i := 5) nd rfl (.inl rfl) (pe_op op_mod (pe_callTy call_int1 (by rfl) T.z_int (by decide +kernel) (pa_cons (pe_op op_add (pe_op op_mul (pv 5) pe_int) (pe_op op_mul (pe_ix ix_list (pv 0) pe_int (fun _ _ => rfl)) pe_int)) pa_nil)) pe_int))
      (pss_one (ps_ret (pe_op op_mod (pe_callTy call_int1 (by rfl) T.z_int (by decide +kernel) (pa_cons (pe_op op_fdiv (pv 5) pe_int) pa_nil)) (pv 1)))))))))))), ?_⟩
    refine ⟨.int most, rfl, most, 2, rfl, rfl, _, rfl, ite2 (fun e => ?_) (fun e => ?_)⟩
    · have e := of_decide_eq_true e
      have ht : takeC most at' cells = (0, at', cells) := by unfold takeC; rw [if_pos e]
      rw [ht] at q
      exact q H (fun _ _ _ => rfl) h1 h2
    · have e : ¬ most < 2 := fun z => e (decide_eq_true z)
      have hm : most.natAbs.log2 < 9000 := hm.resolve_left e
      have a0 : L2.atI [V.int at', V.ref ca] 0 = some (V.int at') := atI_nat (j := 0) rfl
      have a1 : L2.atI [V.int at', V.ref ca] 1 = some (V.ref ca) := atI_nat (j := 1) rfl
      have hl : (0 : Int) < ((cells.map V.int).length : Nat) := by rw [List.length_map]; omega
      refine ⟨_, rfl, sa, _, 1, _, rfl, rfl, SqL.of h1, a1, ?_⟩
      refine ⟨_, rfl, sa, _, 0, _, rfl, rfl, SqL.of h1, a0, .inl ⟨at', rfl, _, rfl, ca, cells.map V.int, rfl, .inl (SqL.of h2), at', _, rfl, rfl, hl, ?_⟩⟩
      have hi0 : 0 ≤ at' % ((cells.map V.int).length : Nat) := Int.emod_nonneg _ (by omega)
      have hi1 : at' % ((cells.map V.int).length : Nat) < ((cells.map V.int).length : Nat) := Int.emod_lt_of_pos _ hl
      obtain ⟨i, hi⟩ : ∃ i : Nat, at' % ((cells.map V.int).length : Nat) = (i : Int) := ⟨(at' % ((cells.map V.int).length : Nat)).toNat, by omega⟩
      have hic : i < cells.length := by rw [hi, List.length_map] at hi1; omega
      have hi' : (at' % (cells.length : Int)).toNat = i := by rw [List.length_map] at hi; omega
      have ac : L2.atI (cells.map V.int) (at' % ((cells.map V.int).length : Nat)) = some (V.int cells[i]) := by
        rw [hi]
        exact atI_nat (by rw [List.getElem?_map, List.getElem?_eq_getElem hic]; rfl)
      refine ⟨_, rfl, _, rfl, ca, _, _, _, rfl, rfl, SqL.of h2, ac, ?_⟩
      have gd : cells.getD i 0 = cells[i] := by simp [List.getD, List.getElem?_eq_getElem hic]
      refine ⟨_, rfl, _, _, rfl, rfl, _, rfl, ite2 (fun e2 => ?_) (fun e2 => ?_)⟩
      · have e2 := of_decide_eq_true e2
        have ht : takeC most at' cells = (cells[i] % most, at', cells.set i (cells[i] / most)) := by
          unfold takeC
          rw [if_neg e]
          simp only [hi', gd]
          rw [if_pos e2]
        rw [ht] at q
        refine ⟨_, rfl, _, rfl, _, _, rfl, rfl, ⟨by omega, hm⟩, _, rfl, _, rfl, ca, _, _, i, rfl, rfl, h2, ?_, ?_⟩
        · rw [hi]
          unfold ixN
          rw [if_pos (by omega), if_pos (by rw [List.length_map]; omega)]
          rfl
        · refine ⟨_, rfl, .inl ⟨_, rfl, _, rfl, _, _, rfl, rfl, by omega, ?_⟩⟩
          refine q _ (fun a n1 n2 => upd_ne n2) (by rw [upd_ne hne]; exact h1) (by rw [upd_same, List.map_set])
      · have e2 : ¬ 1000000000000000000 ≤ cells[i] := fun z => e2 (decide_eq_true z)
        have ht : takeC most at' cells = ((((cells[i] * 48271 + (at' + 1) * 69621) % 2147483647) * 16807 + (at' + 1) * 7919) % 1000000007 / 7 % most, at' + 1, cells) := by
          unfold takeC
          rw [if_neg e]
          simp only [hi', gd]
          rw [if_neg e2]
        rw [ht] at q
        refine ⟨_, rfl, sa, _, 0, _, rfl, rfl, SqL.of h1, a0, _, _, rfl, rfl, _, rfl, sa, _, 0, 0, rfl, rfl, h1, rfl, ?_⟩
        have h3 : upd H sa (.lst ([V.int at', V.ref ca].set 0 (V.int (at' + 1)))) sa = some (.lst [V.int (at' + 1), V.ref ca]) := upd_same
        have b0 : L2.atI [V.int (at' + 1), V.ref ca] 0 = some (V.int (at' + 1)) := atI_nat (j := 0) rfl
        refine ⟨_, rfl, _, _, rfl, rfl, .inr (by decide), _, rfl, sa, _, 0, _, rfl, rfl, SqL.of h3, b0, _, _, rfl, rfl, .inr (by decide), _, _, rfl, rfl, .inl ⟨_, rfl, _, _, rfl, rfl, by show (0 : Int) < 2147483647; decide, ?_⟩⟩
        refine ⟨_, rfl, _, _, rfl, rfl, .inr (by decide), _, rfl, sa, _, 0, _, rfl, rfl, SqL.of h3, b0, _, _, rfl, rfl, .inr (by decide), _, _, rfl, rfl, .inl ⟨_, rfl, _, _, rfl, rfl, by show (0 : Int) < 1000000007; decide, ?_⟩⟩
        refine ⟨_, rfl, _, _, rfl, rfl, ⟨by decide, by decide⟩, .inl ⟨_, rfl, _, rfl, _, _, rfl, rfl, by omega, ?_⟩⟩
        exact q _ (fun a n1 n2 => upd_ne n1) h3 (by rw [upd_ne hne.symm]; exact h2)
theorem ok__law_take (T : Tx P K mg C0 f0 f1 f2 f3 f4 f5 f6 f7 f8 f9 f10 f11 f12 f13 f14 f15 f16 f17 f18 f19 f20 f21 f22 f23 f24 f25 f26 f27 f28 f29 f30 f31 f32 f33 f34 f35 f36 f37 f38 f39 f40 f41 f42 fd0 fd1 fd2 fd3 fd4 fd5 fd6 fd7 fd8 fd9 fd10 fd11 fd12 fd13 fd14 fd15 fd16 fd17 fd18 fd19 fd20 fd21 fd22 fd23 fd24 fd25 fd26 fd27 fd28 fd29 fd30 fd31 fd32 fd33 fd34 fd35 fd36 fd37 fd38 fd39 fd40 fd41 fd42) : FnOk P w K mg base (L2.CX P w) 1 f25 fd25 ["state", "most"] (spM K (xrOf [(C0, "word")]) 2 fTake) := FnOkToX (ok0__law_take T)
theorem ok__law_part (T : Tx P K mg C0 f0 f1 f2 f3 f4 f5 f6 f7 f8 f9 f10 f11 f12 f13 f14 f15 f16 f17 f18 f19 f20 f21 f22 f23 f24 f25 f26 f27 f28 f29 f30 f31 f32 f33 f34 f35 f36 f37 f38 f39 f40 f41 f42 fd0 fd1 fd2 fd3 fd4 fd5 fd6 fd7 fd8 fd9 fd10 fd11 fd12 fd13 fd14 fd15 fd16 fd17 fd18 fd19 fd20 fd21 fd22 fd23 fd24 fd25 fd26 fd27 fd28 fd29 fd30 fd31 fd32 fd33 fd34 fd35 fd36 fd37 fd38 fd39 fd40 fd41 fd42) : FnOk P w K mg base (L2.CX P w) 1 f26 fd26 ["above", "below"] (spM K (xrOf [(C0, "word")]) 2 f__law_part) :=
  have nd := sc__law_part.nd
  fn_okX (m := m__law_part) (N := nm__law_part) (ps := ["above", "below"]) 0 rfl rfl rfl T.F__law_part sc__law_part fun cdv A outer s H E hr tk po => (es_cons (es_par false 2 3 rfl nd (ea_cons (ee_callB call_abs rc_abs T.z_abs (by decide +kernel) (ea_cons (ee_var 0) ea_nil)) (ea_cons (ee_callB call_abs rc_abs T.z_abs (by decide +kernel) (ea_cons (ee_var 1) ea_nil)) ea_nil))) (es_cons (es_while po (et_cmp (op_neD hr.units) rb_ne (ee_var 3) ee_int) (es_one (es_par false 2 3 rfl nd (ea_cons (ee_var 3) (ea_cons (ee_bin op_mod rb_mod (ee_callTy call_int1 rc_int T.z_int (by decide +kernel) (ea_cons (ee_var 2) ea_nil)) (ee_var 3)) ea_nil))))) (es_cons (es_set false 2 nd (ee_if (et_cmp op_lt (rb_cmp (p := pLt)) (ee_var 1) ee_int) (ee_bin op_sub rb_sub ee_int (ee_var 2)) (ee_var 2))) (es_one (es_ret (ee_tup (ea_cons (ee_bin op_divA rb_div (ee_var 0) (ee_var 2)) (ea_cons (ee_bin op_divA rb_div (ee_var 1) (ee_var 2)) ea_nil)) (lc (lc ln))))))))
theorem ok__law_add (T : Tx P K mg C0 f0 f1 f2 f3 f4 f5 f6 f7 f8 f9 f10 f11 f12 f13 f14 f15 f16 f17 f18 f19 f20 f21 f22 f23 f24 f25 f26 f27 f28 f29 f30 f31 f32 f33 f34 f35 f36 f37 f38 f39 f40 f41 f42 fd0 fd1 fd2 fd3 fd4 fd5 fd6 fd7 fd8 fd9 fd10 fd11 fd12 fd13 fd14 fd15 fd16 fd17 fd18 fd19 fd20 fd21 fd22 fd23 fd24 fd25 fd26 fd27 fd28 fd29 fd30 fd31 fd32 fd33 fd34 fd35 fd36 fd37 fd38 fd39 fd40 fd41 fd42) : FnOk P w K mg base (L2.CX P w) 2 f27 fd27 ["one", "other"] (spM K (xrOf [(C0, "word")]) 2 f__law_add) :=
  have nd := sc__law_add.nd
  fn_okX (m := m__law_add) (N := nm__law_add) (ps := ["one", "other"]) 1 rfl rfl rfl T.F__law_add sc__law_add fun cdv A outer s H E hr tk po => (es_one (es_ret (ee_callX (ok__law_part T) tk (hr.mono (j := 1) (by decide)) T.m__law_part T.F__law_part.kp T.b__law_part rfl (ea_cons (ee_bin or_add rb_add (ee_bin or_mulT rb_mulT (ee_ixQ rfl (ee_var 0) ee_int) (ee_ixQ rfl (ee_var 1) ee_int)) (ee_bin or_mulT rb_mulT (ee_ixQ rfl (ee_var 1) ee_int) (ee_ixQ rfl (ee_var 0) ee_int))) (ea_cons (ee_bin or_mulT rb_mulT (ee_ixQ rfl (ee_var 0) ee_int) (ee_ixQ rfl (ee_var 1) ee_int)) ea_nil)) (lc (lc ln)))))
theorem ok__law_mul (T : Tx P K mg C0 f0 f1 f2 f3 f4 f5 f6 f7 f8 f9 f10 f11 f12 f13 f14 f15 f16 f17 f18 f19 f20 f21 f22 f23 f24 f25 f26 f27 f28 f29 f30 f31 f32 f33 f34 f35 f36 f37 f38 f39 f40 f41 f42 fd0 fd1 fd2 fd3 fd4 fd5 fd6 fd7 fd8 fd9 fd10 fd11 fd12 fd13 fd14 fd15 fd16 fd17 fd18 fd19 fd20 fd21 fd22 fd23 fd24 fd25 fd26 fd27 fd28 fd29 fd30 fd31 fd32 fd33 fd34 fd35 fd36 fd37 fd38 fd39 fd40 fd41 fd42) : FnOk P w K mg base (L2.CX P w) 2 f28 fd28 ["one", "other"] (spM K (xrOf [(C0, "word")]) 2 f__law_mul) :=
  have nd := sc__law_mul.nd
  fn_okX (m := m__law_mul) (N := nm__law_mul) (ps := ["one", "other"]) 1 rfl rfl rfl T.F__law_mul sc__law_mul fun cdv A outer s H E hr tk po => (es_one (es_ret (ee_callX (ok__law_part T) tk (hr.mono (j := 1) (by decide)) T.m__law_part T.F__law_part.kp T.b__law_part rfl (ea_cons (ee_bin or_mulT rb_mulT (ee_ixQ rfl (ee_var 0) ee_int) (ee_ixQ rfl (ee_var 1) ee_int)) (ea_cons (ee_bin or_mulT rb_mulT (ee_ixQ rfl (ee_var 0) ee_int) (ee_ixQ rfl (ee_var 1) ee_int)) ea_nil)) (lc (lc ln)))))
theorem ok__law_neg (T : Tx P K mg C0 f0 f1 f2 f3 f4 f5 f6 f7 f8 f9 f10 f11 f12 f13 f14 f15 f16 f17 f18 f19 f20 f21 f22 f23 f24 f25 f26 f27 f28 f29 f30 f31 f32 f33 f34 f35 f36 f37 f38 f39 f40 f41 f42 fd0 fd1 fd2 fd3 fd4 fd5 fd6 fd7 fd8 fd9 fd10 fd11 fd12 fd13 fd14 fd15 fd16 fd17 fd18 fd19 fd20 fd21 fd22 fd23 fd24 fd25 fd26 fd27 fd28 fd29 fd30 fd31 fd32 fd33 fd34 fd35 fd36 fd37 fd38 fd39 fd40 fd41 fd42) : FnOk P w K mg base (L2.CX P w) 1 f29 fd29 ["one"] (spM K (xrOf [(C0, "word")]) 1 f__law_neg) :=
  have nd := sc__law_neg.nd
  fn_okX (m := m__law_neg) (N := nm__law_neg) (ps := ["one"]) 0 rfl rfl rfl T.F__law_neg sc__law_neg fun cdv A outer s H E hr tk po => (es_one (es_ret (ee_tup (ea_cons (ee_bin op_sub rb_sub ee_int (ee_ixQ rfl (ee_var 0) ee_int)) (ea_cons (ee_ixQ rfl (ee_var 0) ee_int) ea_nil)) (lc (lc ln)))))
theorem ok__law_total (T : Tx P K mg C0 f0 f1 f2 f3 f4 f5 f6 f7 f8 f9 f10 f11 f12 f13 f14 f15 f16 f17 f18 f19 f20 f21 f22 f23 f24 f25 f26 f27 f28 f29 f30 f31 f32 f33 f34 f35 f36 f37 f38 f39 f40 f41 f42 fd0 fd1 fd2 fd3 fd4 fd5 fd6 fd7 fd8 fd9 fd10 fd11 fd12 fd13 fd14 fd15 fd16 fd17 fd18 fd19 fd20 fd21 fd22 fd23 fd24 fd25 fd26 fd27 fd28 fd29 fd30 fd31 fd32 fd33 fd34 fd35 fd36 fd37 fd38 fd39 fd40 fd41 fd42) : FnOk P w K mg base (L2.CX P w) 3 f30 fd30 ["rows"] (spM K (xrOf [(C0, "word")]) 1 f__law_total) :=
  have nd := sc__law_total.nd
  fn_okX (m := m__law_total) (N := nm__law_total) (ps := ["rows"]) 2 rfl rfl rfl T.F__law_total sc__law_total fun cdv A outer s H E hr tk po => (es_cons (es_set false 1 nd (ee_tup (ea_cons ee_int (ea_cons ee_int ea_nil)) (lc (lc ln)))) (es_cons (es_for (p := (.n 2)) po rfl (ei_seq rfl (ee_var 0)) (eg_name nd) (es_one (es_set false 1 nd (ee_callX (ok__law_add T) tk (hr.mono (j := 2) (by decide)) T.m__law_add T.F__law_add.kp T.b__law_add rfl (ea_cons (ee_var 1) (ea_cons (ee_var 2) ea_nil)) (lc (lc ln)))))) (es_one (es_ret (ee_var 1)))))
theorem ok__law_fraction (T : Tx P K mg C0 f0 f1 f2 f3 f4 f5 f6 f7 f8 f9 f10 f11 f12 f13 f14 f15 f16 f17 f18 f19 f20 f21 f22 f23 f24 f25 f26 f27 f28 f29 f30 f31 f32 f33 f34 f35 f36 f37 f38 f39 f40 f41 f42 fd0 fd1 fd2 fd3 fd4 fd5 fd6 fd7 fd8 fd9 fd10 fd11 fd12 fd13 fd14 fd15 fd16 fd17 fd18 fd19 fd20 fd21 fd22 fd23 fd24 fd25 fd26 fd27 fd28 fd29 fd30 fd31 fd32 fd33 fd34 fd35 fd36 fd37 fd38 fd39 fd40 fd41 fd42) : FnOk P w K mg base (L2.CX P w) 2 f31 fd31 ["state", "most"] (spM K (xrOf [(C0, "word")]) 2 f__law_fraction) :=
  have nd := sc__law_fraction.nd
  fn_okX (m := m__law_fraction) (N := nm__law_fraction) (ps := ["state", "most"]) 1 rfl rfl rfl T.F__law_fraction sc__law_fraction fun cdv A outer s H E hr tk po => (es_one (es_ret (ee_callX (ok__law_part T) tk (hr.mono (j := 1) (by decide)) T.m__law_part T.F__law_part.kp T.b__law_part rfl (ea_cons (ee_bin op_sub rb_sub (ee_callX (ok__law_take T) tk (hr.mono (j := 1) (by decide)) T.m__law_take T.F__law_take.kp T.b__law_take rfl (ea_cons (ee_var 0) (ea_cons (ee_bin or_add rb_add (ee_bin or_mulT rb_mulT ee_int (ee_var 1)) ee_int) ea_nil)) (lc (lc ln))) (ee_var 1)) (ea_cons (ee_bin or_add rb_add ee_int (ee_callX (ok__law_take T) tk (hr.mono (j := 1) (by decide)) T.m__law_take T.F__law_take.kp T.b__law_take rfl (ea_cons (ee_var 0) (ea_cons ee_int ea_nil)) (lc (lc ln)))) ea_nil)) (lc (lc ln)))))
theorem ok__law_floor (T : Tx P K mg C0 f0 f1 f2 f3 f4 f5 f6 f7 f8 f9 f10 f11 f12 f13 f14 f15 f16 f17 f18 f19 f20 f21 f22 f23 f24 f25 f26 f27 f28 f29 f30 f31 f32 f33 f34 f35 f36 f37 f38 f39 f40 f41 f42 fd0 fd1 fd2 fd3 fd4 fd5 fd6 fd7 fd8 fd9 fd10 fd11 fd12 fd13 fd14 fd15 fd16 fd17 fd18 fd19 fd20 fd21 fd22 fd23 fd24 fd25 fd26 fd27 fd28 fd29 fd30 fd31 fd32 fd33 fd34 fd35 fd36 fd37 fd38 fd39 fd40 fd41 fd42) : FnOk P w K mg base (L2.CX P w) 1 f32 fd32 ["one"] (spM K (xrOf [(C0, "word")]) 1 f__law_floor) :=
  have nd := sc__law_floor.nd
  fn_okX (m := m__law_floor) (N := nm__law_floor) (ps := ["one"]) 0 rfl rfl rfl T.F__law_floor sc__law_floor fun cdv A outer s H E hr tk po => (es_one (es_ret (ee_bin op_divA rb_div (ee_ixQ rfl (ee_var 0) ee_int) (ee_ixQ rfl (ee_var 0) ee_int))))
theorem ok__law_steps (T : Tx P K mg C0 f0 f1 f2 f3 f4 f5 f6 f7 f8 f9 f10 f11 f12 f13 f14 f15 f16 f17 f18 f19 f20 f21 f22 f23 f24 f25 f26 f27 f28 f29 f30 f31 f32 f33 f34 f35 f36 f37 f38 f39 f40 f41 f42 fd0 fd1 fd2 fd3 fd4 fd5 fd6 fd7 fd8 fd9 fd10 fd11 fd12 fd13 fd14 fd15 fd16 fd17 fd18 fd19 fd20 fd21 fd22 fd23 fd24 fd25 fd26 fd27 fd28 fd29 fd30 fd31 fd32 fd33 fd34 fd35 fd36 fd37 fd38 fd39 fd40 fd41 fd42) : FnOk P w K mg base (L2.CX P w) 3 f33 fd33 ["state"] (spM K (xrOf [(C0, "word")]) 1 f__law_steps) :=
  have nd := sc__law_steps.nd
  fn_okX (m := m__law_steps) (N := nm__law_steps) (ps := ["state"]) 2 rfl rfl rfl T.F__law_steps sc__law_steps fun cdv A outer s H E hr tk po => (es_cons (es_setO false 1 nd (ef_lst ea_nil ln)) (es_cons (es_for (p := (.n 2)) po rfl (ei_rng1 T.z_range (ea_cons (ee_callX (ok__law_take T) tk (hr.mono (j := 1) (by decide)) T.m__law_take T.F__law_take.kp T.b__law_take rfl (ea_cons (ee_var 0) (ea_cons ee_int ea_nil)) (lc (lc ln))) ea_nil)) (eg_name nd) (es_one (es_app false 1 (ee_tup (ea_cons (ee_callX (ok__law_take T) tk (hr.mono (j := 1) (by decide)) T.m__law_take T.F__law_take.kp T.b__law_take rfl (ea_cons (ee_var 0) (ea_cons ee_int ea_nil)) (lc (lc ln))) (ea_cons (ee_bin op_sub rb_sub (ee_callX (ok__law_take T) tk (hr.mono (j := 1) (by decide)) T.m__law_take T.F__law_take.kp T.b__law_take rfl (ea_cons (ee_var 0) (ea_cons ee_int ea_nil)) (lc (lc ln))) ee_int) (ea_cons (ee_callTy call_tuple_of rc_tuple T.z_tuple (by decide +kernel) (ea_cons (ee_lc (own := [("j", 3)]) (p := (.n 3)) rfl nd (ei_rng1 T.z_range (ea_cons (ee_bin or_add rb_add ee_int (ee_callX (ok__law_take T) tk (hr.mono (j := 1) (by decide)) T.m__law_take T.F__law_take.kp T.b__law_take rfl (ea_cons (ee_var 0) (ea_cons ee_int ea_nil)) (lc (lc ln)))) ea_nil)) (blkOk_by (N := nm__law_steps) (sc := defScope s__law_steps) (by decide +kernel)) (by decide) (fun _ _ _ _ _ => (eg_name nd)) (fun _ _ _ _ _ => ets_nil) (fun _ _ _ _ _ => (ee_callL (ok__law_fraction T) (hr.mono (j := 2) (by decide)) T.m__law_fraction T.F__law_fraction.kp T.b__law_fraction rfl (ea_cons (ee_var 0) (ea_cons ee_int ea_nil)) (lc (lc ln))))) ea_nil)) ea_nil))) (lc (lc (lc ln)))) rfl (hm := fun h => pe_bm PySem.F.plainAttrs_list PySem.F.slot_list_append PySem.F.type_list_append mt_append (pv 1) (pa_cons h pa_nil))))) (es_one (es_ret (ee_callTy call_tuple_of rc_tuple T.z_tuple (by decide +kernel) (ea_cons (ee_var 1) ea_nil))))))
theorem ok__law_told (T : Tx P K mg C0 f0 f1 f2 f3 f4 f5 f6 f7 f8 f9 f10 f11 f12 f13 f14 f15 f16 f17 f18 f19 f20 f21 f22 f23 f24 f25 f26 f27 f28 f29 f30 f31 f32 f33 f34 f35 f36 f37 f38 f39 f40 f41 f42 fd0 fd1 fd2 fd3 fd4 fd5 fd6 fd7 fd8 fd9 fd10 fd11 fd12 fd13 fd14 fd15 fd16 fd17 fd18 fd19 fd20 fd21 fd22 fd23 fd24 fd25 fd26 fd27 fd28 fd29 fd30 fd31 fd32 fd33 fd34 fd35 fd36 fd37 fd38 fd39 fd40 fd41 fd42) : FnOk P w K mg base (L2.CX P w) 3 f34 fd34 ["step", "row", "place"] (spM K (xrOf [(C0, "word")]) 3 f__law_told) :=
  have nd := sc__law_told.nd
  fn_okX (m := m__law_told) (N := nm__law_told) (ps := ["step", "row", "place"]) 2 rfl rfl rfl T.F__law_told sc__law_told fun cdv A outer s H E hr tk po => (es_cons (es_set false 3 nd (ee_tup (ea_cons ee_int (ea_cons ee_int ea_nil)) (lc (lc ln)))) (es_cons (es_for (p := (.n 4)) po rfl (ei_rng1 T.z_range (ea_cons (ee_callB call_len rc_len T.z_len PySem.boot_len (ea_cons (ee_ixQ rfl (ee_var 0) ee_int) ea_nil)) ea_nil)) (eg_name nd) (es_one (es_set false 3 nd (ee_callX (ok__law_add T) tk (hr.mono (j := 2) (by decide)) T.m__law_add T.F__law_add.kp T.b__law_add rfl (ea_cons (ee_var 3) (ea_cons (ee_callX (ok__law_mul T) tk (hr.mono (j := 2) (by decide)) T.m__law_mul T.F__law_mul.kp T.b__law_mul rfl (ea_cons (ee_ixQ rfl (ee_ixQ rfl (ee_var 0) ee_int) (ee_var 4)) (ea_cons (ee_tup (ea_cons (ee_ixQ rfl (ee_var 1) (ee_bin op_mod rb_mod (ee_callTy call_int1 rc_int T.z_int (by decide +kernel) (ea_cons (ee_bin or_add rb_add (ee_bin or_add rb_add (ee_var 2) (ee_ixQ rfl (ee_var 0) ee_int)) (ee_var 4)) ea_nil)) (ee_callB call_len rc_len T.z_len PySem.boot_len (ea_cons (ee_var 1) ea_nil)))) (ea_cons ee_int ea_nil)) (lc (lc ln))) ea_nil)) (lc (lc ln))) ea_nil)) (lc (lc ln)))))) (es_one (es_ret (ee_callX (ok__law_floor T) tk (hr.mono (j := 1) (by decide)) T.m__law_floor T.F__law_floor.kp T.b__law_floor rfl (ea_cons (ee_var 3) ea_nil) (lc ln))))))
theorem ok__law_apart (T : Tx P K mg C0 f0 f1 f2 f3 f4 f5 f6 f7 f8 f9 f10 f11 f12 f13 f14 f15 f16 f17 f18 f19 f20 f21 f22 f23 f24 f25 f26 f27 f28 f29 f30 f31 f32 f33 f34 f35 f36 f37 f38 f39 f40 f41 f42 fd0 fd1 fd2 fd3 fd4 fd5 fd6 fd7 fd8 fd9 fd10 fd11 fd12 fd13 fd14 fd15 fd16 fd17 fd18 fd19 fd20 fd21 fd22 fd23 fd24 fd25 fd26 fd27 fd28 fd29 fd30 fd31 fd32 fd33 fd34 fd35 fd36 fd37 fd38 fd39 fd40 fd41 fd42) : FnOk P w K mg base (L2.CX P w) 4 f35 fd35 ["row", "steps", "sign"] (spM K (xrOf [(C0, "word")]) 3 f__law_apart) :=
  have nd := sc__law_apart.nd
  fn_okX (m := m__law_apart) (N := nm__law_apart) (ps := ["row", "steps", "sign"]) 3 rfl rfl rfl T.F__law_apart sc__law_apart fun cdv A outer s H E hr tk po => (es_cons (es_set false 3 nd (ee_lst (ea_cons (ee_str2 (c := 2) (by decide) rfl (ee_var 0) ep_none) (ea_cons (ee_str2 (c := 2) (by decide) rfl (ee_var 0) (ep_some ee_int)) ea_nil)) (lc (lc ln)))) (es_cons (es_for (p := (.n 4)) po rfl (ei_seq rfl (ee_var 1)) (eg_name nd) (es_cons (es_asg false (ee_tup (ea_cons (ee_ixQ rfl (ee_var 4) ee_int) (ea_cons (ee_ixQ rfl (ee_var 3) (ee_bin op_sub rb_sub ee_int (ee_ixQ rfl (ee_var 4) ee_int))) ea_nil)) (lc (lc ln))) (eg_tup rfl rfl (egs_cons (eg_name nd) (egs_cons (eg_name nd) egs_nil)))) (es_cons (es_setLc (own := [("k", 8)]) (p := (.n 8)) false 7 rfl nd (sw_true rfl rfl rfl (by decide +kernel)) (ei_rng1 T.z_range (ea_cons (ee_callB call_len rc_len T.z_len PySem.boot_len (ea_cons (ee_ixQ rfl (ee_var 3) (ee_var 5)) ea_nil)) ea_nil)) (blkOk_by (N := nm__law_apart) (sc := defScope s__law_apart) (by decide +kernel)) (by decide) (fun _ _ _ _ _ => (eg_name nd)) (fun _ _ _ _ _ => ets_nil) (fun _ _ _ _ _ => (ee_bin or_add rb_add (ee_ixQ rfl (ee_ixQ rfl (ee_var 3) (ee_var 5)) (ee_var 8)) (ee_bin or_mulT rb_mulT (ee_var 2) (ee_callL (ok__law_told T) (hr.mono (j := 3) (by decide)) T.m__law_told T.F__law_told.kp T.b__law_told rfl (ea_cons (ee_var 4) (ea_cons (ee_var 6) (ea_cons (ee_var 8) ea_nil))) (lc (lc (lc ln)))))))) (es_one (es_set false 3 nd (ee_if (et_cmp (op_eqD hr.units) rb_eq (ee_var 5) ee_int) (ee_lst (ea_cons (ee_var 7) (ea_cons (ee_ixQ rfl (ee_var 3) ee_int) ea_nil)) (lc (lc ln))) (ee_lst (ea_cons (ee_ixQ rfl (ee_var 3) ee_int) (ea_cons (ee_var 7) ea_nil)) (lc (lc ln))))))))) (es_one (es_ret (ee_tup (ea_cons (ee_ixQ rfl (ee_var 3) ee_int) (ea_cons (ee_ixQ rfl (ee_var 3) ee_int) ea_nil)) (lc (lc ln)))))))
theorem ok__law_there (T : Tx P K mg C0 f0 f1 f2 f3 f4 f5 f6 f7 f8 f9 f10 f11 f12 f13 f14 f15 f16 f17 f18 f19 f20 f21 f22 f23 f24 f25 f26 f27 f28 f29 f30 f31 f32 f33 f34 f35 f36 f37 f38 f39 f40 f41 f42 fd0 fd1 fd2 fd3 fd4 fd5 fd6 fd7 fd8 fd9 fd10 fd11 fd12 fd13 fd14 fd15 fd16 fd17 fd18 fd19 fd20 fd21 fd22 fd23 fd24 fd25 fd26 fd27 fd28 fd29 fd30 fd31 fd32 fd33 fd34 fd35 fd36 fd37 fd38 fd39 fd40 fd41 fd42) : FnOk P w K mg base (L2.CX P w) 8 f36 fd36 ["state", "steps", "row"] (spM K (xrOf [(C0, "word")]) 3 f__law_there) :=
  have nd := sc__law_there.nd
  fn_okX (m := m__law_there) (N := nm__law_there) (ps := ["state", "steps", "row"]) 7 rfl rfl rfl T.F__law_there sc__law_there fun cdv A outer s H E hr tk po => (es_cons (es_set false 3 nd (ee_callX (ok__law_apart T) tk (hr.mono (j := 4) (by decide)) T.m__law_apart T.F__law_apart.kp T.b__law_apart rfl (ea_cons (ee_var 2) (ea_cons (ee_var 1) (ea_cons ee_int ea_nil))) (lc (lc (lc ln))))) (es_cons (es_if (et_w (ew_or (et_cmp or_isnot rb_isnot (ee_callX (ok_is_steps T) tk (hr.mono (j := 4) (by decide)) T.m_is_steps T.F_is_steps.kp T.b_is_steps rfl (ea_cons (ee_var 1) ea_nil) (lc ln)) ee_bl) (ew_or (et_cmp or_isnot rb_isnot (ee_callX (ok_is_wholes T) tk (hr.mono (j := 1) (by decide)) T.m_is_wholes T.F_is_wholes.kp T.b_is_wholes rfl (ea_cons (ee_var 2) ea_nil) (lc ln)) ee_bl) (ew_or (et_cmp (op_neD hr.units) rb_ne (ee_callX (ok_apart T) tk (hr.mono (j := 6) (by decide)) T.m_apart T.F_apart.kp T.b_apart rfl (ea_cons (ee_var 2) (ea_cons (ee_var 1) ea_nil)) (lc (lc ln))) (ee_var 3)) (ew_or (et_cmp (op_neD hr.units) rb_ne (ee_callX (ok_together T) tk (hr.mono (j := 6) (by decide)) T.m_together T.F_together.kp T.b_together rfl (ea_cons (ee_var 3) (ea_cons (ee_var 1) ea_nil)) (lc (lc ln))) (ee_var 2)) (ew_or1 (et_cmp or_isnot rb_isnot (ee_callX (ok_is_same_way T) tk (hr.mono (j := 7) (by decide)) T.m_is_same_way T.F_is_same_way.kp T.b_is_same_way rfl (ea_cons (ee_var 2) (ea_cons (ee_var 1) ea_nil)) (lc (lc ln))) ee_bl))))))) (es_one (es_ret ee_bl)) es_nil) (es_cons (es_set false 4 nd (ee_bin op_divA rb_div (ee_callB call_len rc_len T.z_len PySem.boot_len (ea_cons (ee_var 2) ea_nil)) ee_int)) (es_cons (es_for (p := (.n 5)) po rfl (ei_seq rfl (ee_var 1)) (eg_name nd) (es_cons (es_par false 6 7 rfl nd (ea_cons (ee_if (et_cmp (op_eqD hr.units) rb_eq (ee_ixQ rfl (ee_var 5) ee_int) ee_int) (ee_str2 (c := 2) (by decide) rfl (ee_var 2) (ep_some ee_int)) (ee_str2 (c := 2) (by decide) rfl (ee_var 2) ep_none)) (ea_cons (ee_callX (ok__law_take T) tk (hr.mono (j := 1) (by decide)) T.m__law_take T.F__law_take.kp T.b__law_take rfl (ea_cons (ee_var 0) (ea_cons (ee_var 4) ea_nil)) (lc (lc ln))) ea_nil))) (es_cons (es_if (et_w (ew_or (et_cmp or_isnot rb_isnot (ee_callX (ok_is_step T) tk (hr.mono (j := 3) (by decide)) T.m_is_step T.F_is_step.kp T.b_is_step rfl (ea_cons (ee_var 5) ea_nil) (lc ln)) ee_bl) (ew_or1 (et_cmp (op_neD hr.units) rb_ne (ee_callX (ok_told_by T) tk (hr.mono (j := 4) (by decide)) T.m_told_by T.F_told_by.kp T.b_told_by rfl (ea_cons (ee_var 5) (ea_cons (ee_var 6) (ea_cons (ee_var 7) ea_nil))) (lc (lc (lc ln)))) (ee_callX (ok__law_told T) tk (hr.mono (j := 3) (by decide)) T.m__law_told T.F__law_told.kp T.b__law_told rfl (ea_cons (ee_var 5) (ea_cons (ee_var 6) (ea_cons (ee_var 7) ea_nil))) (lc (lc (lc ln)))))))) (es_one (es_ret ee_bl)) es_nil) (es_cons (es_set false 8 nd (ee_tup (ea_cons (ee_str2 (c := 2) (by decide) rfl (ee_var 2) ep_none) (ea_cons (ee_str2 (c := 2) (by decide) rfl (ee_var 2) (ep_some ee_int)) ea_nil)) (lc (lc ln)))) (es_cons (es_set false 9 nd (ee_callX (ok_stepped T) tk (hr.mono (j := 5) (by decide)) T.m_stepped T.F_stepped.kp T.b_stepped rfl (ea_cons (ee_var 8) (ea_cons (ee_var 5) (ea_cons ee_int ea_nil))) (lc (lc (lc ln))))) (es_one (es_if (et_w (ew_or (et_cmp (op_neD hr.units) rb_ne (ee_var 9) (ee_callX (ok__law_apart T) tk (hr.mono (j := 4) (by decide)) T.m__law_apart T.F__law_apart.kp T.b__law_apart rfl (ea_cons (ee_var 2) (ea_cons (ee_tup (ea_cons (ee_var 5) ea_nil) (lc ln)) (ea_cons ee_int ea_nil))) (lc (lc (lc ln))))) (ew_or1 (et_cmp (op_neD hr.units) rb_ne (ee_callX (ok_stepped T) tk (hr.mono (j := 5) (by decide)) T.m_stepped T.F_stepped.kp T.b_stepped rfl (ea_cons (ee_var 9) (ea_cons (ee_var 5) (ea_cons (ee_neg ee_int) ea_nil))) (lc (lc (lc ln)))) (ee_var 8))))) (es_one (es_ret ee_bl)) es_nil))))))) (es_cons (es_set false 8 nd (ee_tup (ea_cons (ee_lc (own := [("k", 10)]) (p := (.n 10)) rfl nd (ei_rng1 T.z_range (ea_cons (ee_var 4) ea_nil)) (blkOk_by (N := nm__law_there) (sc := defScope s__law_there) (by decide +kernel)) (by decide) (fun _ _ _ _ _ => (eg_name nd)) (fun _ _ _ _ _ => ets_nil) (fun _ _ _ _ _ => (ee_bin op_sub rb_sub (ee_callL (ok__law_take T) (hr.mono (j := 1) (by decide)) T.m__law_take T.F__law_take.kp T.b__law_take rfl (ea_cons (ee_var 0) (ea_cons ee_int ea_nil)) (lc (lc ln))) ee_int))) (ea_cons (ee_lc (own := [("k", 10)]) (p := (.n 10)) rfl nd (ei_rng1 T.z_range (ea_cons (ee_var 4) ea_nil)) (blkOk_by (N := nm__law_there) (sc := defScope s__law_there) (by decide +kernel)) (by decide) (fun _ _ _ _ _ => (eg_name nd)) (fun _ _ _ _ _ => ets_nil) (fun _ _ _ _ _ => (ee_bin op_sub rb_sub (ee_callL (ok__law_take T) (hr.mono (j := 1) (by decide)) T.m__law_take T.F__law_take.kp T.b__law_take rfl (ea_cons (ee_var 0) (ea_cons ee_int ea_nil)) (lc (lc ln))) ee_int))) ea_nil)) (lc (lc ln)))) (es_one (es_ret (ee_cmp (op_eqD hr.units) rb_eq (ee_callX (ok_apart T) tk (hr.mono (j := 6) (by decide)) T.m_apart T.F_apart.kp T.b_apart rfl (ea_cons (ee_callX (ok_together T) tk (hr.mono (j := 6) (by decide)) T.m_together T.F_together.kp T.b_together rfl (ea_cons (ee_var 8) (ea_cons (ee_var 1) ea_nil)) (lc (lc ln))) (ea_cons (ee_var 1) ea_nil)) (lc (lc ln))) (ee_var 8)))))))))
theorem ok__law_plain (T : Tx P K mg C0 f0 f1 f2 f3 f4 f5 f6 f7 f8 f9 f10 f11 f12 f13 f14 f15 f16 f17 f18 f19 f20 f21 f22 f23 f24 f25 f26 f27 f28 f29 f30 f31 f32 f33 f34 f35 f36 f37 f38 f39 f40 f41 f42 fd0 fd1 fd2 fd3 fd4 fd5 fd6 fd7 fd8 fd9 fd10 fd11 fd12 fd13 fd14 fd15 fd16 fd17 fd18 fd19 fd20 fd21 fd22 fd23 fd24 fd25 fd26 fd27 fd28 fd29 fd30 fd31 fd32 fd33 fd34 fd35 fd36 fd37 fd38 fd39 fd40 fd41 fd42) : FnOk P w K mg base (L2.CX P w) 8 f37 fd37 ["steps", "row"] (spM K (xrOf [(C0, "word")]) 2 f__law_plain) :=
  have nd := sc__law_plain.nd
  fn_okX (m := m__law_plain) (N := nm__law_plain) (ps := ["steps", "row"]) 7 rfl rfl rfl T.F__law_plain sc__law_plain fun cdv A outer s H E hr tk po => (es_cons (es_set false 2 nd (ee_lst (ea_cons (ee_lc (own := [("one", 12)]) (p := (.n 12)) rfl nd (ei_seq rfl (ee_str2 (c := 2) (by decide) rfl (ee_var 1) ep_none)) (blkOk_by (N := nm__law_plain) (sc := defScope s__law_plain) (by decide +kernel)) (by decide) (fun _ _ _ _ _ => (eg_name nd)) (fun _ _ _ _ _ => ets_nil) (fun _ _ _ _ _ => (ee_tup (ea_cons (ee_var 12) (ea_cons ee_int ea_nil)) (lc (lc ln))))) (ea_cons (ee_lc (own := [("one", 12)]) (p := (.n 12)) rfl nd (ei_seq rfl (ee_str2 (c := 2) (by decide) rfl (ee_var 1) (ep_some ee_int))) (blkOk_by (N := nm__law_plain) (sc := defScope s__law_plain) (by decide +kernel)) (by decide) (fun _ _ _ _ _ => (eg_name nd)) (fun _ _ _ _ _ => ets_nil) (fun _ _ _ _ _ => (ee_tup (ea_cons (ee_var 12) (ea_cons ee_int ea_nil)) (lc (lc ln))))) ea_nil)) (lc (lc ln)))) (es_cons (es_set false 3 nd (ee_bin op_divA rb_div (ee_callB call_len rc_len T.z_len PySem.boot_len (ea_cons (ee_var 1) ea_nil)) ee_int)) (es_cons (es_for (p := (.t [(.n 4), (.n 5), (.n 6)])) po rfl (ei_seq rfl (ee_var 0)) (eg_tup rfl rfl (egs_cons (eg_name nd) (egs_cons (eg_name nd) (egs_cons (eg_name nd) egs_nil)))) (es_cons (es_setO false 7 nd (ef_lst ea_nil ln)) (es_cons (es_for (p := (.n 8)) po rfl (ei_rng1 T.z_range (ea_cons (ee_var 3) ea_nil)) (eg_name nd) (es_one (es_app false 7 (ee_callX (ok__law_add T) tk (hr.mono (j := 2) (by decide)) T.m__law_add T.F__law_add.kp T.b__law_add rfl (ea_cons (ee_ixQ rfl (ee_ixQ rfl (ee_var 2) (ee_var 4)) (ee_var 8)) (ea_cons (ee_callX (ok__law_total T) tk (hr.mono (j := 3) (by decide)) T.m__law_total T.F__law_total.kp T.b__law_total rfl (ea_cons (ee_lc (own := [("j", 13)]) (p := (.n 13)) rfl nd (ei_rng1 T.z_range (ea_cons (ee_callB call_len rc_len T.z_len PySem.boot_len (ea_cons (ee_var 6) ea_nil)) ea_nil)) (blkOk_by (N := nm__law_plain) (sc := defScope s__law_plain) (by decide +kernel)) (by decide) (fun _ _ _ _ _ => (eg_name nd)) (fun _ _ _ _ _ => ets_nil) (fun _ _ _ _ _ => (ee_callL (ok__law_mul T) (hr.mono (j := 2) (by decide)) T.m__law_mul T.F__law_mul.kp T.b__law_mul rfl (ea_cons (ee_ixQ rfl (ee_var 6) (ee_var 13)) (ea_cons (ee_ixQ rfl (ee_ixQ rfl (ee_var 2) (ee_bin op_sub rb_sub ee_int (ee_var 4))) (ee_bin op_mod rb_mod (ee_callTy call_int1 rc_int T.z_int (by decide +kernel) (ea_cons (ee_bin or_add rb_add (ee_bin or_add rb_add (ee_var 8) (ee_var 5)) (ee_var 13)) ea_nil)) (ee_var 3))) ea_nil)) (lc (lc ln))))) ea_nil) (lc ln)) ea_nil)) (lc (lc ln))) rfl (hm := fun h => pe_bm PySem.F.plainAttrs_list PySem.F.slot_list_append PySem.F.type_list_append mt_append (pv 7) (pa_cons h pa_nil))))) (es_one (es_frz 7 (es_set false 2 nd (ee_if (et_cmp (op_eqD hr.units) rb_eq (ee_var 4) ee_int) (ee_lst (ea_cons (ee_var 7) (ea_cons (ee_ixQ rfl (ee_var 2) ee_int) ea_nil)) (lc (lc ln))) (ee_lst (ea_cons (ee_ixQ rfl (ee_var 2) ee_int) (ea_cons (ee_var 7) ea_nil)) (lc (lc ln)))))))))) (es_cons (es_par false 9 10 rfl nd (ea_cons (ee_callX (ok__law_apart T) tk (hr.mono (j := 4) (by decide)) T.m__law_apart T.F__law_apart.kp T.b__law_apart rfl (ea_cons (ee_var 1) (ea_cons (ee_var 0) (ea_cons ee_int ea_nil))) (lc (lc (lc ln)))) (ea_cons (ee_tup (ea_cons ee_int (ea_cons ee_int ea_nil)) (lc (lc ln))) ea_nil))) (es_cons (es_for (p := (.n 4)) po rfl (ei_rng1 T.z_range (ea_cons ee_int ea_nil)) (eg_name nd) (es_one (es_for (p := (.n 8)) po rfl (ei_rng1 T.z_range (ea_cons (ee_var 3) ea_nil)) (eg_name nd) (es_cons (es_set false 11 nd (ee_callX (ok__law_add T) tk (hr.mono (j := 2) (by decide)) T.m__law_add T.F__law_add.kp T.b__law_add rfl (ea_cons (ee_tup (ea_cons (ee_ixQ rfl (ee_ixQ rfl (ee_var 9) (ee_var 4)) (ee_var 8)) (ea_cons ee_int ea_nil)) (lc (lc ln))) (ea_cons (ee_callX (ok__law_neg T) tk (hr.mono (j := 1) (by decide)) T.m__law_neg T.F__law_neg.kp T.b__law_neg rfl (ea_cons (ee_ixQ rfl (ee_ixQ rfl (ee_var 2) (ee_var 4)) (ee_var 8)) ea_nil) (lc ln)) ea_nil)) (lc (lc ln)))) (es_cons (es_set false 11 nd (ee_tup (ea_cons (ee_callB call_abs rc_abs T.z_abs (by decide +kernel) (ea_cons (ee_ixQ rfl (ee_var 11) ee_int) ea_nil)) (ea_cons (ee_ixQ rfl (ee_var 11) ee_int) ea_nil)) (lc (lc ln)))) (es_one (es_set false 10 nd (ee_if (et_cmp op_gt (rb_cmp (p := pGt)) (ee_bin or_mulT rb_mulT (ee_ixQ rfl (ee_var 11) ee_int) (ee_ixQ rfl (ee_var 10) ee_int)) (ee_bin or_mulT rb_mulT (ee_ixQ rfl (ee_var 10) ee_int) (ee_ixQ rfl (ee_var 11) ee_int))) (ee_var 11) (ee_var 10))))))))) (es_one (es_ret (ee_and (ee_cmp (op_eqD hr.units) rb_eq (ee_callX (ok_without_rounding T) tk (hr.mono (j := 4) (by decide)) T.m_without_rounding T.F_without_rounding.kp T.b_without_rounding rfl (ea_cons (ee_var 1) (ea_cons (ee_var 0) ea_nil)) (lc (lc ln))) (ee_tup (ea_cons (ee_ixQ rfl (ee_var 2) ee_int) (ea_cons (ee_ixQ rfl (ee_var 2) ee_int) ea_nil)) (lc (lc ln)))) (ee_and (ee_cmp (op_eqD hr.units) rb_eq (ee_callX (ok_gap_of T) tk (hr.mono (j := 7) (by decide)) T.m_gap_of T.F_gap_of.kp T.b_gap_of rfl (ea_cons (ee_var 1) (ea_cons (ee_var 0) ea_nil)) (lc (lc ln))) (ee_var 10)) (ee_one (ee_or (ee_cmp (op_neD hr.units) rb_ne (ee_callB call_len rc_len T.z_len PySem.boot_len (ea_cons (ee_var 0) ea_nil)) ee_int) (ee_one (ee_cmp op_le (rb_cmp (p := pLe)) (ee_bin or_mulT rb_mulT ee_int (ee_ixQ rfl (ee_var 10) ee_int)) (ee_ixQ rfl (ee_var 10) ee_int))))))))))))))
theorem ok__law_word (T : Tx P K mg C0 f0 f1 f2 f3 f4 f5 f6 f7 f8 f9 f10 f11 f12 f13 f14 f15 f16 f17 f18 f19 f20 f21 f22 f23 f24 f25 f26 f27 f28 f29 f30 f31 f32 f33 f34 f35 f36 f37 f38 f39 f40 f41 f42 fd0 fd1 fd2 fd3 fd4 fd5 fd6 fd7 fd8 fd9 fd10 fd11 fd12 fd13 fd14 fd15 fd16 fd17 fd18 fd19 fd20 fd21 fd22 fd23 fd24 fd25 fd26 fd27 fd28 fd29 fd30 fd31 fd32 fd33 fd34 fd35 fd36 fd37 fd38 fd39 fd40 fd41 fd42) : FnOk P w K mg base (L2.CX P w) 8 f39 fd39 ["call", "row", "steps", "many"] (spM K (xrOf [(C0, "word")]) 4 f__law_word) :=
  have nd := sc__law_word.nd
  fn_okX (m := m__law_word) (N := nm__law_word) (ps := ["call", "row", "steps", "many"]) 7 rfl rfl rfl T.F__law_word sc__law_word fun cdv A outer s H E hr tk po => (es_one (es_try_as (i := 5) rfl rfl (k := 0) rfl nd ⟨rfl, by decide, .inl T.g_Misstep⟩ T.e_Misstep (es_cons (es_set false 4 nd (ee_if (et_cmp or_is rb_is (ee_var 3) ee_non) (ee_callVL (i := 0) rfl (cal_cons ⟨_, _, _, _, ok_without_rounding T, hr.mono (by decide), T.n_without_rounding, T.F_without_rounding.kp, T.b_without_rounding⟩ (cal_cons ⟨_, _, _, _, ok_together T, hr.mono (by decide), T.n_together, T.F_together.kp, T.b_together⟩ (cal_cons ⟨_, _, _, _, ok_apart T, hr.mono (by decide), T.n_apart, T.F_apart.kp, T.b_apart⟩ cal_nil))) (ea_cons (ee_var 1) (ea_cons (ee_var 2) ea_nil)) (lc (lc ln))) (ee_callVL (i := 0) rfl (cal_cons ⟨_, _, _, _, ok_pyramid T, hr.mono (by decide), T.n_pyramid, T.F_pyramid.kp, T.b_pyramid⟩ cal_nil) (ea_cons (ee_var 1) (ea_cons (ee_var 2) (ea_cons (ee_var 3) ea_nil))) (lc (lc (lc ln)))))) (es_one (es_ret ee_str))) (fun W pn xe tk po => (rss_one (rs_set 4 nd (re_if (et_cmp or_is rb_is (ee_var 3) ee_non) (re_callV (i := 0) tk (cal_cons ⟨_, _, _, _, ok_without_rounding T, hr.mono (by decide), T.n_without_rounding, T.F_without_rounding.kp, T.b_without_rounding⟩ (cal_cons ⟨_, _, _, _, ok_together T, hr.mono (by decide), T.n_together, T.F_together.kp, T.b_together⟩ (cal_cons ⟨_, _, _, _, ok_apart T, hr.mono (by decide), T.n_apart, T.F_apart.kp, T.b_apart⟩ cal_nil))) (ea_cons (ee_var 1) (ea_cons (ee_var 2) ea_nil)) (lc (lc ln))) (re_callV (i := 0) tk (cal_cons ⟨_, _, _, _, ok_pyramid T, hr.mono (by decide), T.n_pyramid, T.F_pyramid.kp, T.b_pyramid⟩ cal_nil) (ea_cons (ee_var 1) (ea_cons (ee_var 2) (ea_cons (ee_var 3) ea_nil))) (lc (lc (lc ln)))))))) (su_word T.x_Misstep T.X_Misstep.fno rfl) rfl rfl))
theorem ok__law_pyramids (T : Tx P K mg C0 f0 f1 f2 f3 f4 f5 f6 f7 f8 f9 f10 f11 f12 f13 f14 f15 f16 f17 f18 f19 f20 f21 f22 f23 f24 f25 f26 f27 f28 f29 f30 f31 f32 f33 f34 f35 f36 f37 f38 f39 f40 f41 f42 fd0 fd1 fd2 fd3 fd4 fd5 fd6 fd7 fd8 fd9 fd10 fd11 fd12 fd13 fd14 fd15 fd16 fd17 fd18 fd19 fd20 fd21 fd22 fd23 fd24 fd25 fd26 fd27 fd28 fd29 fd30 fd31 fd32 fd33 fd34 fd35 fd36 fd37 fd38 fd39 fd40 fd41 fd42) : FnOk P w K mg base (L2.CX P w) 9 f38 fd38 ["state", "steps"] (spM K (xrOf [(C0, "word")]) 2 f__law_pyramids) :=
  have nd := sc__law_pyramids.nd
  fn_okX (m := m__law_pyramids) (N := nm__law_pyramids) (ps := ["state", "steps"]) 8 rfl rfl rfl T.F__law_pyramids sc__law_pyramids fun cdv A outer s H E hr tk po => (es_cons (es_set false 2 nd (ee_bin or_add rb_add ee_int (ee_callX (ok__law_take T) tk (hr.mono (j := 1) (by decide)) T.m__law_take T.F__law_take.kp T.b__law_take rfl (ea_cons (ee_var 0) (ea_cons ee_int ea_nil)) (lc (lc ln))))) (es_cons (es_setLc (own := [("k", 9)]) (p := (.n 9)) false 3 rfl nd (sw_true rfl rfl rfl (by decide +kernel)) (ei_rng1 T.z_range (ea_cons (ee_bin or_mulT rb_mulT (ee_bin op_shl rb_shl ee_int (ee_var 2)) (ee_bin or_add rb_add ee_int (ee_callX (ok__law_take T) tk (hr.mono (j := 1) (by decide)) T.m__law_take T.F__law_take.kp T.b__law_take rfl (ea_cons (ee_var 0) (ea_cons ee_int ea_nil)) (lc (lc ln))))) ea_nil)) (blkOk_by (N := nm__law_pyramids) (sc := defScope s__law_pyramids) (by decide +kernel)) (by decide) (fun _ _ _ _ _ => (eg_name nd)) (fun _ _ _ _ _ => ets_nil) (fun _ _ _ _ _ => (ee_bin op_sub rb_sub (ee_callL (ok__law_take T) (hr.mono (j := 1) (by decide)) T.m__law_take T.F__law_take.kp T.b__law_take rfl (ea_cons (ee_var 0) (ea_cons ee_int ea_nil)) (lc (lc ln))) ee_int))) (es_cons (es_parO false 4 5 rfl nd (ei_consV (ee_callTy call_list_of rc_list T.z_list (by decide +kernel) (ea_cons (ee_var 3) ea_nil)) (ei_consO (ef_lst ea_nil ln) ei_nilI))) (es_cons (es_for (p := (.n 6)) po rfl (ei_rng1 T.z_range (ea_cons (ee_var 2) ea_nil)) (eg_name nd) (es_cons (es_set false 7 nd (ee_callX (ok__law_apart T) tk (hr.mono (j := 4) (by decide)) T.m__law_apart T.F__law_apart.kp T.b__law_apart rfl (ea_cons (ee_var 4) (ea_cons (ee_var 1) (ea_cons ee_int ea_nil))) (lc (lc (lc ln))))) (es_cons (es_set false 4 nd (ee_ixQ rfl (ee_var 7) ee_int)) (es_one (es_app false 5 (ee_ixQ rfl (ee_var 7) ee_int) rfl (hm := fun h => pe_bm PySem.F.plainAttrs_list PySem.F.slot_list_append PySem.F.type_list_append mt_append (pv 5) (pa_cons h pa_nil))))))) (es_cons (es_set false 8 nd (ee_callX (ok_pyramid T) tk (hr.mono (j := 7) (by decide)) T.m_pyramid T.F_pyramid.kp T.b_pyramid rfl (ea_cons (ee_var 3) (ea_cons (ee_var 1) (ea_cons (ee_var 2) ea_nil))) (lc (lc (lc ln))))) (es_cons (es_if (et_w (ew_or (et_cmp (op_neD hr.units) rb_ne (ee_var 8) (ee_tup (ea_cons (ee_var 4) (ea_cons (ee_var 5) ea_nil)) (lc (lc ln)))) (ew_or1 (et_cmp (op_neD hr.units) rb_ne (ee_callX (ok_back T) tk (hr.mono (j := 7) (by decide)) T.m_back T.F_back.kp T.b_back rfl (ea_cons (ee_var 8) (ea_cons (ee_var 1) ea_nil)) (lc (lc ln))) (ee_var 3))))) (es_one (es_ret ee_bl)) es_nil) (es_one (es_ret (ee_or (ee_cmp (op_eqD hr.units) rb_eq (ee_callX (ok__law_word T) tk (hr.mono (j := 8) (by decide)) T.m__law_word T.F__law_word.kp T.b__law_word rfl (ea_cons (ee_fn rfl T.m_pyramid T.n_pyramid) (ea_cons (ee_var 3) (ea_cons (ee_var 1) (ea_cons (ee_bin or_add rb_add (ee_var 2) ee_int) ea_nil)))) (lc (lc (lc (lc ln))))) ee_str) (ee_one (ee_cmp (op_eqD hr.units) rb_eq (ee_callB call_len rc_len T.z_len PySem.boot_len (ea_cons (ee_var 3) ea_nil)) ee_int)))))))))))
theorem ok__law_known (T : Tx P K mg C0 f0 f1 f2 f3 f4 f5 f6 f7 f8 f9 f10 f11 f12 f13 f14 f15 f16 f17 f18 f19 f20 f21 f22 f23 f24 f25 f26 f27 f28 f29 f30 f31 f32 f33 f34 f35 f36 f37 f38 f39 f40 f41 f42 fd0 fd1 fd2 fd3 fd4 fd5 fd6 fd7 fd8 fd9 fd10 fd11 fd12 fd13 fd14 fd15 fd16 fd17 fd18 fd19 fd20 fd21 fd22 fd23 fd24 fd25 fd26 fd27 fd28 fd29 fd30 fd31 fd32 fd33 fd34 fd35 fd36 fd37 fd38 fd39 fd40 fd41 fd42) : FnOk P w K mg base (L2.CX P w) 7 f40 fd40 ["state"] (spM K (xrOf [(C0, "word")]) 1 f__law_known) :=
  have nd := sc__law_known.nd
  fn_okX (m := m__law_known) (N := nm__law_known) (ps := ["state"]) 6 rfl rfl rfl T.F__law_known sc__law_known fun cdv A outer s H E hr tk po => (es_cons (es_setLc (own := [("k", 4)]) (p := (.n 4)) false 1 rfl nd (sw_true rfl rfl rfl (by decide +kernel)) (ei_rng1 T.z_range (ea_cons ee_int ea_nil)) (blkOk_by (N := nm__law_known) (sc := defScope s__law_known) (by decide +kernel)) (by decide) (fun _ _ _ _ _ => (eg_name nd)) (fun _ _ _ _ _ => ets_nil) (fun _ _ _ _ _ => (ee_bin op_sub rb_sub (ee_callL (ok__law_take T) (hr.mono (j := 1) (by decide)) T.m__law_take T.F__law_take.kp T.b__law_take rfl (ea_cons (ee_var 0) (ea_cons ee_int ea_nil)) (lc (lc ln))) ee_int))) (es_cons (es_asg false (ee_callX (ok_apart T) tk (hr.mono (j := 6) (by decide)) T.m_apart T.F_apart.kp T.b_apart rfl (ea_cons (ee_var 1) (ea_cons (ee_callX0 (ok_means_and_gaps T) tk (hr.mono (j := 1) (by decide)) T.m_means_and_gaps T.F_means_and_gaps.kp T.b_means_and_gaps rfl) ea_nil)) (lc (lc ln))) (eg_tup rfl rfl (egs_cons (eg_name nd) (egs_cons (eg_name nd) egs_nil)))) (es_cons (es_for (p := (.n 4)) po rfl (ei_rng1 T.z_range (ea_cons ee_int ea_nil)) (eg_name nd) (es_cons (es_par false 5 6 rfl nd (ea_cons (ee_ixQ rfl (ee_var 1) (ee_bin or_mulT rb_mulT ee_int (ee_var 4))) (ea_cons (ee_ixQ rfl (ee_var 1) (ee_bin or_add rb_add (ee_bin or_mulT rb_mulT ee_int (ee_var 4)) ee_int)) ea_nil))) (es_one (es_if (et_w (ew_or (et_cmp (op_neD hr.units) rb_ne (ee_ixQ rfl (ee_var 3) (ee_var 4)) (ee_bin op_sub rb_sub (ee_var 6) (ee_var 5))) (ew_or1 (et_w (ew_and (et_cmp (op_neD hr.units) rb_ne (ee_ixQ rfl (ee_var 2) (ee_var 4)) (ee_bin op_divA rb_div (ee_bin or_add rb_add (ee_bin or_add rb_add (ee_var 5) (ee_var 6)) ee_int) ee_int)) (ew_and1 (et_cmp (op_neD hr.units) rb_ne (ee_ixQ rfl (ee_var 2) (ee_var 4)) (ee_bin or_add rb_add (ee_var 5) (ee_bin op_divA rb_div (ee_bin or_add rb_add (ee_ixQ rfl (ee_var 3) (ee_var 4)) ee_int) ee_int))))))))) (es_one (es_ret ee_bl)) es_nil)))) (es_cons (es_set false 7 nd (ee_callX (ok_apart T) tk (hr.mono (j := 6) (by decide)) T.m_apart T.F_apart.kp T.b_apart rfl (ea_cons (ee_var 1) (ea_cons (ee_callX0 (ok_near_means T) tk (hr.mono (j := 1) (by decide)) T.m_near_means T.F_near_means.kp T.b_near_means rfl) ea_nil)) (lc (lc ln)))) (es_cons (es_for (p := (.n 4)) po rfl (ei_rng1 T.z_range (ea_cons ee_int ea_nil)) (eg_name nd) (es_cons (es_set false 8 nd (ee_bin op_divA rb_div (ee_bin or_add rb_add (ee_bin op_sub rb_sub (ee_bin op_sub rb_sub (ee_bin or_mulT rb_mulT ee_int (ee_ixQ rfl (ee_var 1) (ee_bin or_add rb_add (ee_bin or_mulT rb_mulT ee_int (ee_var 4)) ee_int))) (ee_ixQ rfl (ee_var 1) (ee_bin or_mulT rb_mulT ee_int (ee_var 4)))) (ee_ixQ rfl (ee_var 1) (ee_bin op_mod rb_mod (ee_callTy call_int1 rc_int T.z_int (by decide +kernel) (ea_cons (ee_bin or_add rb_add (ee_bin or_mulT rb_mulT ee_int (ee_var 4)) ee_int) ea_nil)) ee_int))) ee_int) ee_int)) (es_one (es_if (et_cmp (op_neD hr.units) rb_ne (ee_ixQ rfl (ee_ixQ rfl (ee_var 7) ee_int) (ee_var 4)) (ee_var 8)) (es_one (es_ret ee_bl)) es_nil)))) (es_cons (es_for (p := (.n 4)) po rfl (ei_rng1 T.z_range (ea_cons ee_int ea_nil)) (eg_name nd) (es_one (es_if (et_cmp (op_neD hr.units) rb_ne (ee_ixQ rfl (ee_ixQ rfl (ee_var 7) ee_int) (ee_var 4)) (ee_bin or_add rb_add (ee_ixQ rfl (ee_var 1) (ee_bin or_mulT rb_mulT ee_int (ee_var 4))) (ee_bin op_divA rb_div (ee_bin or_add rb_add (ee_bin or_add rb_add (ee_ixQ rfl (ee_ixQ rfl (ee_var 7) ee_int) (ee_bin op_mod rb_mod (ee_callTy call_int1 rc_int T.z_int (by decide +kernel) (ea_cons (ee_bin op_sub rb_sub (ee_var 4) ee_int) ea_nil)) ee_int)) (ee_ixQ rfl (ee_ixQ rfl (ee_var 7) ee_int) (ee_var 4))) ee_int) ee_int))) (es_one (es_ret ee_bl)) es_nil))) (es_cons (es_setLc (own := [("k", 4)]) (p := (.n 4)) false 9 rfl nd (sw_true rfl rfl rfl (by decide +kernel)) (ei_rng2 T.z_range (ea_cons (ee_neg ee_int) (ea_cons ee_int ea_nil))) (blkOk_by (N := nm__law_known) (sc := defScope s__law_known) (by decide +kernel)) (by decide) (fun _ _ _ _ _ => (eg_name nd)) (fun _ _ _ _ _ => ets_nil) (fun _ _ _ _ _ => (ee_callL (ok_zigzag T) (hr.mono (j := 1) (by decide)) T.m_zigzag T.F_zigzag.kp T.b_zigzag rfl (ea_cons (ee_var 4) ea_nil) (lc ln)))) (es_cons (es_if (et_w (ew_or (et_cmp (op_neD hr.units) rb_ne (ee_callB cr_sortedI rc_sorted T.z_sorted (by decide +kernel) (ea_cons (ee_var 9) ea_nil)) (ee_listR1 rfl T.z_list T.z_range ee_int)) (ew_or (et_cmp (op_neD hr.units) rb_ne (ee_lc (own := [("one", 11)]) (p := (.n 11)) rfl nd (ei_seq rfl (ee_var 9)) (blkOk_by (N := nm__law_known) (sc := defScope s__law_known) (by decide +kernel)) (by decide) (fun _ _ _ _ _ => (eg_name nd)) (fun _ _ _ _ _ => ets_nil) (fun _ _ _ _ _ => (ee_callL (ok_unzigzag T) (hr.mono (j := 1) (by decide)) T.m_unzigzag T.F_unzigzag.kp T.b_unzigzag rfl (ea_cons (ee_var 11) ea_nil) (lc ln)))) (ee_listR2 rfl T.z_list T.z_range (ee_neg ee_int) ee_int)) (ew_or1 (et_cmp (op_neD hr.units) rb_ne (ee_lc (own := [("k", 4)]) (p := (.n 4)) rfl nd (ei_seq rfl (ee_tup (ea_cons ee_int (ea_cons (ee_neg ee_int) (ea_cons ee_int (ea_cons (ee_neg ee_int) (ea_cons ee_int ea_nil))))) (lc (lc (lc (lc (lc ln))))))) (blkOk_by (N := nm__law_known) (sc := defScope s__law_known) (by decide +kernel)) (by decide) (fun _ _ _ _ _ => (eg_name nd)) (fun _ _ _ _ _ => ets_nil) (fun _ _ _ _ _ => (ee_callL (ok_zigzag T) (hr.mono (j := 1) (by decide)) T.m_zigzag T.F_zigzag.kp T.b_zigzag rfl (ea_cons (ee_var 4) ea_nil) (lc ln)))) (ee_lst (ea_cons ee_int (ea_cons ee_int (ea_cons ee_int (ea_cons ee_int (ea_cons ee_int ea_nil))))) (lc (lc (lc (lc (lc ln))))))))))) (es_one (es_ret ee_bl)) es_nil) (es_cons (es_set false 10 nd ee_int) (es_cons (es_for (p := (.n 11)) po rfl (ei_seq rfl (ee_var 1)) (eg_name nd) (es_cons (es_par false 12 13 rfl nd (ea_cons (ee_callX (ok_zigzag T) tk (hr.mono (j := 1) (by decide)) T.m_zigzag T.F_zigzag.kp T.b_zigzag rfl (ea_cons (ee_var 11) ea_nil) (lc ln)) (ea_cons ee_int ea_nil))) (es_cons (es_while po (et_cmp op_gt (rb_cmp (p := pGt)) (ee_var 12) ee_int) (es_one (es_par false 12 13 rfl nd (ea_cons (ee_bin op_divA rb_div (ee_var 12) ee_int) (ea_cons (ee_bin or_add rb_add (ee_var 13) ee_int) ea_nil))))) (es_one (es_set false 10 nd (ee_bin or_add rb_add (ee_var 10) (ee_var 13))))))) (es_one (es_ret (ee_and (ee_cmp (op_eqD hr.units) rb_eq (ee_callX (ok_cost T) tk (hr.mono (j := 2) (by decide)) T.m_cost T.F_cost.kp T.b_cost rfl (ea_cons (ee_var 1) ea_nil) (lc ln)) (ee_var 10)) (ee_one (ee_cmp (op_eqD hr.units) rb_eq (ee_callX (ok_cost T) tk (hr.mono (j := 2) (by decide)) T.m_cost T.F_cost.kp T.b_cost rfl (ea_cons (ee_lst ea_nil ln) ea_nil) (lc ln)) ee_int)))))))))))))))
theorem ok__law_odd (T : Tx P K mg C0 f0 f1 f2 f3 f4 f5 f6 f7 f8 f9 f10 f11 f12 f13 f14 f15 f16 f17 f18 f19 f20 f21 f22 f23 f24 f25 f26 f27 f28 f29 f30 f31 f32 f33 f34 f35 f36 f37 f38 f39 f40 f41 f42 fd0 fd1 fd2 fd3 fd4 fd5 fd6 fd7 fd8 fd9 fd10 fd11 fd12 fd13 fd14 fd15 fd16 fd17 fd18 fd19 fd20 fd21 fd22 fd23 fd24 fd25 fd26 fd27 fd28 fd29 fd30 fd31 fd32 fd33 fd34 fd35 fd36 fd37 fd38 fd39 fd40 fd41 fd42) : FnOk P w K mg base (L2.CX P w) 9 f41 fd41 [] (spM K (xrOf [(C0, "word")]) 0 f__law_odd) :=
  have nd := sc__law_odd.nd
  fn_okX (m := m__law_odd) (N := nm__law_odd) (ps := []) 8 rfl rfl rfl T.F__law_odd sc__law_odd fun cdv A outer s H E hr tk po => (es_cons (es_set false 0 nd (ee_tup (ea_cons ee_int (ea_cons ee_int (ea_cons (ee_tup (ea_cons (ee_tup (ea_cons ee_int (ea_cons ee_int ea_nil)) (lc (lc ln))) ea_nil) (lc ln)) ea_nil))) (lc (lc (lc ln))))) (es_cons (es_set false 1 nd (ee_lst (ea_cons ee_non (ea_cons (ee_lst (ea_cons (ee_var 0) ea_nil) (lc ln)) (ea_cons (ee_bin or_mulT rb_mulT (ee_tup (ea_cons (ee_var 0) ea_nil) (lc ln)) ee_int) (ea_cons (ee_tup (ea_cons ee_non ea_nil) (lc ln)) (ea_cons (ee_tup (ea_cons (ee_tup (ea_cons ee_int (ea_cons ee_int (ea_cons (ee_tup (ea_cons (ee_tup (ea_cons ee_int (ea_cons ee_int ea_nil)) (lc (lc ln))) ea_nil) (lc ln)) ea_nil))) (lc (lc (lc ln)))) ea_nil) (lc ln)) (ea_cons (ee_tup (ea_cons (ee_tup (ea_cons ee_int (ea_cons ee_int (ea_cons (ee_tup (ea_cons (ee_tup (ea_cons ee_int (ea_cons ee_int ea_nil)) (lc (lc ln))) ea_nil) (lc ln)) ea_nil))) (lc (lc (lc ln)))) ea_nil) (lc ln)) (ea_cons (ee_tup (ea_cons (ee_tup (ea_cons ee_int (ea_cons ee_int (ea_cons (ee_tup ea_nil ln) ea_nil))) (lc (lc (lc ln)))) ea_nil) (lc ln)) (ea_cons (ee_tup (ea_cons (ee_tup (ea_cons ee_int (ea_cons ee_int (ea_cons (ee_bin or_mulT rb_mulT (ee_tup (ea_cons (ee_tup (ea_cons ee_int (ea_cons ee_int ea_nil)) (lc (lc ln))) ea_nil) (lc ln)) ee_int) ea_nil))) (lc (lc (lc ln)))) ea_nil) (lc ln)) (ea_cons (ee_tup (ea_cons (ee_tup (ea_cons ee_bl (ea_cons ee_int (ea_cons (ee_tup (ea_cons (ee_tup (ea_cons ee_int (ea_cons ee_int ea_nil)) (lc (lc ln))) ea_nil) (lc ln)) ea_nil))) (lc (lc (lc ln)))) ea_nil) (lc ln)) (ea_cons (ee_tup (ea_cons (ee_tup (ea_cons ee_int (ea_cons ee_int (ea_cons (ee_lst (ea_cons (ee_tup (ea_cons ee_int (ea_cons ee_int ea_nil)) (lc (lc ln))) ea_nil) (lc ln)) ea_nil))) (lc (lc (lc ln)))) ea_nil) (lc ln)) ea_nil)))))))))) (lc (lc (lc (lc (lc (lc (lc (lc (lc (lc ln)))))))))))) (es_cons (es_if (et_w (ew_or (et_cmp (op_neD hr.units) rb_ne (ee_lc (own := [("value", 3)]) (p := (.n 3)) rfl nd (ei_seq rfl (ee_var 1)) (blkOk_by (N := nm__law_odd) (sc := defScope s__law_odd) (by decide +kernel)) (by decide) (fun _ _ _ _ _ => (eg_name nd)) (fun _ _ _ _ _ => ets_nil) (fun _ _ _ _ _ => (ee_callL (ok_is_steps T) (hr.mono (j := 4) (by decide)) T.m_is_steps T.F_is_steps.kp T.b_is_steps rfl (ea_cons (ee_var 3) ea_nil) (lc ln)))) (ee_bin or_mulT rb_mulT (ee_lst (ea_cons ee_bl ea_nil) (lc ln)) ee_int)) (ew_or1 (et_cmp or_isnot rb_isnot (ee_callX (ok_is_steps T) tk (hr.mono (j := 4) (by decide)) T.m_is_steps T.F_is_steps.kp T.b_is_steps rfl (ea_cons (ee_tup ea_nil ln) ea_nil) (lc ln)) ee_bl)))) (es_one (es_ret ee_bl)) es_nil) (es_cons (es_set false 2 nd (ee_lst (ea_cons ee_non (ea_cons (ee_lst ea_nil ln) (ea_cons (ee_lst (ea_cons ee_int ea_nil) (lc ln)) (ea_cons (ee_lst (ea_cons ee_int (ea_cons ee_int (ea_cons ee_int ea_nil))) (lc (lc (lc ln)))) (ea_cons (ee_tup (ea_cons ee_int (ea_cons ee_int ea_nil)) (lc (lc ln))) (ea_cons (ee_lst (ea_cons ee_int (ea_cons ee_bl ea_nil)) (lc (lc ln))) (ea_cons (ee_lst (ea_cons ee_int (ea_cons ee_str ea_nil)) (lc (lc ln))) (ea_cons (ee_bin or_mulT rb_mulT (ee_lst (ea_cons ee_int ea_nil) (lc ln)) ee_int) ea_nil)))))))) (lc (lc (lc (lc (lc (lc (lc (lc ln)))))))))) (es_cons (es_if (et_cmp (op_neD hr.units) rb_ne (ee_lc (own := [("value", 3)]) (p := (.n 3)) rfl nd (ei_seq rfl (ee_var 2)) (blkOk_by (N := nm__law_odd) (sc := defScope s__law_odd) (by decide +kernel)) (by decide) (fun _ _ _ _ _ => (eg_name nd)) (fun _ _ _ _ _ => ets_nil) (fun _ _ _ _ _ => (ee_callL (ok_is_wholes T) (hr.mono (j := 1) (by decide)) T.m_is_wholes T.F_is_wholes.kp T.b_is_wholes rfl (ea_cons (ee_var 3) ea_nil) (lc ln)))) (ee_bin or_mulT rb_mulT (ee_lst (ea_cons ee_bl ea_nil) (lc ln)) ee_int)) (es_one (es_ret ee_bl)) es_nil) (es_cons (es_if (et_w (ew_or (et_cmp (op_neD hr.units) rb_ne (ee_lc (own := [("value", 3)]) (p := (.n 3)) rfl nd (ei_seq rfl (ee_tup (ea_cons (ee_lst ea_nil ln) (ea_cons (ee_lst (ea_cons ee_int (ea_cons ee_int (ea_cons ee_int ea_nil))) (lc (lc (lc ln)))) (ea_cons (ee_bin or_mulT rb_mulT (ee_lst (ea_cons ee_int ea_nil) (lc ln)) ee_int) ea_nil))) (lc (lc (lc ln))))) (blkOk_by (N := nm__law_odd) (sc := defScope s__law_odd) (by decide +kernel)) (by decide) (fun _ _ _ _ _ => (eg_name nd)) (fun _ _ _ _ _ => ets_nil) (fun _ _ _ _ _ => (ee_callL (ok__law_word T) (hr.mono (j := 8) (by decide)) T.m__law_word T.F__law_word.kp T.b__law_word rfl (ea_cons (ee_fn rfl T.m_apart T.n_apart) (ea_cons (ee_var 3) (ea_cons (ee_tup ea_nil ln) (ea_cons ee_non ea_nil)))) (lc (lc (lc (lc ln))))))) (ee_bin or_mulT rb_mulT (ee_lst (ea_cons ee_str ea_nil) (lc ln)) ee_int)) (ew_or1 (et_cmp (op_neD hr.units) rb_ne (ee_callX (ok__law_word T) tk (hr.mono (j := 8) (by decide)) T.m__law_word T.F__law_word.kp T.b__law_word rfl (ea_cons (ee_fn rfl T.m_without_rounding T.n_without_rounding) (ea_cons (ee_lst (ea_cons ee_int ea_nil) (lc ln)) (ea_cons (ee_tup ea_nil ln) (ea_cons ee_non ea_nil)))) (lc (lc (lc (lc ln))))) ee_str)))) (es_one (es_ret ee_bl)) es_nil) (es_one (es_ret (ee_cmp (op_eqD hr.units) rb_eq (ee_lc (own := [("pair", 4)]) (p := (.n 4)) rfl nd (ei_seq rfl (ee_tup (ea_cons (ee_tup (ea_cons (ee_lst ea_nil ln) (ea_cons (ee_lst ea_nil ln) ea_nil)) (lc (lc ln))) (ea_cons (ee_tup (ea_cons (ee_lst (ea_cons ee_int ea_nil) (lc ln)) (ea_cons (ee_lst (ea_cons ee_int (ea_cons ee_int ea_nil)) (lc (lc ln))) ea_nil)) (lc (lc ln))) ea_nil)) (lc (lc ln)))) (blkOk_by (N := nm__law_odd) (sc := defScope s__law_odd) (by decide +kernel)) (by decide) (fun _ _ _ _ _ => (eg_name nd)) (fun _ _ _ _ _ => ets_nil) (fun _ _ _ _ _ => (ee_callL (ok__law_word T) (hr.mono (j := 8) (by decide)) T.m__law_word T.F__law_word.kp T.b__law_word rfl (ea_cons (ee_fn rfl T.m_together T.n_together) (ea_cons (ee_var 4) (ea_cons (ee_tup ea_nil ln) (ea_cons ee_non ea_nil)))) (lc (lc (lc (lc ln))))))) (ee_bin or_mulT rb_mulT (ee_lst (ea_cons ee_str ea_nil) (lc ln)) ee_int))))))))))
theorem ok_law (T : Tx P K mg C0 f0 f1 f2 f3 f4 f5 f6 f7 f8 f9 f10 f11 f12 f13 f14 f15 f16 f17 f18 f19 f20 f21 f22 f23 f24 f25 f26 f27 f28 f29 f30 f31 f32 f33 f34 f35 f36 f37 f38 f39 f40 f41 f42 fd0 fd1 fd2 fd3 fd4 fd5 fd6 fd7 fd8 fd9 fd10 fd11 fd12 fd13 fd14 fd15 fd16 fd17 fd18 fd19 fd20 fd21 fd22 fd23 fd24 fd25 fd26 fd27 fd28 fd29 fd30 fd31 fd32 fd33 fd34 fd35 fd36 fd37 fd38 fd39 fd40 fd41 fd42) (hl : lawOk 6 1 m_law) : FnOk P w K mg base CX0 10 f42 fd42 ["script"] (spLaw K) := by
  refine T.F_law.ok sc_law (fun vs H Q E h => ?_) (fun cdv A outer s H vs Q E hr h => ?_)
  · obtain ⟨a, ns, rfl, _⟩ := h
    rfl
  · obtain ⟨a, ns, rfl, hS, hlen, q⟩ := h
    have nd := sc_law.nd
    refine ⟨_, pss_cons (ps_set (i := 1) nd rfl (.inr rfl) (pe_call (ok__law_state T) (hr.mono (by decide)) (by rfl) T.m__law_state T.F__law_state.kp T.b__law_state .nil pass0 (pa_cons (pv 0) pa_nil))) (show ESs _ ⟨K, (xrOf [(C0, "word")]), E⟩ _ m_law from (es_cons (es_for (p := (.n 2)) PassesOwn.never rfl (ei_rng1 T.z_range (ea_cons ee_int ea_nil)) (eg_name nd) (es_cons (es_par false 3 4 rfl nd (ea_cons (ee_callL (ok__law_steps T) (hr.mono (j := 3) (by decide)) T.m__law_steps T.F__law_steps.kp T.b__law_steps rfl (ea_cons (ee_var 1) ea_nil) (lc ln)) (ea_cons (ee_lc (own := [("k", 5)]) (p := (.n 5)) rfl nd (ei_rng1 T.z_range (ea_cons (ee_bin or_add rb_add ee_int (ee_bin or_mulT rb_mulT ee_int (ee_callL (ok__law_take T) (hr.mono (j := 1) (by decide)) T.m__law_take T.F__law_take.kp T.b__law_take rfl (ea_cons (ee_var 1) (ea_cons ee_int ea_nil)) (lc (lc ln))))) ea_nil)) (blkOk_by (N := nm_law) (sc := defScope s_law) (by decide +kernel)) (by decide) (fun _ _ _ _ _ => (eg_name nd)) (fun _ _ _ _ _ => ets_nil) (fun _ _ _ _ _ => (ee_bin op_sub rb_sub (ee_callL (ok__law_take T) (hr.mono (j := 1) (by decide)) T.m__law_take T.F__law_take.kp T.b__law_take rfl (ea_cons (ee_var 1) (ea_cons ee_int ea_nil)) (lc (lc ln))) ee_int))) ea_nil))) (es_one (es_if (et_w (ew_or (et_not (et_val (ee_callL (ok__law_there T) (hr.mono (j := 8) (by decide)) T.m__law_there T.F__law_there.kp T.b__law_there rfl (ea_cons (ee_var 1) (ea_cons (ee_var 3) (ea_cons (ee_var 4) ea_nil))) (lc (lc (lc ln)))) rfl)) (ew_or (et_not (et_val (ee_callL (ok__law_plain T) (hr.mono (j := 8) (by decide)) T.m__law_plain T.F__law_plain.kp T.b__law_plain rfl (ea_cons (ee_var 3) (ea_cons (ee_var 4) ea_nil)) (lc (lc ln))) rfl)) (ew_or1 (et_not (et_val (ee_callL (ok__law_pyramids T) (hr.mono (j := 9) (by decide)) T.m__law_pyramids T.F__law_pyramids.kp T.b__law_pyramids rfl (ea_cons (ee_var 1) (ea_cons (ee_var 3) ea_nil)) (lc (lc ln))) rfl)))))) (es_one (es_ret ee_bl)) es_nil)))) (es_one (es_ret (ee_and (ee_cmp (op_eqD hr.units) rb_eq (ee_gintE rfl T.c_MOST_STEPS) ee_int) (ee_and (ee_cmp (op_eqD hr.units) rb_eq (ee_gintE rfl T.c_MOST_LONG) ee_int) (ee_and (ee_callL (ok__law_known T) (hr.mono (j := 7) (by decide)) T.m__law_known T.F__law_known.kp T.b__law_known rfl (ea_cons (ee_var 1) ea_nil) (lc ln)) (ee_one (ee_callL0 (ok__law_odd T) (hr.mono (j := 9) (by decide)) T.m__law_odd T.F__law_odd.kp T.b__law_odd rfl))))))))), ?_⟩
    exact ⟨.ref a, rfl, a, ns, rfl, hS, hlen, fun H' p c _ _ _ hpc e1 e2 => law_read hl hlen q (by rfl) hpc e1 e2⟩
end
end L2.Mir.W

set_option Elab.async false
set_option linter.all false
set_option maxRecDepth 100000
set_option maxHeartbeats 4000000
namespace L2.Mir.W
open PySem PySem.Spec PyProof.Rows
/-! what the top has written -/
theorem all_mk {l : PySem.W.OpenLaw} {w : World} {K : PySem.W.Frag} {h : Heap} {mg : Str → Option Value} {fa f0 f1 f2 f3 f4 f5 f6 f7 f8 f9 f10 f11 f12 f13 f14 f15 f16 f17 f18 f19 f20 f21 f22 f23 f24 f25 f26 f27 f28 f29 f30 f31 f32 f33 f34 f35 f36 f37 f38 f39 f40 f41 f42 : Addr} {C0 : Addr} (X : K.In h) (G : h.Ns mainGlobals mg) (hfa : mg "law" = some (.ref fa))
    {od0 an0 : Option Addr} {sl0 : Array (Option Value)} {oc0 kV0 dc0 pm0 cd0 ct0 : Value}
    {od1 an1 : Option Addr} {sl1 : Array (Option Value)} {oc1 kV1 dc1 pm1 cd1 ct1 : Value}
    {od2 an2 : Option Addr} {sl2 : Array (Option Value)} {oc2 kV2 dc2 pm2 cd2 ct2 : Value}
    {od3 an3 : Option Addr} {sl3 : Array (Option Value)} {oc3 kV3 dc3 pm3 cd3 ct3 : Value}
    {od4 an4 : Option Addr} {sl4 : Array (Option Value)} {oc4 kV4 dc4 pm4 cd4 ct4 : Value}
    {od5 an5 : Option Addr} {sl5 : Array (Option Value)} {oc5 kV5 dc5 pm5 cd5 ct5 : Value}
    {od6 an6 : Option Addr} {sl6 : Array (Option Value)} {oc6 kV6 dc6 pm6 cd6 ct6 : Value}
    {od7 an7 : Option Addr} {sl7 : Array (Option Value)} {oc7 kV7 dc7 pm7 cd7 ct7 : Value}
    {od8 an8 : Option Addr} {sl8 : Array (Option Value)} {oc8 kV8 dc8 pm8 cd8 ct8 : Value}
    {od9 an9 : Option Addr} {sl9 : Array (Option Value)} {oc9 kV9 dc9 pm9 cd9 ct9 : Value}
    {od10 an10 : Option Addr} {sl10 : Array (Option Value)} {oc10 kV10 dc10 pm10 cd10 ct10 : Value}
    {od11 an11 : Option Addr} {sl11 : Array (Option Value)} {oc11 kV11 dc11 pm11 cd11 ct11 : Value}
    {od12 an12 : Option Addr} {sl12 : Array (Option Value)} {oc12 kV12 dc12 pm12 cd12 ct12 : Value}
    {od13 an13 : Option Addr} {sl13 : Array (Option Value)} {oc13 kV13 dc13 pm13 cd13 ct13 : Value}
    {od14 an14 : Option Addr} {sl14 : Array (Option Value)} {oc14 kV14 dc14 pm14 cd14 ct14 : Value}
    {od15 an15 : Option Addr} {sl15 : Array (Option Value)} {oc15 kV15 dc15 pm15 cd15 ct15 : Value}
    {od16 an16 : Option Addr} {sl16 : Array (Option Value)} {oc16 kV16 dc16 pm16 cd16 ct16 : Value}
    {od17 an17 : Option Addr} {sl17 : Array (Option Value)} {oc17 kV17 dc17 pm17 cd17 ct17 : Value}
    {od18 an18 : Option Addr} {sl18 : Array (Option Value)} {oc18 kV18 dc18 pm18 cd18 ct18 : Value}
    {od19 an19 : Option Addr} {sl19 : Array (Option Value)} {oc19 kV19 dc19 pm19 cd19 ct19 : Value}
    {od20 an20 : Option Addr} {sl20 : Array (Option Value)} {oc20 kV20 dc20 pm20 cd20 ct20 : Value}
    {od21 an21 : Option Addr} {sl21 : Array (Option Value)} {oc21 kV21 dc21 pm21 cd21 ct21 : Value}
    {od22 an22 : Option Addr} {sl22 : Array (Option Value)} {oc22 kV22 dc22 pm22 cd22 ct22 : Value}
    {od23 an23 : Option Addr} {sl23 : Array (Option Value)} {oc23 kV23 dc23 pm23 cd23 ct23 : Value}
    {od24 an24 : Option Addr} {sl24 : Array (Option Value)} {oc24 kV24 dc24 pm24 cd24 ct24 : Value}
    {od25 an25 : Option Addr} {sl25 : Array (Option Value)} {oc25 kV25 dc25 pm25 cd25 ct25 : Value}
    {od26 an26 : Option Addr} {sl26 : Array (Option Value)} {oc26 kV26 dc26 pm26 cd26 ct26 : Value}
    {od27 an27 : Option Addr} {sl27 : Array (Option Value)} {oc27 kV27 dc27 pm27 cd27 ct27 : Value}
    {od28 an28 : Option Addr} {sl28 : Array (Option Value)} {oc28 kV28 dc28 pm28 cd28 ct28 : Value}
    {od29 an29 : Option Addr} {sl29 : Array (Option Value)} {oc29 kV29 dc29 pm29 cd29 ct29 : Value}
    {od30 an30 : Option Addr} {sl30 : Array (Option Value)} {oc30 kV30 dc30 pm30 cd30 ct30 : Value}
    {od31 an31 : Option Addr} {sl31 : Array (Option Value)} {oc31 kV31 dc31 pm31 cd31 ct31 : Value}
    {od32 an32 : Option Addr} {sl32 : Array (Option Value)} {oc32 kV32 dc32 pm32 cd32 ct32 : Value}
    {od33 an33 : Option Addr} {sl33 : Array (Option Value)} {oc33 kV33 dc33 pm33 cd33 ct33 : Value}
    {od34 an34 : Option Addr} {sl34 : Array (Option Value)} {oc34 kV34 dc34 pm34 cd34 ct34 : Value}
    {od35 an35 : Option Addr} {sl35 : Array (Option Value)} {oc35 kV35 dc35 pm35 cd35 ct35 : Value}
    {od36 an36 : Option Addr} {sl36 : Array (Option Value)} {oc36 kV36 dc36 pm36 cd36 ct36 : Value}
    {od37 an37 : Option Addr} {sl37 : Array (Option Value)} {oc37 kV37 dc37 pm37 cd37 ct37 : Value}
    {od38 an38 : Option Addr} {sl38 : Array (Option Value)} {oc38 kV38 dc38 pm38 cd38 ct38 : Value}
    {od39 an39 : Option Addr} {sl39 : Array (Option Value)} {oc39 kV39 dc39 pm39 cd39 ct39 : Value}
    {od40 an40 : Option Addr} {sl40 : Array (Option Value)} {oc40 kV40 dc40 pm40 cd40 ct40 : Value}
    {od41 an41 : Option Addr} {sl41 : Array (Option Value)} {oc41 kV41 dc41 pm41 cd41 ct41 : Value}
    {od42 an42 : Option Addr} {sl42 : Array (Option Value)} {oc42 kV42 dc42 pm42 cd42 ct42 : Value}
    (a0 : PySem.W.nsIn K mainGlobals "divisor" = some (some (.ref f0))) (l0 : K.lookup f0 = some ⟨oc0, od0, .func (PySem.W.fnOf "divisor" "divisor" (defArgs s_divisor) (defBody s_divisor) (defScope s_divisor) .none kV0 dc0 pm0 an0 cd0 ct0), sl0⟩) (c0 : PySem.W.codeIn K cd0 "divisor" = true) (k0 : PySem.W.keepIn K (.ref f0) = true)
    (a1 : PySem.W.nsIn K mainGlobals "part" = some (some (.ref f1))) (l1 : K.lookup f1 = some ⟨oc1, od1, .func (PySem.W.fnOf "part" "part" (defArgs s_part) (defBody s_part) (defScope s_part) .none kV1 dc1 pm1 an1 cd1 ct1), sl1⟩) (c1 : PySem.W.codeIn K cd1 "part" = true) (k1 : PySem.W.keepIn K (.ref f1) = true)
    (a2 : PySem.W.nsIn K mainGlobals "is_part" = some (some (.ref f2))) (l2 : K.lookup f2 = some ⟨oc2, od2, .func (PySem.W.fnOf "is_part" "is_part" (defArgs s_is_part) (defBody s_is_part) (defScope s_is_part) .none kV2 dc2 pm2 an2 cd2 ct2), sl2⟩) (c2 : PySem.W.codeIn K cd2 "is_part" = true) (k2 : PySem.W.keepIn K (.ref f2) = true)
    (a3 : PySem.W.nsIn K mainGlobals "plus" = some (some (.ref f3))) (l3 : K.lookup f3 = some ⟨oc3, od3, .func (PySem.W.fnOf "plus" "plus" (defArgs s_plus) (defBody s_plus) (defScope s_plus) .none kV3 dc3 pm3 an3 cd3 ct3), sl3⟩) (c3 : PySem.W.codeIn K cd3 "plus" = true) (k3 : PySem.W.keepIn K (.ref f3) = true)
    (a4 : PySem.W.nsIn K mainGlobals "minus" = some (some (.ref f4))) (l4 : K.lookup f4 = some ⟨oc4, od4, .func (PySem.W.fnOf "minus" "minus" (defArgs s_minus) (defBody s_minus) (defScope s_minus) .none kV4 dc4 pm4 an4 cd4 ct4), sl4⟩) (c4 : PySem.W.codeIn K cd4 "minus" = true) (k4 : PySem.W.keepIn K (.ref f4) = true)
    (a5 : PySem.W.nsIn K mainGlobals "times" = some (some (.ref f5))) (l5 : K.lookup f5 = some ⟨oc5, od5, .func (PySem.W.fnOf "times" "times" (defArgs s_times) (defBody s_times) (defScope s_times) .none kV5 dc5 pm5 an5 cd5 ct5), sl5⟩) (c5 : PySem.W.codeIn K cd5 "times" = true) (k5 : PySem.W.keepIn K (.ref f5) = true)
    (a6 : PySem.W.nsIn K mainGlobals "whole_below" = some (some (.ref f6))) (l6 : K.lookup f6 = some ⟨oc6, od6, .func (PySem.W.fnOf "whole_below" "whole_below" (defArgs s_whole_below) (defBody s_whole_below) (defScope s_whole_below) .none kV6 dc6 pm6 an6 cd6 ct6), sl6⟩) (c6 : PySem.W.codeIn K cd6 "whole_below" = true) (k6 : PySem.W.keepIn K (.ref f6) = true)
    (a7 : PySem.W.nsIn K mainGlobals "is_steps" = some (some (.ref f7))) (l7 : K.lookup f7 = some ⟨oc7, od7, .func (PySem.W.fnOf "is_steps" "is_steps" (defArgs s_is_steps) (defBody s_is_steps) (defScope s_is_steps) .none kV7 dc7 pm7 an7 cd7 ct7), sl7⟩) (c7 : PySem.W.codeIn K cd7 "is_steps" = true) (k7 : PySem.W.keepIn K (.ref f7) = true)
    (a8 : PySem.W.nsIn K mainGlobals "is_step" = some (some (.ref f8))) (l8 : K.lookup f8 = some ⟨oc8, od8, .func (PySem.W.fnOf "is_step" "is_step" (defArgs s_is_step) (defBody s_is_step) (defScope s_is_step) .none kV8 dc8 pm8 an8 cd8 ct8), sl8⟩) (c8 : PySem.W.codeIn K cd8 "is_step" = true) (k8 : PySem.W.keepIn K (.ref f8) = true)
    (a9 : PySem.W.nsIn K mainGlobals "is_wholes" = some (some (.ref f9))) (l9 : K.lookup f9 = some ⟨oc9, od9, .func (PySem.W.fnOf "is_wholes" "is_wholes" (defArgs s_is_wholes) (defBody s_is_wholes) (defScope s_is_wholes) .none kV9 dc9 pm9 an9 cd9 ct9), sl9⟩) (c9 : PySem.W.codeIn K cd9 "is_wholes" = true) (k9 : PySem.W.keepIn K (.ref f9) = true)
    (a10 : PySem.W.nsIn K mainGlobals "told_by" = some (some (.ref f10))) (l10 : K.lookup f10 = some ⟨oc10, od10, .func (PySem.W.fnOf "told_by" "told_by" (defArgs s_told_by) (defBody s_told_by) (defScope s_told_by) .none kV10 dc10 pm10 an10 cd10 ct10), sl10⟩) (c10 : PySem.W.codeIn K cd10 "told_by" = true) (k10 : PySem.W.keepIn K (.ref f10) = true)
    (a11 : PySem.W.nsIn K mainGlobals "stepped" = some (some (.ref f11))) (l11 : K.lookup f11 = some ⟨oc11, od11, .func (PySem.W.fnOf "stepped" "stepped" (defArgs s_stepped) (defBody s_stepped) (defScope s_stepped) .none kV11 dc11 pm11 an11 cd11 ct11), sl11⟩) (c11 : PySem.W.codeIn K cd11 "stepped" = true) (k11 : PySem.W.keepIn K (.ref f11) = true)
    (a12 : PySem.W.nsIn K mainGlobals "apart" = some (some (.ref f12))) (l12 : K.lookup f12 = some ⟨oc12, od12, .func (PySem.W.fnOf "apart" "apart" (defArgs s_apart) (defBody s_apart) (defScope s_apart) .none kV12 dc12 pm12 an12 cd12 ct12), sl12⟩) (c12 : PySem.W.codeIn K cd12 "apart" = true) (k12 : PySem.W.keepIn K (.ref f12) = true)
    (a13 : PySem.W.nsIn K mainGlobals "together" = some (some (.ref f13))) (l13 : K.lookup f13 = some ⟨oc13, od13, .func (PySem.W.fnOf "together" "together" (defArgs s_together) (defBody s_together) (defScope s_together) .none kV13 dc13 pm13 an13 cd13 ct13), sl13⟩) (c13 : PySem.W.codeIn K cd13 "together" = true) (k13 : PySem.W.keepIn K (.ref f13) = true)
    (a14 : PySem.W.nsIn K mainGlobals "pyramid" = some (some (.ref f14))) (l14 : K.lookup f14 = some ⟨oc14, od14, .func (PySem.W.fnOf "pyramid" "pyramid" (defArgs s_pyramid) (defBody s_pyramid) (defScope s_pyramid) .none kV14 dc14 pm14 an14 cd14 ct14), sl14⟩) (c14 : PySem.W.codeIn K cd14 "pyramid" = true) (k14 : PySem.W.keepIn K (.ref f14) = true)
    (a15 : PySem.W.nsIn K mainGlobals "back" = some (some (.ref f15))) (l15 : K.lookup f15 = some ⟨oc15, od15, .func (PySem.W.fnOf "back" "back" (defArgs s_back) (defBody s_back) (defScope s_back) .none kV15 dc15 pm15 an15 cd15 ct15), sl15⟩) (c15 : PySem.W.codeIn K cd15 "back" = true) (k15 : PySem.W.keepIn K (.ref f15) = true)
    (a16 : PySem.W.nsIn K mainGlobals "without_rounding" = some (some (.ref f16))) (l16 : K.lookup f16 = some ⟨oc16, od16, .func (PySem.W.fnOf "without_rounding" "without_rounding" (defArgs s_without_rounding) (defBody s_without_rounding) (defScope s_without_rounding) .none kV16 dc16 pm16 an16 cd16 ct16), sl16⟩) (c16 : PySem.W.codeIn K cd16 "without_rounding" = true) (k16 : PySem.W.keepIn K (.ref f16) = true)
    (a17 : PySem.W.nsIn K mainGlobals "gap_of" = some (some (.ref f17))) (l17 : K.lookup f17 = some ⟨oc17, od17, .func (PySem.W.fnOf "gap_of" "gap_of" (defArgs s_gap_of) (defBody s_gap_of) (defScope s_gap_of) .none kV17 dc17 pm17 an17 cd17 ct17), sl17⟩) (c17 : PySem.W.codeIn K cd17 "gap_of" = true) (k17 : PySem.W.keepIn K (.ref f17) = true)
    (a18 : PySem.W.nsIn K mainGlobals "means_and_gaps" = some (some (.ref f18))) (l18 : K.lookup f18 = some ⟨oc18, od18, .func (PySem.W.fnOf "means_and_gaps" "means_and_gaps" (defArgs s_means_and_gaps) (defBody s_means_and_gaps) (defScope s_means_and_gaps) .none kV18 dc18 pm18 an18 cd18 ct18), sl18⟩) (c18 : PySem.W.codeIn K cd18 "means_and_gaps" = true) (k18 : PySem.W.keepIn K (.ref f18) = true)
    (a19 : PySem.W.nsIn K mainGlobals "near_means" = some (some (.ref f19))) (l19 : K.lookup f19 = some ⟨oc19, od19, .func (PySem.W.fnOf "near_means" "near_means" (defArgs s_near_means) (defBody s_near_means) (defScope s_near_means) .none kV19 dc19 pm19 an19 cd19 ct19), sl19⟩) (c19 : PySem.W.codeIn K cd19 "near_means" = true) (k19 : PySem.W.keepIn K (.ref f19) = true)
    (a20 : PySem.W.nsIn K mainGlobals "zigzag" = some (some (.ref f20))) (l20 : K.lookup f20 = some ⟨oc20, od20, .func (PySem.W.fnOf "zigzag" "zigzag" (defArgs s_zigzag) (defBody s_zigzag) (defScope s_zigzag) .none kV20 dc20 pm20 an20 cd20 ct20), sl20⟩) (c20 : PySem.W.codeIn K cd20 "zigzag" = true) (k20 : PySem.W.keepIn K (.ref f20) = true)
    (a21 : PySem.W.nsIn K mainGlobals "unzigzag" = some (some (.ref f21))) (l21 : K.lookup f21 = some ⟨oc21, od21, .func (PySem.W.fnOf "unzigzag" "unzigzag" (defArgs s_unzigzag) (defBody s_unzigzag) (defScope s_unzigzag) .none kV21 dc21 pm21 an21 cd21 ct21), sl21⟩) (c21 : PySem.W.codeIn K cd21 "unzigzag" = true) (k21 : PySem.W.keepIn K (.ref f21) = true)
    (a22 : PySem.W.nsIn K mainGlobals "cost" = some (some (.ref f22))) (l22 : K.lookup f22 = some ⟨oc22, od22, .func (PySem.W.fnOf "cost" "cost" (defArgs s_cost) (defBody s_cost) (defScope s_cost) .none kV22 dc22 pm22 an22 cd22 ct22), sl22⟩) (c22 : PySem.W.codeIn K cd22 "cost" = true) (k22 : PySem.W.keepIn K (.ref f22) = true)
    (a23 : PySem.W.nsIn K mainGlobals "is_same_way" = some (some (.ref f23))) (l23 : K.lookup f23 = some ⟨oc23, od23, .func (PySem.W.fnOf "is_same_way" "is_same_way" (defArgs s_is_same_way) (defBody s_is_same_way) (defScope s_is_same_way) .none kV23 dc23 pm23 an23 cd23 ct23), sl23⟩) (c23 : PySem.W.codeIn K cd23 "is_same_way" = true) (k23 : PySem.W.keepIn K (.ref f23) = true)
    (a24 : PySem.W.nsIn K mainGlobals "_law_state" = some (some (.ref f24))) (l24 : K.lookup f24 = some ⟨oc24, od24, .func (PySem.W.fnOf "_law_state" "_law_state" (defArgs s__law_state) (defBody s__law_state) (defScope s__law_state) .none kV24 dc24 pm24 an24 cd24 ct24), sl24⟩) (c24 : PySem.W.codeIn K cd24 "_law_state" = true) (k24 : PySem.W.keepIn K (.ref f24) = true)
    (a25 : PySem.W.nsIn K mainGlobals "_law_take" = some (some (.ref f25))) (l25 : K.lookup f25 = some ⟨oc25, od25, .func (PySem.W.fnOf "_law_take" "_law_take" (defArgs s__law_take) (defBody s__law_take) (defScope s__law_take) .none kV25 dc25 pm25 an25 cd25 ct25), sl25⟩) (c25 : PySem.W.codeIn K cd25 "_law_take" = true) (k25 : PySem.W.keepIn K (.ref f25) = true)
    (a26 : PySem.W.nsIn K mainGlobals "_law_part" = some (some (.ref f26))) (l26 : K.lookup f26 = some ⟨oc26, od26, .func (PySem.W.fnOf "_law_part" "_law_part" (defArgs s__law_part) (defBody s__law_part) (defScope s__law_part) .none kV26 dc26 pm26 an26 cd26 ct26), sl26⟩) (c26 : PySem.W.codeIn K cd26 "_law_part" = true) (k26 : PySem.W.keepIn K (.ref f26) = true)
    (a27 : PySem.W.nsIn K mainGlobals "_law_add" = some (some (.ref f27))) (l27 : K.lookup f27 = some ⟨oc27, od27, .func (PySem.W.fnOf "_law_add" "_law_add" (defArgs s__law_add) (defBody s__law_add) (defScope s__law_add) .none kV27 dc27 pm27 an27 cd27 ct27), sl27⟩) (c27 : PySem.W.codeIn K cd27 "_law_add" = true) (k27 : PySem.W.keepIn K (.ref f27) = true)
    (a28 : PySem.W.nsIn K mainGlobals "_law_mul" = some (some (.ref f28))) (l28 : K.lookup f28 = some ⟨oc28, od28, .func (PySem.W.fnOf "_law_mul" "_law_mul" (defArgs s__law_mul) (defBody s__law_mul) (defScope s__law_mul) .none kV28 dc28 pm28 an28 cd28 ct28), sl28⟩) (c28 : PySem.W.codeIn K cd28 "_law_mul" = true) (k28 : PySem.W.keepIn K (.ref f28) = true)
    (a29 : PySem.W.nsIn K mainGlobals "_law_neg" = some (some (.ref f29))) (l29 : K.lookup f29 = some ⟨oc29, od29, .func (PySem.W.fnOf "_law_neg" "_law_neg" (defArgs s__law_neg) (defBody s__law_neg) (defScope s__law_neg) .none kV29 dc29 pm29 an29 cd29 ct29), sl29⟩) (c29 : PySem.W.codeIn K cd29 "_law_neg" = true) (k29 : PySem.W.keepIn K (.ref f29) = true)
    (a30 : PySem.W.nsIn K mainGlobals "_law_total" = some (some (.ref f30))) (l30 : K.lookup f30 = some ⟨oc30, od30, .func (PySem.W.fnOf "_law_total" "_law_total" (defArgs s__law_total) (defBody s__law_total) (defScope s__law_total) .none kV30 dc30 pm30 an30 cd30 ct30), sl30⟩) (c30 : PySem.W.codeIn K cd30 "_law_total" = true) (k30 : PySem.W.keepIn K (.ref f30) = true)
    (a31 : PySem.W.nsIn K mainGlobals "_law_fraction" = some (some (.ref f31))) (l31 : K.lookup f31 = some ⟨oc31, od31, .func (PySem.W.fnOf "_law_fraction" "_law_fraction" (defArgs s__law_fraction) (defBody s__law_fraction) (defScope s__law_fraction) .none kV31 dc31 pm31 an31 cd31 ct31), sl31⟩) (c31 : PySem.W.codeIn K cd31 "_law_fraction" = true) (k31 : PySem.W.keepIn K (.ref f31) = true)
    (a32 : PySem.W.nsIn K mainGlobals "_law_floor" = some (some (.ref f32))) (l32 : K.lookup f32 = some ⟨oc32, od32, .func (PySem.W.fnOf "_law_floor" "_law_floor" (defArgs s__law_floor) (defBody s__law_floor) (defScope s__law_floor) .none kV32 dc32 pm32 an32 cd32 ct32), sl32⟩) (c32 : PySem.W.codeIn K cd32 "_law_floor" = true) (k32 : PySem.W.keepIn K (.ref f32) = true)
    (a33 : PySem.W.nsIn K mainGlobals "_law_steps" = some (some (.ref f33))) (l33 : K.lookup f33 = some ⟨oc33, od33, .func (PySem.W.fnOf "_law_steps" "_law_steps" (defArgs s__law_steps) (defBody s__law_steps) (defScope s__law_steps) .none kV33 dc33 pm33 an33 cd33 ct33), sl33⟩) (c33 : PySem.W.codeIn K cd33 "_law_steps" = true) (k33 : PySem.W.keepIn K (.ref f33) = true)
    (a34 : PySem.W.nsIn K mainGlobals "_law_told" = some (some (.ref f34))) (l34 : K.lookup f34 = some ⟨oc34, od34, .func (PySem.W.fnOf "_law_told" "_law_told" (defArgs s__law_told) (defBody s__law_told) (defScope s__law_told) .none kV34 dc34 pm34 an34 cd34 ct34), sl34⟩) (c34 : PySem.W.codeIn K cd34 "_law_told" = true) (k34 : PySem.W.keepIn K (.ref f34) = true)
    (a35 : PySem.W.nsIn K mainGlobals "_law_apart" = some (some (.ref f35))) (l35 : K.lookup f35 = some ⟨oc35, od35, .func (PySem.W.fnOf "_law_apart" "_law_apart" (defArgs s__law_apart) (defBody s__law_apart) (defScope s__law_apart) .none kV35 dc35 pm35 an35 cd35 ct35), sl35⟩) (c35 : PySem.W.codeIn K cd35 "_law_apart" = true) (k35 : PySem.W.keepIn K (.ref f35) = true)
    (a36 : PySem.W.nsIn K mainGlobals "_law_there" = some (some (.ref f36))) (l36 : K.lookup f36 = some ⟨oc36, od36, .func (PySem.W.fnOf "_law_there" "_law_there" (defArgs s__law_there) (defBody s__law_there) (defScope s__law_there) .none kV36 dc36 pm36 an36 cd36 ct36), sl36⟩) (c36 : PySem.W.codeIn K cd36 "_law_there" = true) (k36 : PySem.W.keepIn K (.ref f36) = true)
    (a37 : PySem.W.nsIn K mainGlobals "_law_plain" = some (some (.ref f37))) (l37 : K.lookup f37 = some ⟨oc37, od37, .func (PySem.W.fnOf "_law_plain" "_law_plain" (defArgs s__law_plain) (defBody s__law_plain) (defScope s__law_plain) .none kV37 dc37 pm37 an37 cd37 ct37), sl37⟩) (c37 : PySem.W.codeIn K cd37 "_law_plain" = true) (k37 : PySem.W.keepIn K (.ref f37) = true)
    (a38 : PySem.W.nsIn K mainGlobals "_law_pyramids" = some (some (.ref f38))) (l38 : K.lookup f38 = some ⟨oc38, od38, .func (PySem.W.fnOf "_law_pyramids" "_law_pyramids" (defArgs s__law_pyramids) (defBody s__law_pyramids) (defScope s__law_pyramids) .none kV38 dc38 pm38 an38 cd38 ct38), sl38⟩) (c38 : PySem.W.codeIn K cd38 "_law_pyramids" = true) (k38 : PySem.W.keepIn K (.ref f38) = true)
    (a39 : PySem.W.nsIn K mainGlobals "_law_word" = some (some (.ref f39))) (l39 : K.lookup f39 = some ⟨oc39, od39, .func (PySem.W.fnOf "_law_word" "_law_word" (defArgs s__law_word) (defBody s__law_word) (defScope s__law_word) .none kV39 dc39 pm39 an39 cd39 ct39), sl39⟩) (c39 : PySem.W.codeIn K cd39 "_law_word" = true) (k39 : PySem.W.keepIn K (.ref f39) = true)
    (a40 : PySem.W.nsIn K mainGlobals "_law_known" = some (some (.ref f40))) (l40 : K.lookup f40 = some ⟨oc40, od40, .func (PySem.W.fnOf "_law_known" "_law_known" (defArgs s__law_known) (defBody s__law_known) (defScope s__law_known) .none kV40 dc40 pm40 an40 cd40 ct40), sl40⟩) (c40 : PySem.W.codeIn K cd40 "_law_known" = true) (k40 : PySem.W.keepIn K (.ref f40) = true)
    (a41 : PySem.W.nsIn K mainGlobals "_law_odd" = some (some (.ref f41))) (l41 : K.lookup f41 = some ⟨oc41, od41, .func (PySem.W.fnOf "_law_odd" "_law_odd" (defArgs s__law_odd) (defBody s__law_odd) (defScope s__law_odd) .none kV41 dc41 pm41 an41 cd41 ct41), sl41⟩) (c41 : PySem.W.codeIn K cd41 "_law_odd" = true) (k41 : PySem.W.keepIn K (.ref f41) = true)
    (a42 : PySem.W.nsIn K mainGlobals "law" = some (some (.ref f42))) (l42 : K.lookup f42 = some ⟨oc42, od42, .func (PySem.W.fnOf "law" "law" (defArgs s_law) (defBody s_law) (defScope s_law) .none kV42 dc42 pm42 an42 cd42 ct42), sl42⟩) (c42 : PySem.W.codeIn K cd42 "law" = true) (k42 : PySem.W.keepIn K (.ref f42) = true)
    (z_abs : PySem.W.nsIn K mainGlobals "abs" = some none)
    (z_all : PySem.W.nsIn K mainGlobals "all" = some none)
    (z_bool : PySem.W.nsIn K mainGlobals "bool" = some none)
    (z_int : PySem.W.nsIn K mainGlobals "int" = some none)
    (z_isinstance : PySem.W.nsIn K mainGlobals "isinstance" = some none)
    (z_len : PySem.W.nsIn K mainGlobals "len" = some none)
    (z_list : PySem.W.nsIn K mainGlobals "list" = some none)
    (z_range : PySem.W.nsIn K mainGlobals "range" = some none)
    (z_sorted : PySem.W.nsIn K mainGlobals "sorted" = some none)
    (z_tuple : PySem.W.nsIn K mainGlobals "tuple" = some none)
    {t_MOST_LONG : Tok} (c_MOST_LONG : PySem.W.nsIn K mainGlobals "MOST_LONG" = some (some (.int 64 t_MOST_LONG)))
    {t_MOST_STEPS : Tok} (c_MOST_STEPS : PySem.W.nsIn K mainGlobals "MOST_STEPS" = some (some (.int 6 t_MOST_STEPS)))
    {nmC0 qC0 : Str} {NC0 : Addr} {bsC0 bmC0 : List Value} {snC0 : List Str} {subC0 : List Value} {abC0 : Bool} {colC0 : Option Bool} {ddC0 : Option Addr} {m0C0 m1C0 m2C0 m3C0 m5C0 : Option Value}
    {fIC0 ccC0 cdaC0 : Addr} {ocC0 : Value} {odC0 anC0 : Option Addr} {kVC0 dcC0 pmC0 ctC0 : Value} {slC0 : Array (Option Value)} {cclC0 : Value} {cddC0 : Option Addr} {vsC0 : Array Value} {ccsC0 : Array (Option Value)} {clC0 : Value} {cldC0 : Option Addr} {cslC0 : Array (Option Value)} {fileC0 : Str} {tfC0 : Tok}
    (gC0 : PySem.W.nsIn K mainGlobals "Misstep" = some (some (.ref C0))) (xLC0 : K.lookup C0 = some (excClassObj nmC0 qC0 C0 NC0 bsC0 bmC0 true snC0 subC0 abC0 colC0 ddC0 m0C0 m1C0 m2C0 m3C0 m5C0 "ValueError.__new__")) (hbC0 : PySem.HandSPX.refsVE bmC0 = true)
    (saC0 : PySem.W.findIn K (.ref C0) "__setattr__" = some (some (.builtin "object.__setattr__"))) (gaC0 : PySem.W.findIn K (.ref C0) "__getattribute__" = some (some (.builtin "BaseException.__getattribute__"))) (ggC0 : PySem.W.findIn K (.ref C0) "__getattr__" = some none) (nbC0 : PySem.W.findIn K (.ref C0) "word" = some none)
    (a1C0 : PySem.W.findIn K (.ref C0) "__init__" = some (some (.ref fIC0))) (t1C0 : PySem.W.typeIn K (.ref fIC0) = some (.type "function"))
    (l1C0 : K.lookup fIC0 = some ⟨ocC0, odC0, .func (PySem.W.ksFn "__init__" "Misstep.__init__" (defArgs c_Misstep) (defBody c_Misstep) (defScope c_Misstep) .none kVC0 dcC0 pmC0 anC0 (.ref cdaC0) ctC0 ccC0), slC0⟩) (c1C0 : PySem.W.codeIn K (.ref cdaC0) "Misstep.__init__" = true)
    (lDC0 : K.lookup cdaC0 = some ⟨cclC0, cddC0, .fields vsC0, ccsC0⟩) (iFC0 : vsC0[2]? = some (.str fileC0 tfC0)) (iMC0 : ((l.prog.main.file : Str) == fileC0) = true) (lXC0 : K.lookup ccC0 = some ⟨clC0, cldC0, .cell (some (.ref C0)), cslC0⟩)
    (spC0 : PySem.W.ks_superIn K C0 C0 "__init__" = some (some (.builtin "ValueError.__init__"))) (veC0 : PySem.W.subIn K (.ref C0) (.type "ValueError") = some true) (meC0 : PySem.W.mroIn K C0 (.ref C0) = some true) (tpC0 : PySem.W.nsIn K cStatics "thirdparty.any" = some none)
    (topC0 : (l.prog.main.scope.names.lookup ("super" : Str)).isSome = false)
    (kCC0 : PySem.W.keepIn K (.ref C0) = true) (eCC0 : PySem.W.subIn K (.ref C0) (.type "BaseException") = some true) (tCC0 : PySem.W.typeIn K (.ref C0) = some (.type "type")) (hCC0 : PySem.W.hasDictIn K C0 = true) (iCC0 : PySem.W.isClsIn K C0 = true) (sCC0 : PySem.W.subIn K (.ref C0) (.ref C0) = some true)
    (z_super : PySem.W.nsIn K mainGlobals "super" = some none)
    (hl : lawOk 6 1 m_law) :
    ∃ fd : FuncData, (∀ (s : Shared) (v : Value), BindsTo s fd ⟨[v], []⟩ [("script", v)]) ∧ ∀ base : Heap, K.In base → base.Ns mainGlobals mg → FnOk l.prog w K mg base CX0 10 fa fd ["script"] (spLaw K) := by
  have e := hfa.symm.trans (PySem.W.mg_of X G a42)
  cases e
  obtain ⟨fd0, F0, b0⟩ : ∃ fd, Fun K "divisor" "divisor" s_divisor f0 fd ∧ Binds K fd ["one", "other"] [] := ⟨_, fun_mk (st := s_divisor) l0 c0 k0, (fun_mk (st := s_divisor) l0 c0 k0).binds (ps := ["one", "other"]) fun _ _ _ _ _ _ us hl => match us, hl with | [_, _], _ => rfl⟩
  clear l0 c0 k0
  obtain ⟨fd1, F1, b1⟩ : ∃ fd, Fun K "part" "part" s_part f1 fd ∧ Binds K fd ["above", "below"] [] := ⟨_, fun_mk (st := s_part) l1 c1 k1, (fun_mk (st := s_part) l1 c1 k1).binds (ps := ["above", "below"]) fun _ _ _ _ _ _ us hl => match us, hl with | [_, _], _ => rfl⟩
  clear l1 c1 k1
  obtain ⟨fd2, F2, b2⟩ : ∃ fd, Fun K "is_part" "is_part" s_is_part f2 fd ∧ Binds K fd ["value"] [] := ⟨_, fun_mk (st := s_is_part) l2 c2 k2, (fun_mk (st := s_is_part) l2 c2 k2).binds (ps := ["value"]) fun _ _ _ _ _ _ us hl => match us, hl with | [_], _ => rfl⟩
  clear l2 c2 k2
  obtain ⟨fd3, F3, b3⟩ : ∃ fd, Fun K "plus" "plus" s_plus f3 fd ∧ Binds K fd ["one", "other"] [] := ⟨_, fun_mk (st := s_plus) l3 c3 k3, (fun_mk (st := s_plus) l3 c3 k3).binds (ps := ["one", "other"]) fun _ _ _ _ _ _ us hl => match us, hl with | [_, _], _ => rfl⟩
  clear l3 c3 k3
  obtain ⟨fd4, F4, b4⟩ : ∃ fd, Fun K "minus" "minus" s_minus f4 fd ∧ Binds K fd ["one", "other"] [] := ⟨_, fun_mk (st := s_minus) l4 c4 k4, (fun_mk (st := s_minus) l4 c4 k4).binds (ps := ["one", "other"]) fun _ _ _ _ _ _ us hl => match us, hl with | [_, _], _ => rfl⟩
  clear l4 c4 k4
  obtain ⟨fd5, F5, b5⟩ : ∃ fd, Fun K "times" "times" s_times f5 fd ∧ Binds K fd ["one", "other"] [] := ⟨_, fun_mk (st := s_times) l5 c5 k5, (fun_mk (st := s_times) l5 c5 k5).binds (ps := ["one", "other"]) fun _ _ _ _ _ _ us hl => match us, hl with | [_, _], _ => rfl⟩
  clear l5 c5 k5
  obtain ⟨fd6, F6, b6⟩ : ∃ fd, Fun K "whole_below" "whole_below" s_whole_below f6 fd ∧ Binds K fd ["one"] [] := ⟨_, fun_mk (st := s_whole_below) l6 c6 k6, (fun_mk (st := s_whole_below) l6 c6 k6).binds (ps := ["one"]) fun _ _ _ _ _ _ us hl => match us, hl with | [_], _ => rfl⟩
  clear l6 c6 k6
  obtain ⟨fd7, F7, b7⟩ : ∃ fd, Fun K "is_steps" "is_steps" s_is_steps f7 fd ∧ Binds K fd ["value"] [] := ⟨_, fun_mk (st := s_is_steps) l7 c7 k7, (fun_mk (st := s_is_steps) l7 c7 k7).binds (ps := ["value"]) fun _ _ _ _ _ _ us hl => match us, hl with | [_], _ => rfl⟩
  clear l7 c7 k7
  obtain ⟨fd8, F8, b8⟩ : ∃ fd, Fun K "is_step" "is_step" s_is_step f8 fd ∧ Binds K fd ["value"] [] := ⟨_, fun_mk (st := s_is_step) l8 c8 k8, (fun_mk (st := s_is_step) l8 c8 k8).binds (ps := ["value"]) fun _ _ _ _ _ _ us hl => match us, hl with | [_], _ => rfl⟩
  clear l8 c8 k8
  obtain ⟨fd9, F9, b9⟩ : ∃ fd, Fun K "is_wholes" "is_wholes" s_is_wholes f9 fd ∧ Binds K fd ["value"] [] := ⟨_, fun_mk (st := s_is_wholes) l9 c9 k9, (fun_mk (st := s_is_wholes) l9 c9 k9).binds (ps := ["value"]) fun _ _ _ _ _ _ us hl => match us, hl with | [_], _ => rfl⟩
  clear l9 c9 k9
  obtain ⟨fd10, F10, b10⟩ : ∃ fd, Fun K "told_by" "told_by" s_told_by f10 fd ∧ Binds K fd ["step", "row", "place"] [] := ⟨_, fun_mk (st := s_told_by) l10 c10 k10, (fun_mk (st := s_told_by) l10 c10 k10).binds (ps := ["step", "row", "place"]) fun _ _ _ _ _ _ us hl => match us, hl with | [_, _, _], _ => rfl⟩
  clear l10 c10 k10
  obtain ⟨fd11, F11, b11⟩ : ∃ fd, Fun K "stepped" "stepped" s_stepped f11 fd ∧ Binds K fd ["pair", "step", "sign"] [] := ⟨_, fun_mk (st := s_stepped) l11 c11 k11, (fun_mk (st := s_stepped) l11 c11 k11).binds (ps := ["pair", "step", "sign"]) fun _ _ _ _ _ _ us hl => match us, hl with | [_, _, _], _ => rfl⟩
  clear l11 c11 k11
  obtain ⟨fd12, F12, b12⟩ : ∃ fd, Fun K "apart" "apart" s_apart f12 fd ∧ Binds K fd ["row", "steps"] [] := ⟨_, fun_mk (st := s_apart) l12 c12 k12, (fun_mk (st := s_apart) l12 c12 k12).binds (ps := ["row", "steps"]) fun _ _ _ _ _ _ us hl => match us, hl with | [_, _], _ => rfl⟩
  clear l12 c12 k12
  obtain ⟨fd13, F13, b13⟩ : ∃ fd, Fun K "together" "together" s_together f13 fd ∧ Binds K fd ["pair", "steps"] [] := ⟨_, fun_mk (st := s_together) l13 c13 k13, (fun_mk (st := s_together) l13 c13 k13).binds (ps := ["pair", "steps"]) fun _ _ _ _ _ _ us hl => match us, hl with | [_, _], _ => rfl⟩
  clear l13 c13 k13
  obtain ⟨fd14, F14, b14⟩ : ∃ fd, Fun K "pyramid" "pyramid" s_pyramid f14 fd ∧ Binds K fd ["row", "steps", "many"] [] := ⟨_, fun_mk (st := s_pyramid) l14 c14 k14, (fun_mk (st := s_pyramid) l14 c14 k14).binds (ps := ["row", "steps", "many"]) fun _ _ _ _ _ _ us hl => match us, hl with | [_, _, _], _ => rfl⟩
  clear l14 c14 k14
  obtain ⟨fd15, F15, b15⟩ : ∃ fd, Fun K "back" "back" s_back f15 fd ∧ Binds K fd ["told", "steps"] [] := ⟨_, fun_mk (st := s_back) l15 c15 k15, (fun_mk (st := s_back) l15 c15 k15).binds (ps := ["told", "steps"]) fun _ _ _ _ _ _ us hl => match us, hl with | [_, _], _ => rfl⟩
  clear l15 c15 k15
  obtain ⟨fd16, F16, b16⟩ : ∃ fd, Fun K "without_rounding" "without_rounding" s_without_rounding f16 fd ∧ Binds K fd ["row", "steps"] [] := ⟨_, fun_mk (st := s_without_rounding) l16 c16 k16, (fun_mk (st := s_without_rounding) l16 c16 k16).binds (ps := ["row", "steps"]) fun _ _ _ _ _ _ us hl => match us, hl with | [_, _], _ => rfl⟩
  clear l16 c16 k16
  obtain ⟨fd17, F17, b17⟩ : ∃ fd, Fun K "gap_of" "gap_of" s_gap_of f17 fd ∧ Binds K fd ["row", "steps"] [] := ⟨_, fun_mk (st := s_gap_of) l17 c17 k17, (fun_mk (st := s_gap_of) l17 c17 k17).binds (ps := ["row", "steps"]) fun _ _ _ _ _ _ us hl => match us, hl with | [_, _], _ => rfl⟩
  clear l17 c17 k17
  obtain ⟨fd18, F18, b18⟩ : ∃ fd, Fun K "means_and_gaps" "means_and_gaps" s_means_and_gaps f18 fd ∧ Binds K fd [] [] := ⟨_, fun_mk (st := s_means_and_gaps) l18 c18 k18, (fun_mk (st := s_means_and_gaps) l18 c18 k18).binds (ps := []) fun _ _ _ _ _ _ us hl => match us, hl with | [], _ => rfl⟩
  clear l18 c18 k18
  obtain ⟨fd19, F19, b19⟩ : ∃ fd, Fun K "near_means" "near_means" s_near_means f19 fd ∧ Binds K fd [] [] := ⟨_, fun_mk (st := s_near_means) l19 c19 k19, (fun_mk (st := s_near_means) l19 c19 k19).binds (ps := []) fun _ _ _ _ _ _ us hl => match us, hl with | [], _ => rfl⟩
  clear l19 c19 k19
  obtain ⟨fd20, F20, b20⟩ : ∃ fd, Fun K "zigzag" "zigzag" s_zigzag f20 fd ∧ Binds K fd ["number"] [] := ⟨_, fun_mk (st := s_zigzag) l20 c20 k20, (fun_mk (st := s_zigzag) l20 c20 k20).binds (ps := ["number"]) fun _ _ _ _ _ _ us hl => match us, hl with | [_], _ => rfl⟩
  clear l20 c20 k20
  obtain ⟨fd21, F21, b21⟩ : ∃ fd, Fun K "unzigzag" "unzigzag" s_unzigzag f21 fd ∧ Binds K fd ["number"] [] := ⟨_, fun_mk (st := s_unzigzag) l21 c21 k21, (fun_mk (st := s_unzigzag) l21 c21 k21).binds (ps := ["number"]) fun _ _ _ _ _ _ us hl => match us, hl with | [_], _ => rfl⟩
  clear l21 c21 k21
  obtain ⟨fd22, F22, b22⟩ : ∃ fd, Fun K "cost" "cost" s_cost f22 fd ∧ Binds K fd ["row"] [] := ⟨_, fun_mk (st := s_cost) l22 c22 k22, (fun_mk (st := s_cost) l22 c22 k22).binds (ps := ["row"]) fun _ _ _ _ _ _ us hl => match us, hl with | [_], _ => rfl⟩
  clear l22 c22 k22
  obtain ⟨fd23, F23, b23⟩ : ∃ fd, Fun K "is_same_way" "is_same_way" s_is_same_way f23 fd ∧ Binds K fd ["row", "steps"] [] := ⟨_, fun_mk (st := s_is_same_way) l23 c23 k23, (fun_mk (st := s_is_same_way) l23 c23 k23).binds (ps := ["row", "steps"]) fun _ _ _ _ _ _ us hl => match us, hl with | [_, _], _ => rfl⟩
  clear l23 c23 k23
  obtain ⟨fd24, F24, b24⟩ : ∃ fd, Fun K "_law_state" "_law_state" s__law_state f24 fd ∧ Binds K fd ["script"] [] := ⟨_, fun_mk (st := s__law_state) l24 c24 k24, (fun_mk (st := s__law_state) l24 c24 k24).binds (ps := ["script"]) fun _ _ _ _ _ _ us hl => match us, hl with | [_], _ => rfl⟩
  clear l24 c24 k24
  obtain ⟨fd25, F25, b25⟩ : ∃ fd, Fun K "_law_take" "_law_take" s__law_take f25 fd ∧ Binds K fd ["state", "most"] [] := ⟨_, fun_mk (st := s__law_take) l25 c25 k25, (fun_mk (st := s__law_take) l25 c25 k25).binds (ps := ["state", "most"]) fun _ _ _ _ _ _ us hl => match us, hl with | [_, _], _ => rfl⟩
  clear l25 c25 k25
  obtain ⟨fd26, F26, b26⟩ : ∃ fd, Fun K "_law_part" "_law_part" s__law_part f26 fd ∧ Binds K fd ["above", "below"] [] := ⟨_, fun_mk (st := s__law_part) l26 c26 k26, (fun_mk (st := s__law_part) l26 c26 k26).binds (ps := ["above", "below"]) fun _ _ _ _ _ _ us hl => match us, hl with | [_, _], _ => rfl⟩
  clear l26 c26 k26
  obtain ⟨fd27, F27, b27⟩ : ∃ fd, Fun K "_law_add" "_law_add" s__law_add f27 fd ∧ Binds K fd ["one", "other"] [] := ⟨_, fun_mk (st := s__law_add) l27 c27 k27, (fun_mk (st := s__law_add) l27 c27 k27).binds (ps := ["one", "other"]) fun _ _ _ _ _ _ us hl => match us, hl with | [_, _], _ => rfl⟩
  clear l27 c27 k27
  obtain ⟨fd28, F28, b28⟩ : ∃ fd, Fun K "_law_mul" "_law_mul" s__law_mul f28 fd ∧ Binds K fd ["one", "other"] [] := ⟨_, fun_mk (st := s__law_mul) l28 c28 k28, (fun_mk (st := s__law_mul) l28 c28 k28).binds (ps := ["one", "other"]) fun _ _ _ _ _ _ us hl => match us, hl with | [_, _], _ => rfl⟩
  clear l28 c28 k28
  obtain ⟨fd29, F29, b29⟩ : ∃ fd, Fun K "_law_neg" "_law_neg" s__law_neg f29 fd ∧ Binds K fd ["one"] [] := ⟨_, fun_mk (st := s__law_neg) l29 c29 k29, (fun_mk (st := s__law_neg) l29 c29 k29).binds (ps := ["one"]) fun _ _ _ _ _ _ us hl => match us, hl with | [_], _ => rfl⟩
  clear l29 c29 k29
  obtain ⟨fd30, F30, b30⟩ : ∃ fd, Fun K "_law_total" "_law_total" s__law_total f30 fd ∧ Binds K fd ["rows"] [] := ⟨_, fun_mk (st := s__law_total) l30 c30 k30, (fun_mk (st := s__law_total) l30 c30 k30).binds (ps := ["rows"]) fun _ _ _ _ _ _ us hl => match us, hl with | [_], _ => rfl⟩
  clear l30 c30 k30
  obtain ⟨fd31, F31, b31⟩ : ∃ fd, Fun K "_law_fraction" "_law_fraction" s__law_fraction f31 fd ∧ Binds K fd ["state", "most"] [] := ⟨_, fun_mk (st := s__law_fraction) l31 c31 k31, (fun_mk (st := s__law_fraction) l31 c31 k31).binds (ps := ["state", "most"]) fun _ _ _ _ _ _ us hl => match us, hl with | [_, _], _ => rfl⟩
  clear l31 c31 k31
  obtain ⟨fd32, F32, b32⟩ : ∃ fd, Fun K "_law_floor" "_law_floor" s__law_floor f32 fd ∧ Binds K fd ["one"] [] := ⟨_, fun_mk (st := s__law_floor) l32 c32 k32, (fun_mk (st := s__law_floor) l32 c32 k32).binds (ps := ["one"]) fun _ _ _ _ _ _ us hl => match us, hl with | [_], _ => rfl⟩
  clear l32 c32 k32
  obtain ⟨fd33, F33, b33⟩ : ∃ fd, Fun K "_law_steps" "_law_steps" s__law_steps f33 fd ∧ Binds K fd ["state"] [] := ⟨_, fun_mk (st := s__law_steps) l33 c33 k33, (fun_mk (st := s__law_steps) l33 c33 k33).binds (ps := ["state"]) fun _ _ _ _ _ _ us hl => match us, hl with | [_], _ => rfl⟩
  clear l33 c33 k33
  obtain ⟨fd34, F34, b34⟩ : ∃ fd, Fun K "_law_told" "_law_told" s__law_told f34 fd ∧ Binds K fd ["step", "row", "place"] [] := ⟨_, fun_mk (st := s__law_told) l34 c34 k34, (fun_mk (st := s__law_told) l34 c34 k34).binds (ps := ["step", "row", "place"]) fun _ _ _ _ _ _ us hl => match us, hl with | [_, _, _], _ => rfl⟩
  clear l34 c34 k34
  obtain ⟨fd35, F35, b35⟩ : ∃ fd, Fun K "_law_apart" "_law_apart" s__law_apart f35 fd ∧ Binds K fd ["row", "steps", "sign"] [] := ⟨_, fun_mk (st := s__law_apart) l35 c35 k35, (fun_mk (st := s__law_apart) l35 c35 k35).binds (ps := ["row", "steps", "sign"]) fun _ _ _ _ _ _ us hl => match us, hl with | [_, _, _], _ => rfl⟩
  clear l35 c35 k35
  obtain ⟨fd36, F36, b36⟩ : ∃ fd, Fun K "_law_there" "_law_there" s__law_there f36 fd ∧ Binds K fd ["state", "steps", "row"] [] := ⟨_, fun_mk (st := s__law_there) l36 c36 k36, (fun_mk (st := s__law_there) l36 c36 k36).binds (ps := ["state", "steps", "row"]) fun _ _ _ _ _ _ us hl => match us, hl with | [_, _, _], _ => rfl⟩
  clear l36 c36 k36
  obtain ⟨fd37, F37, b37⟩ : ∃ fd, Fun K "_law_plain" "_law_plain" s__law_plain f37 fd ∧ Binds K fd ["steps", "row"] [] := ⟨_, fun_mk (st := s__law_plain) l37 c37 k37, (fun_mk (st := s__law_plain) l37 c37 k37).binds (ps := ["steps", "row"]) fun _ _ _ _ _ _ us hl => match us, hl with | [_, _], _ => rfl⟩
  clear l37 c37 k37
  obtain ⟨fd38, F38, b38⟩ : ∃ fd, Fun K "_law_pyramids" "_law_pyramids" s__law_pyramids f38 fd ∧ Binds K fd ["state", "steps"] [] := ⟨_, fun_mk (st := s__law_pyramids) l38 c38 k38, (fun_mk (st := s__law_pyramids) l38 c38 k38).binds (ps := ["state", "steps"]) fun _ _ _ _ _ _ us hl => match us, hl with | [_, _], _ => rfl⟩
  clear l38 c38 k38
  obtain ⟨fd39, F39, b39⟩ : ∃ fd, Fun K "_law_word" "_law_word" s__law_word f39 fd ∧ Binds K fd ["call", "row", "steps", "many"] [] := ⟨_, fun_mk (st := s__law_word) l39 c39 k39, (fun_mk (st := s__law_word) l39 c39 k39).binds (ps := ["call", "row", "steps", "many"]) fun _ _ _ _ _ _ us hl => match us, hl with | [_, _, _, _], _ => rfl⟩
  clear l39 c39 k39
  obtain ⟨fd40, F40, b40⟩ : ∃ fd, Fun K "_law_known" "_law_known" s__law_known f40 fd ∧ Binds K fd ["state"] [] := ⟨_, fun_mk (st := s__law_known) l40 c40 k40, (fun_mk (st := s__law_known) l40 c40 k40).binds (ps := ["state"]) fun _ _ _ _ _ _ us hl => match us, hl with | [_], _ => rfl⟩
  clear l40 c40 k40
  obtain ⟨fd41, F41, b41⟩ : ∃ fd, Fun K "_law_odd" "_law_odd" s__law_odd f41 fd ∧ Binds K fd [] [] := ⟨_, fun_mk (st := s__law_odd) l41 c41 k41, (fun_mk (st := s__law_odd) l41 c41 k41).binds (ps := []) fun _ _ _ _ _ _ us hl => match us, hl with | [], _ => rfl⟩
  clear l41 c41 k41
  have F42 := fun_mk (st := s_law) l42 c42 k42
  have b42 := F42.binds (ps := ["script"]) fun _ _ _ _ _ _ us hl => match us, hl with | [_], _ => rfl
  have XC0 : ExI l.prog K C0 "Misstep.__init__" "word" "word" (PySem.Str.ofString "this may not be done: ") c_Misstep := ⟨⟨⟨nmC0, qC0, NC0, bsC0, bmC0, snC0, subC0, abC0, colC0, ddC0, m0C0, m1C0, m2C0, m3C0, m5C0, xLC0, hbC0⟩, saC0, eCC0, tCC0, kCC0⟩, veC0, meC0, spC0, tpC0, nbC0,
    ⟨fIC0, ccC0, cdaC0, ocC0, odC0, kVC0, dcC0, pmC0, anC0, ctC0, slC0, cclC0, cddC0, vsC0, ccsC0, clC0, cldC0, cslC0, fileC0, tfC0, a1C0, t1C0, l1C0, c1C0, lDC0, iFC0, iMC0, lXC0⟩, topC0, fun _ _ _ _ _ _ _ _ _ => rfl,
    rfl, rfl, rfl, rfl, rfl, rfl, rfl, by decide +kernel, by decide, ⟨_, rfl, rfl⟩, ⟨_, _, _, _, _, _, _, _, _, _, _, _, _, rfl, rfl⟩, by decide⟩
  have T : Tx l.prog K mg C0 f0 f1 f2 f3 f4 f5 f6 f7 f8 f9 f10 f11 f12 f13 f14 f15 f16 f17 f18 f19 f20 f21 f22 f23 f24 f25 f26 f27 f28 f29 f30 f31 f32 f33 f34 f35 f36 f37 f38 f39 f40 f41 fa fd0 fd1 fd2 fd3 fd4 fd5 fd6 fd7 fd8 fd9 fd10 fd11 fd12 fd13 fd14 fd15 fd16 fd17 fd18 fd19 fd20 fd21 fd22 fd23 fd24 fd25 fd26 fd27 fd28 fd29 fd30 fd31 fd32 fd33 fd34 fd35 fd36 fd37 fd38 fd39 fd40 fd41 _ := ⟨F0, PySem.W.mg_of X G a0, b0, F1, PySem.W.mg_of X G a1, b1, F2, PySem.W.mg_of X G a2, b2, F3, PySem.W.mg_of X G a3, b3, F4, PySem.W.mg_of X G a4, b4, F5, PySem.W.mg_of X G a5, b5, F6, PySem.W.mg_of X G a6, b6, F7, PySem.W.mg_of X G a7, b7, F8, PySem.W.mg_of X G a8, b8, F9, PySem.W.mg_of X G a9, b9, F10, PySem.W.mg_of X G a10, b10, F11, PySem.W.mg_of X G a11, b11, F12, PySem.W.mg_of X G a12, b12, a12, F13, PySem.W.mg_of X G a13, b13, a13, F14, PySem.W.mg_of X G a14, b14, a14, F15, PySem.W.mg_of X G a15, b15, F16, PySem.W.mg_of X G a16, b16, a16, F17, PySem.W.mg_of X G a17, b17, F18, PySem.W.mg_of X G a18, b18, F19, PySem.W.mg_of X G a19, b19, F20, PySem.W.mg_of X G a20, b20, F21, PySem.W.mg_of X G a21, b21, F22, PySem.W.mg_of X G a22, b22, F23, PySem.W.mg_of X G a23, b23, F24, PySem.W.mg_of X G a24, b24, F25, PySem.W.mg_of X G a25, b25, F26, PySem.W.mg_of X G a26, b26, F27, PySem.W.mg_of X G a27, b27, F28, PySem.W.mg_of X G a28, b28, F29, PySem.W.mg_of X G a29, b29, F30, PySem.W.mg_of X G a30, b30, F31, PySem.W.mg_of X G a31, b31, F32, PySem.W.mg_of X G a32, b32, F33, PySem.W.mg_of X G a33, b33, F34, PySem.W.mg_of X G a34, b34, F35, PySem.W.mg_of X G a35, b35, F36, PySem.W.mg_of X G a36, b36, F37, PySem.W.mg_of X G a37, b37, F38, PySem.W.mg_of X G a38, b38, F39, PySem.W.mg_of X G a39, b39, F40, PySem.W.mg_of X G a40, b40, F41, PySem.W.mg_of X G a41, b41, F42, PySem.W.mg_of X G a42, b42, PySem.W.mg_of X G gC0, XC0, ⟨gaC0, ggC0, eCC0, hCC0⟩, exm_own eCC0 iCC0 tCC0 sCC0, PySem.W.mg_none_of X G z_super, PySem.W.mg_none_of X G z_abs, PySem.W.mg_none_of X G z_all, PySem.W.mg_none_of X G z_bool, PySem.W.mg_none_of X G z_int, PySem.W.mg_none_of X G z_isinstance, PySem.W.mg_none_of X G z_len, PySem.W.mg_none_of X G z_list, PySem.W.mg_none_of X G z_range, PySem.W.mg_none_of X G z_sorted, PySem.W.mg_none_of X G z_tuple, ⟨_, PySem.W.mg_of X G c_MOST_LONG⟩, ⟨_, PySem.W.mg_of X G c_MOST_STEPS⟩⟩
  exact ⟨_, fun s v => .of_eq rfl, fun base _ _ => ok_law T hl⟩
end L2.Mir.W

set_option Elab.async false
set_option linter.all false
set_option maxRecDepth 100000
namespace L2.Mir
open PySem PySem.Spec PyProof.Rows
/-! ### rounds, sizes of values -/
def rnds : List Rat → (Nat → Rat) → Nat → Rat
  | [], r => r
  | t :: ts, r => rnds ts (rnd t r)
theorem rnds_app (ts us : List Rat) (r : Nat → Rat) : rnds (ts ++ us) r = rnds us (rnds ts r) := by
  induction ts generalizing r with
  | nil => rfl
  | cons t ts ih => exact ih (rnd t r)
theorem rnds_F : ∀ (ts : List Rat) (r : Nat → Rat), rnds ts r 0 = F r ts
  | [], r => rfl
  | t :: ts, r => by rw [rnds, rnds_F ts, F_rnd]
theorem rnds_take {ts : List Rat} {k : Nat} (h : k < ts.length) (r : Nat → Rat) : rnds (ts.take (k + 1)) r = rnd (gd ts k) (rnds (ts.take k) r) := by
  rw [List.take_add_one, List.getElem?_eq_getElem h, rnds_app]
  simp [rnds, gd, List.getD, h]
theorem szQ_rnd {t : Rat} {m s : Nat} {r : Nat → Rat} (ht : szQ m t) {k : Nat} (h0 : szQ s (r k)) (h1 : szQ s (r (k + 1))) : szQ (2 * s + 2 * m + 3) (rnd t r k) := by
  haveI : Sz t m := ⟨ht⟩
  haveI : Sz (r k) s := ⟨h0⟩
  haveI : Sz (r (k + 1)) s := ⟨h1⟩
  exact ((inferInstance : Sz ((1 - t) * r k + t * r (k + 1)) _).h).mono (by omega)
theorem szQ_gd {l : List Rat} {i : Nat} (a : SzL l i) (hi : 1 ≤ i) (k : Nat) : szQ i (gd l k) := by
  by_cases h : k < l.length
  · have : gd l k = l[k] := by simp [gd, List.getD, h]
    rw [this]; exact a.h _ (List.getElem_mem h)
  · rw [gd_big (by omega)]; exact szQ_zero hi
theorem szQ_rnds {m : Nat} : ∀ (ts : List Rat) (s : Nat) (r : Nat → Rat), (∀ t ∈ ts, szQ m t) → (∀ k, szQ s (r k)) → ∀ k, szQ (2 ^ ts.length * (s + 2 * m + 3)) (rnds ts r k)
  | [], s, r, _, h, k => (h k).mono (by simp; omega)
  | t :: ts, s, r, ht, h, k => by
    have := szQ_rnds ts (2 * s + 2 * m + 3) (rnd t r) (fun u hu => ht u (List.mem_cons_of_mem _ hu)) (fun j => szQ_rnd (ht t List.mem_cons_self) (h j) (h (j + 1))) k
    refine this.mono ?_
    rw [List.length_cons, Nat.pow_succ]
    have : 2 * s + 2 * m + 3 + 2 * m + 3 = 2 * (s + 2 * m + 3) := by omega
    rw [this, Nat.mul_assoc]
    exact Nat.le_refl _
theorem szL_pos {l : List Rat} {i : Nat} (a : SzL l i) : SzL l (i + 1) := a.mono (by omega)
instance {l ps : List Rat} {i m n : Nat} [a : SzL l i] [b : SzL ps m] [c : Ln ps n] : Sz (F (gd l) ps) (2 ^ n * (i + 2 * m + 4)) := ⟨by
  rw [← rnds_F]
  refine (szQ_rnds ps (i + 1) (gd l) b.h (fun k => szQ_gd (szL_pos a) (by omega) k) 0).mono ?_
  have : 2 ^ ps.length ≤ 2 ^ n := Nat.pow_le_pow_right (by decide) c.h
  have e : i + 1 + 2 * m + 3 = i + 2 * m + 4 := by omega
  rw [e]
  exact Nat.mul_le_mul_right _ this⟩
theorem szB {r : Nat → Rat} {t : Rat} {s m n : Nat} (hr : ∀ k, szQ s (r k)) (ht : szQ m t) : szQ (2 ^ n * (s + 2 * m + 3)) (B n r t) := by
  rw [← F_B, ← rnds_F]
  have := szQ_rnds (List.replicate n t) s r (fun u hu => by rw [(List.mem_replicate.mp hu).2]; exact ht) hr 0
  rw [List.length_replicate] at this
  exact this
instance {l : List Rat} {t : Rat} {i m n : Nat} [a : SzL l i] [b : Sz t m] [c : Ln l n] : Sz (BL l t) (2 ^ n * (i + 2 * m + 4)) := ⟨by
  refine (szB (n := l.length - 1) (s := i + 1) (fun k => szQ_gd (szL_pos a) (by omega) k) b.h).mono ?_
  have : 2 ^ (l.length - 1) ≤ 2 ^ n := Nat.pow_le_pow_right (by decide) (by have := c.h; omega)
  have e : i + 1 + 2 * m + 3 = i + 2 * m + 4 := by omega
  rw [e]
  exact Nat.mul_le_mul_right _ this⟩
instance {α : Type} {f : α → Rat} {l : List α} {i : Nat} [a : ∀ x, Sz (f x) i] : SzL (l.map f) i := ⟨fun q hq => by
  obtain ⟨x, _, rfl⟩ := List.mem_map.mp hq
  exact (a x).h⟩
theorem gd_range (l : List Rat) : (List.range l.length).map (gd l) = l := List.ext_getElem (by simp) fun j h1 h2 => by simp [gd, List.getD, h2]
theorem gd_ext {l m : List Rat} (h : l.length = m.length) (h2 : ∀ j, j < l.length → gd l j = gd m j) : l = m := by
  rw [← gd_range l, ← gd_range m, ← h]
  exact List.map_congr_left fun j hj => h2 j (List.mem_range.mp hj)
instance {α : Type} {f : α → Rat} {l : List α} : QL (l.map (qD ∘ f)) (l.map f) := ⟨by simp⟩
theorem atI_qd {ds : List D} {l : List Rat} (a : QL ds l) {k : Nat} (h : k < l.length) : L2.atI ds (k : Int) = some (qD (gd l k)) := by rw [a.h, atI_map, atI_gd h]; rfl
theorem atI_qd0 {ds : List D} {l : List Rat} (a : QL ds l) (h : l ≠ []) : L2.atI ds 0 = some (qD (gd l 0)) := atI_qd a (k := 0) (List.length_pos_iff.mpr h)
theorem atI_qd1 {ds : List D} {l : List Rat} (a : QL ds l) {k : Nat} (h : k + 1 < l.length) : L2.atI ds ((k : Int) + 1) = some (qD (gd l (k + 1))) := by
  have := atI_qd a h
  rwa [Int.natCast_add] at this
theorem atI_qdm {ds : List D} {l : List Rat} (a : QL ds l) {k : Nat} (h0 : k ≠ 0) (h : k - 1 < l.length) : L2.atI ds ((k : Int) - 1) = some (qD (gd l (k - 1))) := by
  have := atI_qd a h
  have e : ((k - 1 : Nat) : Int) = (k : Int) - 1 := by omega
  rwa [e] at this
theorem atI_qdl {ds : List D} {l : List Rat} (a : QL ds l) (h : l ≠ []) : L2.atI ds (-1) = some (qD (gd l (l.length - 1))) := by rw [a.h, atI_map, atI_last h]; rfl
theorem rngD_sub {n : Nat} (h : 1 ≤ n) : rngD 0 ((n : Int) - 1) = rngD 0 ((n - 1 : Nat) : Int) := by
  have : ((n - 1 : Nat) : Int) = (n : Int) - 1 := by omega
  rw [this]
theorem rngD_add (n : Nat) : rngD 0 ((n : Int) + 1) = rngD 0 ((n + 1 : Nat) : Int) := by rw [Int.natCast_add]; rfl
/-- a row made by a comprehension over range -/
theorem comp_rng {f : D → M (Option D)} {s : DS} {n : Nat} (g : Nat → Rat) (h : ∀ k, k < n → f (.int k) s = .ok (some (qD (g k))) s) : lcGo f (rngD 0 (n : Int)) s = .ok (((List.range n).map g).map qD) s := by
  rw [lcGo_rng (g := fun k => qD (g k)) h, List.map_map]; rfl
/-- over a row -/
theorem comp_q {f : D → M (Option D)} {s : DS} {ds : List D} {l : List Rat} [a : QL ds l] (g : Rat → Rat) (h : ∀ q, q ∈ l → f (qD q) s = .ok (some (qD (g q))) s) : lcGo f ds s = .ok ((l.map g).map qD) s := by
  rw [lcGo_QL (g := fun k => qD (g k)) h, List.map_map]; rfl
theorem len_rngD (n : Nat) : (rngD 0 (n : Int)).length = n := by rw [rngD_len]; omega
end L2.Mir

set_option Elab.async false
set_option linter.all false
set_option maxRecDepth 100000
namespace L2.Mir
open PySem PySem.Spec PyProof.Rows
theorem trim_snoc0 : ∀ l : List Rat, trim (l ++ [0]) = trim l
  | [] => rfl
  | a :: l => by simp only [List.cons_append, trim, trim_snoc0 l]
theorem trim_snoc {c : Rat} (h : c ≠ 0) : ∀ l : List Rat, trim (l ++ [c]) = l ++ [c]
  | [] => by simp [trim, h]
  | a :: l => by simp only [List.cons_append, trim, trim_snoc h l]; simp
theorem take_snoc {l : List Rat} {m : Nat} (h : m < l.length) : l.take (m + 1) = l.take m ++ [gd l m] := by
  rw [List.take_add_one, List.getElem?_eq_getElem h]
  simp [gd, List.getD, h]
theorem szQ_sumTo {s : Nat} (hs : 1 ≤ s) {f : Nat → Rat} : ∀ {n : Nat}, (∀ k, k < n → szQ s (f k)) → szQ (n * (s + 1) + 1) (sumTo n f)
  | 0, _ => szQ_zero (by omega)
  | n + 1, h => by
    have h1 := szQ_sumTo hs (n := n) fun k hk => h k (by omega)
    have := h1.add (h n (by omega))
    rw [sumTo_succ]
    refine this.mono ?_
    rw [Nat.succ_mul]; omega
theorem mem_gd {l : List Rat} {q : Rat} (h : q ∈ l) : ∃ k, k < l.length ∧ q = gd l k := by
  obtain ⟨k, hk, rfl⟩ := List.getElem_of_mem h
  exact ⟨k, hk, by simp [gd, List.getD, hk]⟩
theorem gd_mem {l : List Rat} {k : Nat} (h : k < l.length) : gd l k ∈ l := by
  have : gd l k = l[k] := by simp [gd, List.getD, h]
  rw [this]; exact List.getElem_mem h
theorem ev_gd_congr {l m : List Rat} (h : ∀ k, gd l k = gd m k) (x : Rat) : ev l x = ev m x := by
  rw [ev_gd l (max l.length m.length) x (by omega), ev_gd m (max l.length m.length) x (by omega)]
  exact sumTo_congr fun k _ => by rw [h]
theorem SzL.pos {l : List Rat} {i : Nat} (a : SzL l i) (h : l ≠ []) : 1 ≤ i := by
  cases l with
  | nil => exact absurd rfl h
  | cons x l => exact szQ_pos (a.h x List.mem_cons_self)
instance {l m : List Rat} {i j : Nat} [a : SzL l i] [b : SzL m j] : SzL (padd l m) (i + j + 1) := ⟨by
  intro q hq
  obtain ⟨k, hk, rfl⟩ := mem_gd hq
  rw [gd_padd]
  rw [padd_len] at hk
  by_cases h1 : k < l.length
  · by_cases h2 : k < m.length
    · exact (a.h _ (gd_mem h1)).add (b.h _ (gd_mem h2))
    · rw [gd_big (l := m) (by omega), Rat.add_zero]; exact (a.h _ (gd_mem h1)).mono (by omega)
  · rw [gd_big (l := l) (by omega), Rat.zero_add]; exact (b.h _ (gd_mem (by omega))).mono (by omega)⟩
instance {l : List Rat} {c : Rat} {i j : Nat} [a : SzL l i] [b : Sz c j] : SzL (l.map (· * c)) (i + j) := ⟨fun q hq => by
  obtain ⟨x, hx, rfl⟩ := List.mem_map.mp hq
  exact (a.h x hx).mul b.h⟩
theorem gd_pmul_comm (l m : List Rat) (k : Nat) : gd (pmul l m) k = sumTo (k + 1) fun b => gd l (k - b) * gd m b := by
  have h : ∀ x : Rat, ev (pmul l m) x = ev (pmul m l) x := fun x => by rw [ev_pmul, ev_pmul]; exact Rat.mul_comm _ _
  have e : gd (pmul l m) k = gd (pmul m l) k := by
    have z := ev_zero (padd (pmul l m) ((pmul m l).map (-1 * ·))) fun x _ _ => by rw [ev_padd, ev_mapL, h]; grind
    by_cases hk : k < (padd (pmul l m) ((pmul m l).map (-1 * ·))).length
    · have := z _ (gd_mem hk)
      rw [gd_padd, gd_mapL] at this
      grind
    · rw [padd_len, List.length_map] at hk
      rw [gd_big (by omega), gd_big (by omega)]
  rw [e, gd_pmul]
  exact sumTo_congr fun j hj => Rat.mul_comm _ _
/-- the number k of a product, by the second one's numbers -/
theorem gd_pmul_n (l m : List Rat) (k : Nat) : gd (pmul l m) k = sumTo m.length fun b => if b ≤ k then gd l (k - b) * gd m b else 0 := by
  rw [gd_pmul_comm]
  by_cases h : m.length ≤ k + 1
  · rw [sumTo_cut (lo := 0) (hi := m.length) (by omega) h (fun j hj => by omega) (fun j h1 h2 => by rw [gd_big (l := m) h1]; grind)]
    rw [Nat.sub_zero]
    refine sumTo_congr fun j hj => ?_
    rw [Nat.zero_add, if_pos (by omega)]
  · rw [sumTo_cut (n := m.length) (lo := 0) (hi := k + 1) (by omega) (by omega) (fun j hj => by omega) (fun j h1 h2 => by rw [if_neg (by omega)])]
    rw [Nat.sub_zero]
    refine sumTo_congr fun j hj => ?_
    rw [Nat.zero_add, if_pos (by omega)]
instance {l m : List Rat} {i j n : Nat} [a : SzL l i] [b : SzL m j] [c : Ln m n] : SzL (pmul l m) (n * (i + j + 3) + 1) := ⟨by
  intro q hq
  obtain ⟨k, hk, rfl⟩ := mem_gd hq
  rw [gd_pmul_n]
  have := szQ_sumTo (s := i + j + 2) (by omega) (n := m.length) (f := fun b => if b ≤ k then gd l (k - b) * gd m b else 0) fun y hy => by
    split
    · exact ((szQ_gd (szL_pos a) (by omega) (k - y)).mul (szQ_gd (szL_pos b) (by omega) y)).mono (by omega)
    · exact szQ_zero (by omega)
  refine this.mono ?_
  have h2 := Nat.mul_le_mul_right (i + j + 3) c.h
  have e : i + j + 2 + 1 = i + j + 3 := by omega
  rw [e]; omega⟩
instance {l m : List Rat} {n k : Nat} [a : Ln l n] [b : Ln m k] : Ln (padd l m) (n + k) := ⟨by rw [padd_len]; have := a.h; have := b.h; omega⟩
instance {l m : List Rat} {n k : Nat} [a : Ln l n] [b : Ln m k] : Ln (pmul l m) (n + k) := ⟨by have := pmul_len l m; have := a.h; have := b.h; omega⟩
instance {l : List Rat} {x : Rat} {i m n : Nat} [a : SzL l i] [b : Sz x m] [c : Ln l n] : Sz (ev l x) (n * (i + m + 1) + 1) := ⟨by
  have key : ∀ l : List Rat, (∀ q ∈ l, szQ i q) → szQ (l.length * (i + m + 1) + 1) (ev l x) := by
    intro l
    induction l with
    | nil => intro _; exact szQ_zero (by omega)
    | cons a l ih =>
      intro h
      have := (h a List.mem_cons_self).add (b.h.mul (ih fun q hq => h q (List.mem_cons_of_mem _ hq)))
      rw [ev_cons]
      refine this.mono ?_
      rw [List.length_cons, Nat.succ_mul]; omega
  exact (key l a.h).mono (by have := Nat.mul_le_mul_right (i + m + 1) c.h; omega)⟩
end L2.Mir

set_option Elab.async false
set_option linter.all false
set_option maxRecDepth 100000
namespace L2.Mir
open PySem PySem.Spec PyProof.Rows
theorem sumTo_single (j : Nat) (v : Rat) : ∀ n, sumTo n (fun b => if b = j then v else 0) = if j < n then v else 0
  | 0 => by rw [if_neg (by omega)]; rfl
  | n + 1 => by
    rw [sumTo_succ, sumTo_single j v n]
    by_cases h : j < n
    · rw [if_pos h, if_neg (by omega), if_pos (by omega), Rat.add_zero]
    · by_cases h2 : n = j
      · rw [if_neg h, if_pos h2, if_pos (by omega), Rat.zero_add]
      · rw [if_neg h, if_neg h2, if_neg (by omega), Rat.add_zero]
theorem gd_set {l : List Rat} {i : Nat} {v : Rat} (h : i < l.length) (c : Nat) : gd (l.set i v) c = if c = i then v else gd l c := by
  by_cases e : c = i
  · subst e; simp [gd, List.getD, h]
  · simp only [gd, List.getD, if_neg e]
    rw [List.getElem?_set_ne (fun z => e z.symm)]
/-- what stands at c behind k whole turns and j of the next -/
def part (l m : List Rat) (k j c : Nat) : Rat := sumTo m.length fun b => if b ≤ c ∧ (c - b < k ∨ (c - b = k ∧ b < j)) then gd l (c - b) * gd m b else 0
theorem part_step (l m : List Rat) {k j : Nat} (hj : j < m.length) (c : Nat) : part l m k (j + 1) c = if c = k + j then part l m k j c + gd l k * gd m j else part l m k j c := by
  unfold part
  have e : sumTo m.length (fun b => if b ≤ c ∧ (c - b < k ∨ (c - b = k ∧ b < j + 1)) then gd l (c - b) * gd m b else 0) =
      sumTo m.length (fun b => (if b ≤ c ∧ (c - b < k ∨ (c - b = k ∧ b < j)) then gd l (c - b) * gd m b else 0) + (if b = j then (if c = k + j then gd l k * gd m j else 0) else 0)) := by
    refine sumTo_congr fun b hb => ?_
    by_cases hbj : b = j
    · subst hbj
      rw [if_pos rfl]
      by_cases hc : c = k + b
      · subst hc
        have e1 : k + b - b = k := by omega
        rw [e1, if_pos (by omega), if_neg (by omega), if_pos rfl, Rat.zero_add]
      · rw [if_neg hc, Rat.add_zero]
        by_cases h1 : b ≤ c ∧ (c - b < k ∨ (c - b = k ∧ b < b))
        · rw [if_pos h1, if_pos (by omega)]
        · rw [if_neg h1, if_neg (by omega)]
    · rw [if_neg hbj, Rat.add_zero]
      by_cases h1 : b ≤ c ∧ (c - b < k ∨ (c - b = k ∧ b < j))
      · rw [if_pos h1, if_pos (by omega)]
      · rw [if_neg h1, if_neg (by omega)]
  rw [e, sumTo_add, sumTo_single, if_pos hj]
  by_cases hc : c = k + j
  · rw [if_pos hc, if_pos hc]
  · rw [if_neg hc, if_neg hc, Rat.add_zero]
theorem part_end (l m : List Rat) (k c : Nat) : part l m k m.length c = part l m (k + 1) 0 c := by
  unfold part
  refine sumTo_congr fun b hb => ?_
  by_cases h1 : b ≤ c ∧ (c - b < k + 1 ∨ (c - b = k + 1 ∧ b < 0))
  · rw [if_pos h1, if_pos (by omega)]
  · rw [if_neg h1, if_neg (by omega)]
theorem part_zero (l m : List Rat) (c : Nat) : part l m 0 0 c = 0 := sumTo_zeroes fun b _ => by rw [if_neg (by omega)]
theorem part_all (l m : List Rat) (c : Nat) : part l m l.length 0 c = gd (pmul l m) c := by
  rw [gd_pmul_n]
  unfold part
  refine sumTo_congr fun b hb => ?_
  by_cases h1 : b ≤ c
  · rw [if_pos h1]
    by_cases h2 : c - b < l.length
    · rw [if_pos (by omega)]
    · rw [if_neg (by omega), gd_big (l := l) (by omega), Rat.zero_mul]
  · rw [if_neg (by omega), if_neg h1]
theorem szQ_part {l m : List Rat} {i j : Nat} (a : SzL l i) (b : SzL m j) (k q c : Nat) : szQ (m.length * (i + j + 3) + 1) (part l m k q c) := by
  unfold part
  have := szQ_sumTo (s := i + j + 2) (by omega) (n := m.length) (f := fun b => if b ≤ c ∧ (c - b < k ∨ (c - b = k ∧ b < q)) then gd l (c - b) * gd m b else 0) fun y hy => by
    split
    · exact ((szQ_gd (szL_pos a) (by omega) (c - y)).mul (szQ_gd (szL_pos b) (by omega) y)).mono (by omega)
    · exact szQ_zero (by omega)
  have e : i + j + 2 + 1 = i + j + 3 := by omega
  rw [e] at this
  exact this
theorem cutD_take {α : Type} (xs : List α) {k : Nat} (h : k ≤ xs.length) : cutD xs none (some (k : Int)) = xs.take k := by
  unfold cutD
  rw [HT.sIx_none, HT.sIx_nat, Nat.min_eq_left h, List.drop_zero, Nat.sub_zero]
theorem cutD_last {α : Type} (xs : List α) : cutD xs none (some (-1)) = xs.take (xs.length - 1) := by
  unfold cutD
  rw [HT.sIx_none]
  have : HT.sIx xs.length xs.length (some (-1)) = xs.length - 1 := by
    show (if (-1 : Int) < 0 then ((-1 : Int) + (xs.length : Int)).toNat else min (-1 : Int).toNat xs.length) = xs.length - 1
    rw [if_pos (by decide)]
    omega
  rw [this, List.drop_zero, Nat.sub_zero]
theorem sc_mx (a b : Nat) : (if ((b : Nat) : Int) > (a : Int) then ((b : Nat) : Int) else (a : Int)) = ((max a b : Nat) : Int) := by split <;> omega
noncomputable section
/-- the body of the two loops of a product -/
abbrev mulBody (fp ft : List D → M D) : MS := sFor (.n 4) (mRng1 (mCons (mCB bLen (mCons (mVar 1) mNil)) mNil)) (sSetI true 2 (mBin opAdd (mVar 3) (mVar 4)) (mCB fp (mCons (mBin opIxQ (mVar 2) (mBin opAdd (mVar 3) (mVar 4))) (mCons (mCB ft (mCons (mBin opIxQ (mVar 0) (mVar 3)) (mCons (mBin opIxQ (mVar 1) (mVar 4)) mNil))) mNil))))
theorem mul_loop {β : Type} {fp ft : List D → M D} {ds es : List D} {l m : List Rat} {i j N : Nat} [hl : QL ds l] [hm : QL es m] [a : SzL l i] [b : SzL m j] {x3 x4 : Sl} {s : DS} {f : Fl → DS → Res β} {X : Res β}
    (hp : ∀ (x y : Rat) (i j : Nat), szQ i x → szQ j y → i + j ≤ 8999 → fp [qD x, qD y] s = .ok (qD (x + y)) s) (ht : ∀ (x y : Rat) (i j : Nat), szQ i x → szQ j y → i + j ≤ 8999 → ft [qD x, qD y] s = .ok (qD (x * y)) s)
    (hN : l.length + m.length - 1 ≤ N) (hlm : l.length ≤ 1000) (hmm : m.length ≤ 1000) (hsz : (m.length + 1) * (i + j + 3) + 1 ≤ 8999)
    (fin : ∀ (found : List Rat) (x3 x4 : Sl), found.length = N → (∀ c, gd found c = gd (pmul l m) c) → SzL found (m.length * (i + j + 3) + 1) → f (.nx [.val (.tup ds), .val (.tup es), .own (found.map qD), x3, x4]) s = X) :
    (forGo (.n 3) (mulBody fp ft) (rngD 0 (l.length : Int)) [.val (.tup ds), .val (.tup es), .own ((List.replicate N 0).map qD), x3, x4] s).bind f = X := by
  refine for_bindR (fun k env => ∃ (found : List Rat) (x3 x4 : Sl), env = [.val (.tup ds), .val (.tup es), .own (found.map qD), x3, x4] ∧ found.length = N ∧ ∀ c, gd found c = part l m k 0 c) ?_ ?_ ?_
  · refine ⟨_, x3, x4, rfl, by simp, fun c => ?_⟩
    rw [part_zero]
    by_cases h : c < N
    · simp [gd, List.getD, h]
    · rw [gd_big (by simpa using h)]
  · rintro k env hk ⟨found, x3, x4, rfl, h1, h2⟩
    have go : ∃ (found' : List Rat) (y4 : Sl), mulBody fp ft [.val (.tup ds), .val (.tup es), .own (found.map qD), .val (.int k), x4] s = .ok (.nx [.val (.tup ds), .val (.tup es), .own (found'.map qD), .val (.int k), y4]) s ∧ found'.length = N ∧ ∀ c, gd found' c = part l m k m.length c := by
      have inner : ∀ (rest : Nat) (j' : Nat) (found : List Rat) (x4 : Sl), j' + rest = m.length → found.length = N → (∀ c, gd found c = part l m k j' c) →
          ∃ (found' : List Rat) (y4 : Sl), forGo (.n 4) (sSetI true 2 (mBin opAdd (mVar 3) (mVar 4)) (mCB fp (mCons (mBin opIxQ (mVar 2) (mBin opAdd (mVar 3) (mVar 4))) (mCons (mCB ft (mCons (mBin opIxQ (mVar 0) (mVar 3)) (mCons (mBin opIxQ (mVar 1) (mVar 4)) mNil))) mNil)))) ((List.range' j' rest).map fun (i : Nat) => D.int i) [.val (.tup ds), .val (.tup es), .own (found.map qD), .val (.int k), x4] s
            = .ok (.nx [.val (.tup ds), .val (.tup es), .own (found'.map qD), .val (.int k), y4]) s ∧ found'.length = N ∧ ∀ c, gd found' c = part l m k m.length c := by
        intro rest
        induction rest with
        | zero =>
          intro j' found x4 hj hf hg
          have : j' = m.length := by omega
          subst this
          exact ⟨found, x4, rfl, hf, hg⟩
        | succ rest ih =>
          intro j' found x4 hj hf hg
          have hjm : j' < m.length := by omega
          have hkj : k + j' < found.length := by omega
          obtain ⟨f2, y4, g1, g2, g3⟩ := ih (j' + 1) (found.set (k + j') (gd found (k + j') + gd l k * gd m j')) (.val (.int j')) (by omega) (by simpa using hf) (fun c => by
            rw [gd_set hkj, part_step l m hjm, hg, hg]
            by_cases hc : c = k + j'
            · rw [if_pos hc, if_pos hc, hc]
            · rw [if_neg hc, if_neg hc])
          refine ⟨f2, y4, ?_, g2, g3⟩
          rw [List.range'_succ, List.map_cons]
          unfold forGo
          have t1 := ht (gd l k) (gd m j') i j (a.h _ (gd_mem hk)) (b.h _ (gd_mem hjm)) (by have : i + j + 3 ≤ (m.length + 1) * (i + j + 3) := Nat.le_mul_of_pos_left _ (by omega); omega)
          have t2 := hp (gd found (k + j')) (gd l k * gd m j') (m.length * (i + j + 3) + 1) (i + j) (by rw [hg]; exact szQ_part a b k j' _) ((a.h _ (gd_mem hk)).mul (b.h _ (gd_mem hjm))) (by rw [Nat.succ_mul] at hsz; omega)
          have e1 : ((k : Int) + (j' : Int)) = ((k + j' : Nat) : Int) := by simp
          have e2 : ixN (found.map qD).length ((k + j' : Nat) : Int) = some (k + j') := by
            unfold ixN
            rw [if_pos (by omega), if_pos (by rw [List.length_map]; omega), Int.toNat_natCast]
          have e3 := atI_qd (ds := found.map qD) (l := found) ⟨rfl⟩ hkj
          simp [-Int.natCast_add, e1, e3, e2, atI_qd hl hk, atI_qd hm hjm, t1, t2, -List.length_map]
          simpa [List.map_set] using g1
      obtain ⟨f2, y4, g1, g2, g3⟩ := inner m.length 0 found x4 (by omega) h1 h2
      refine ⟨f2, y4, ?_, g2, g3⟩
      have gR : RngOk (m.length : Int) := RngOk.small (by omega) (by omega)
      have gL : LenOk m.length := LenOk.small (by omega)
      simp only [mulBody, sFor]
      simp [len_QL hm, gR, gL]
      rw [rngD_nat]
      rw [List.range_eq_range']
      exact g1
    obtain ⟨f2, y4, g1, g2, g3⟩ := go
    exact ⟨_, .inl g1, f2, .val (.int k), y4, rfl, g2, fun c => by rw [g3, part_end]⟩
  · rintro env ⟨found, x3, x4, rfl, h1, h2⟩
    refine fin found x3 x4 h1 (fun c => by rw [h2, part_all]) ⟨fun q hq => ?_⟩
    obtain ⟨c, hc, rfl⟩ := mem_gd hq
    rw [h2]
    exact szQ_part a b _ _ _
end
instance : QD (.tup [.int 0, .int 1]) 0 := ⟨by rw [qD_int]; rfl⟩
instance : QD (.tup [.int 1, .int 1]) 1 := ⟨by rw [qD_int]; rfl⟩
instance : QD (.tup [.int 2, .int 1]) 2 := ⟨by rw [qD_int]; rfl⟩
instance : QD (.tup [.int 3, .int 1]) 3 := ⟨by rw [qD_int]; rfl⟩
instance : QD (.tup [.int 4, .int 1]) 4 := ⟨by rw [qD_int]; rfl⟩
instance : QD (.tup [.int 5, .int 1]) 5 := ⟨by rw [qD_int]; rfl⟩
instance : QD (.tup [.int 6, .int 1]) 6 := ⟨by rw [qD_int]; rfl⟩
instance : QD (.tup [.int 7, .int 1]) 7 := ⟨by rw [qD_int]; rfl⟩
instance : QD (.tup [.int 8, .int 1]) 8 := ⟨by rw [qD_int]; rfl⟩
instance : QD (.tup [.int 9, .int 1]) 9 := ⟨by rw [qD_int]; rfl⟩
instance : QD (.tup [.int 10, .int 1]) 10 := ⟨by rw [qD_int]; rfl⟩
instance : QD (.tup [.int 11, .int 1]) 11 := ⟨by rw [qD_int]; rfl⟩
instance : QD (.tup [.int 12, .int 1]) 12 := ⟨by rw [qD_int]; rfl⟩
instance : QD (.tup [.int (-1), .int 1]) (-1) := ⟨by rw [qD_int]; rfl⟩
instance : QD (.tup [.int (-2), .int 1]) (-2) := ⟨by rw [qD_int]; rfl⟩
instance : QD (.tup [.int (-3), .int 1]) (-3) := ⟨by rw [qD_int]; rfl⟩
instance : QD (.tup [.int (-4), .int 1]) (-4) := ⟨by rw [qD_int]; rfl⟩
theorem qD_frac (a b : Int) (hb : 0 < b) (hg : Int.gcd a b = 1) : D.tup [.int a, .int b] = qD (Rat.divInt a b) := by
  rw [qD_divInt a b hb, hg]; simp
theorem divInt_frac (a b : Int) : Rat.divInt a b = (a : Rat) / (b : Rat) := Rat.divInt_eq_div a b
instance : QD (.tup [.int 1, .int 2]) (1 / 2) := ⟨by rw [qD_frac 1 2 (by decide) (by decide), divInt_frac]; rfl⟩
instance : QD (.tup [.int 1, .int 3]) (1 / 3) := ⟨by rw [qD_frac 1 3 (by decide) (by decide), divInt_frac]; rfl⟩
instance : QD (.tup [.int 2, .int 3]) (2 / 3) := ⟨by rw [qD_frac 2 3 (by decide) (by decide), divInt_frac]; rfl⟩
instance : QD (.tup [.int 1, .int 4]) (1 / 4) := ⟨by rw [qD_frac 1 4 (by decide) (by decide), divInt_frac]; rfl⟩
instance : QD (.tup [.int 3, .int 4]) (3 / 4) := ⟨by rw [qD_frac 3 4 (by decide) (by decide), divInt_frac]; rfl⟩
instance : QD (.tup [.int 3, .int 5]) (3 / 5) := ⟨by rw [qD_frac 3 5 (by decide) (by decide), divInt_frac]; rfl⟩
instance : QD (.tup [.int 5, .int 6]) (5 / 6) := ⟨by rw [qD_frac 5 6 (by decide) (by decide), divInt_frac]; rfl⟩
instance : QD (.tup [.int 1, .int 5]) (1 / 5) := ⟨by rw [qD_frac 1 5 (by decide) (by decide), divInt_frac]; rfl⟩
instance : QD (.tup [.int 2, .int 5]) (2 / 5) := ⟨by rw [qD_frac 2 5 (by decide) (by decide), divInt_frac]; rfl⟩
instance : QD (.tup [.int 4, .int 5]) (4 / 5) := ⟨by rw [qD_frac 4 5 (by decide) (by decide), divInt_frac]; rfl⟩
instance : QD (.tup [.int 3, .int 2]) (3 / 2) := ⟨by rw [qD_frac 3 2 (by decide) (by decide), divInt_frac]; rfl⟩
instance : QD (.tup [.int 5, .int 2]) (5 / 2) := ⟨by rw [qD_frac 5 2 (by decide) (by decide), divInt_frac]; rfl⟩
instance : QD (.tup [.int 1, .int 6]) (1 / 6) := ⟨by rw [qD_frac 1 6 (by decide) (by decide), divInt_frac]; rfl⟩
instance : QD (.tup [.int 1, .int 8]) (1 / 8) := ⟨by rw [qD_frac 1 8 (by decide) (by decide), divInt_frac]; rfl⟩
instance : QD (.tup [.int 3, .int 8]) (3 / 8) := ⟨by rw [qD_frac 3 8 (by decide) (by decide), divInt_frac]; rfl⟩
instance : QD (.tup [.int 3, .int 16]) (3 / 16) := ⟨by rw [qD_frac 3 16 (by decide) (by decide), divInt_frac]; rfl⟩
instance : QD (.tup [.int 1, .int 9]) (1 / 9) := ⟨by rw [qD_frac 1 9 (by decide) (by decide), divInt_frac]; rfl⟩
end L2.Mir

set_option Elab.async false
set_option linter.all false
set_option maxRecDepth 100000
namespace L2.Mir
open PySem PySem.Spec PyProof.Rows
/-! ### whole numbers among parts -/
def intB (t : Nat) (q : Rat) : Prop := q.den = 1 ∧ q.num.natAbs < 2 ^ t
theorem intB_int {a : Int} {t : Nat} (h : a.natAbs < 2 ^ t) : intB t (a : Rat) := ⟨Rat.den_intCast _, by rw [Rat.num_intCast]; exact h⟩
theorem intB_eq {t : Nat} {q : Rat} (h : intB t q) : q = (q.num : Rat) := by
  apply Rat.ext
  · rw [Rat.num_intCast]
  · rw [Rat.den_intCast, h.1]
theorem intB.sz {t : Nat} {q : Rat} (h : intB t q) (ht : 1 ≤ t) : szQ t q := ⟨h.2, by rw [h.1]; exact Nat.lt_of_lt_of_le (by decide : 1 < 2 ^ 1) (Nat.pow_le_pow_right (by decide) ht)⟩
theorem intB.mono {t u : Nat} {q : Rat} (h : intB t q) (hu : t ≤ u) : intB u q := ⟨h.1, Nat.lt_of_lt_of_le h.2 (Nat.pow_le_pow_right (by decide) hu)⟩
theorem intB.neg {t : Nat} {q : Rat} (h : intB t q) : intB t (-q) := ⟨h.1, by rw [Rat.neg_num, Int.natAbs_neg]; exact h.2⟩
theorem intB_zero (t : Nat) : intB t 0 := ⟨rfl, Nat.pow_pos (by decide)⟩
theorem intB.add {t : Nat} {p q : Rat} (hp : intB t p) (hq : intB t q) : intB (t + 1) (p + q) := by
  rw [intB_eq hp, intB_eq hq, ← Rat.intCast_add]
  exact intB_int (by have := hp.2; have := hq.2; rw [Nat.pow_succ]; omega)
/-- times 0, 1 or -1 -/
def unit (c : Rat) : Prop := c = 0 ∨ c = 1 ∨ c = -1
theorem intB.mul_unit {t : Nat} {q c : Rat} (h : intB t q) (hc : unit c) : intB t (q * c) := by
  rcases hc with rfl | rfl | rfl
  · rw [Rat.mul_zero]; exact intB_zero t
  · rw [Rat.mul_one]; exact h
  · have : q * -1 = -q := by grind
    rw [this]; exact h.neg
theorem gd_two (c d : Rat) : ∀ b : Nat, gd [c, d] b = if b = 0 then c else if b = 1 then d else 0
  | 0 => rfl
  | 1 => rfl
  | b + 2 => by rw [if_neg (by omega), if_neg (by omega), gd_big (by simp)]
theorem intB_pmul {l : List Rat} {t : Nat} {c d : Rat} (h : ∀ q ∈ l, intB t q) (hc : unit c) (hd : unit d) : ∀ q ∈ pmul l [c, d], intB (t + 1) q := by
  intro q hq
  obtain ⟨k, hk, rfl⟩ := mem_gd hq
  rw [gd_pmul_n]
  have hg : ∀ j, intB t (gd l j) := fun j => by
    by_cases hj : j < l.length
    · exact h _ (gd_mem hj)
    · rw [gd_big (by omega)]; exact intB_zero t
  have e : ([c, d] : List Rat).length = 2 := rfl
  rw [e]
  simp only [sumTo]
  have e0 : gd [c, d] 0 = c := rfl
  have e1 : gd [c, d] 1 = d := rfl
  rw [e0, e1, if_pos (by omega), Nat.sub_zero, Rat.zero_add]
  by_cases h1 : 1 ≤ k
  · rw [if_pos h1]
    exact ((hg k).mul_unit hc).add ((hg (k - 1)).mul_unit hd)
  · rw [if_neg h1, Rat.add_zero]
    exact ((hg k).mul_unit hc).mono (by omega)
/-- so many times a factor -/
def its (b : List Rat) : Nat → List Rat → List Rat
  | 0, l => l
  | n + 1, l => pmul (its b n l) b
theorem ev_its (b : List Rat) (x : Rat) : ∀ (n : Nat) (l : List Rat), ev (its b n l) x = ev l x * ev b x ^ n
  | 0, l => by rw [its, Rat.pow_zero, Rat.mul_one]
  | n + 1, l => by rw [its, ev_pmul, ev_its b x n l, Rat.pow_succ, Rat.mul_assoc]
theorem its_intB {c d : Rat} (hc : unit c) (hd : unit d) {l : List Rat} {t : Nat} (h : ∀ q ∈ l, intB t q) : ∀ n, ∀ q ∈ its [c, d] n l, intB (t + n) q
  | 0 => h
  | n + 1 => intB_pmul (its_intB hc hd h n) hc hd
theorem its_len (c d : Rat) {l : List Rat} (hl : l ≠ []) : ∀ n, its [c, d] n l ≠ [] ∧ (its [c, d] n l).length ≤ l.length + n
  | 0 => ⟨hl, by simp [its]⟩
  | n + 1 => by
    obtain ⟨h1, h2⟩ := its_len c d hl n
    have key : ∀ m : List Rat, m ≠ [] → pmul m [c, d] ≠ [] ∧ (pmul m [c, d]).length ≤ m.length + 1 := by
      intro m
      induction m with
      | nil => intro h; exact absurd rfl h
      | cons a m ih =>
        intro _
        simp only [pmul, padd_len, List.length_map, List.length_cons, List.length_nil]
        refine ⟨fun z => ?_, ?_⟩
        · have := congrArg List.length z
          rw [padd_len] at this
          simp at this
        · by_cases hm : m = []
          · subst hm; simp [pmul]
          · have := (ih hm).2; omega
    obtain ⟨k1, k2⟩ := key _ h1
    exact ⟨k1, by rw [its]; omega⟩
theorem chs_le : ∀ n k : Nat, chs n k ≤ 2 ^ n
  | n, 0 => by simp; exact Nat.one_le_two_pow
  | 0, k + 1 => by simp [chs]
  | n + 1, k + 1 => by
    have := chs_le n k
    have := chs_le n (k + 1)
    simp only [chs, Nat.pow_succ]; omega
/-- the polynomial of one number's lot -/
def basK (n k : Nat) : List Rat := its [1, -1] (n - k) (its [0, 1] k [(chs n k : Rat)])
theorem ev_basK (n k : Nat) (x : Rat) : ev (basK n k) x = bterm n x k := by
  unfold basK bterm
  rw [ev_its, ev_its]
  simp only [ev_cons, ev_nil]
  have e1 : (0 : Rat) + x * (1 + x * 0) = x := by grind
  have e2 : (1 : Rat) + x * (-1 + x * 0) = 1 - x := by grind
  have e3 : (chs n k : Rat) + x * 0 = chs n k := by grind
  rw [e1, e2, e3, Rat.mul_assoc]
theorem basK_intB (n k : Nat) (hk : k ≤ n) : ∀ q ∈ basK n k, intB (2 * n + 1) q := by
  have h0 : ∀ q ∈ [(chs n k : Rat)], intB (n + 1) q := by
    intro q hq
    rw [List.mem_singleton] at hq
    subst hq
    have := intB_int (a := (chs n k : Int)) (t := n + 1) (by rw [Int.natAbs_natCast, Nat.pow_succ]; have := chs_le n k; have := Nat.one_le_two_pow (n := n); omega)
    rwa [Rat.intCast_natCast] at this
  have h1 := its_intB (c := 0) (d := 1) (.inl rfl) (.inr (.inl rfl)) h0 k
  have h2 := its_intB (c := 1) (d := -1) (.inr (.inl rfl)) (.inr (.inr rfl)) h1 (n - k)
  intro q hq
  exact (h2 q hq).mono (by omega)
theorem basK_len (n k : Nat) (hk : k ≤ n) : (basK n k).length ≤ n + 1 := by
  have h1 := its_len 0 1 (l := [(chs n k : Rat)]) (by simp) k
  have h2 := its_len 1 (-1) h1.1 (n - k)
  simp at h1
  have := h2.2
  unfold basK
  omega
/-- all together -/
def polK (n : Nat) (r : Nat → Rat) : Nat → List Rat
  | 0 => []
  | j + 1 => padd (polK n r j) ((basK n j).map (· * r j))
theorem ev_polK (n : Nat) (r : Nat → Rat) (x : Rat) : ∀ j, ev (polK n r j) x = sumTo j fun k => bterm n x k * r k
  | 0 => rfl
  | j + 1 => by rw [polK, ev_padd, ev_polK n r x j, ev_mapR, ev_basK, sumTo_succ]
theorem ev_polK_all (n : Nat) (r : Nat → Rat) (x : Rat) : ev (polK n r (n + 1)) x = B n r x := by rw [ev_polK, B_sum]
theorem polK_sz {n : Nat} {r : Nat → Rat} {i : Nat} (hr : ∀ k, k ≤ n → szQ i (r k)) : ∀ j, j ≤ n + 1 → SzL (polK n r j) (j * (2 * n + 2 + i) + 1) ∧ (polK n r j).length ≤ n + 1
  | 0, _ => ⟨⟨by simp [polK]⟩, by simp [polK]⟩
  | j + 1, hj => by
    obtain ⟨h1, h2⟩ := polK_sz hr j (by omega)
    haveI := h1
    haveI : SzL (basK n j) (2 * n + 1) := ⟨fun q hq => (basK_intB n j (by omega) q hq).sz (by omega)⟩
    haveI : Sz (r j) i := ⟨hr j (by omega)⟩
    refine ⟨(inferInstance : SzL (padd (polK n r j) ((basK n j).map (· * r j))) _).mono ?_, ?_⟩
    · have e := Nat.add_mul j 1 (2 * n + 2 + i); omega
    · rw [polK, padd_len, List.length_map]
      have := basK_len n j (by omega)
      omega
/-- the polynomial of a row -/
def lawP (l : List Rat) : List Rat := trim (polK (l.length - 1) (gd l) l.length)
theorem ev_lawP {l : List Rat} (h : l ≠ []) (x : Rat) : ev (lawP l) x = BL l x := by
  have hp := List.length_pos_iff.mpr h
  unfold lawP BL
  rw [ev_trim]
  have := ev_polK_all (l.length - 1) (gd l) x
  rwa [Nat.sub_add_cancel hp] at this
theorem lawP_eq {l : List Rat} (h : l ≠ []) {p : List Rat} (hp : ∀ x, ev p x = BL l x) : trim p = lawP l := by
  have e : lawP l = trim (lawP l) := by unfold lawP; rw [trim_trim]
  rw [e]
  exact trim_ext fun x => by rw [hp, ev_lawP h]
theorem trim_lawP (l : List Rat) : trim (lawP l) = lawP l := by unfold lawP; rw [trim_trim]
instance {l : List Rat} {i n : Nat} [a : SzL l i] [c : Ln l n] : SzL (lawP l) (n * (2 * n + i + 3) + 1) := ⟨by
  have h1 := (polK_sz (n := l.length - 1) (r := gd l) (i := i + 1) (fun k _ => szQ_gd (szL_pos a) (by omega) k) l.length (by omega)).1
  intro q hq
  refine (h1.h q (trim_mem hq)).mono ?_
  have h2 : l.length * (2 * (l.length - 1) + 2 + (i + 1)) ≤ n * (2 * n + i + 3) := Nat.mul_le_mul c.h (by have := c.h; omega)
  omega⟩
instance {l : List Rat} {n : Nat} [c : Ln l n] : Ln (lawP l) n := ⟨by
  by_cases h : l = []
  · subst h; simp [lawP, polK]
  · have hp := List.length_pos_iff.mpr h
    unfold lawP
    refine Nat.le_trans (trim_len _) ?_
    have key : ∀ (j : Nat), j ≤ l.length - 1 + 1 → (polK (l.length - 1) (gd l) j).length ≤ l.length - 1 + 1 := by
      intro j
      induction j with
      | zero => intro _; simp [polK]
      | succ j ih =>
        intro hj
        rw [polK, padd_len, List.length_map]
        have := basK_len (l.length - 1) j (by omega)
        have := ih (by omega)
        omega
    have := key l.length (by omega)
    have := c.h
    omega⟩
/-- powers -/
def ppow (b : List Rat) (n : Nat) : List Rat := trim (its b n [1])
theorem ppow_succ (b : List Rat) (n : Nat) : trim (pmul (ppow b n) b) = ppow b (n + 1) := by
  unfold ppow
  exact trim_ext fun x => by rw [ev_pmul, ev_trim, its, ev_pmul]
theorem ev_ppow (b : List Rat) (n : Nat) (x : Rat) : ev (ppow b n) x = ev b x ^ n := by
  unfold ppow
  rw [ev_trim, ev_its]; simp only [ev_cons, ev_nil]; grind
theorem ppow_sz {c d : Rat} (hc : unit c) (hd : unit d) (n : Nat) : SzL (ppow [c, d] n) (n + 1) := ⟨fun q hq => by
  have := its_intB hc hd (l := [1]) (t := 1) (by intro q hq; rw [List.mem_singleton] at hq; subst hq; exact ⟨rfl, by decide⟩) n q (trim_mem hq)
  exact (this.mono (by omega)).sz (by omega)⟩
theorem ppow_len (c d : Rat) (n : Nat) : (ppow [c, d] n).length ≤ n + 1 := by
  have := (its_len c d (l := [1]) (by simp) n).2
  refine Nat.le_trans (trim_len _) ?_
  simp at this; omega
end L2.Mir

set_option Elab.async false
set_option linter.all false
set_option maxRecDepth 100000
namespace L2.Mir
open PySem PySem.Spec PyProof.Rows
/-! ### loops, the turn told by what follows it -/
theorem cps_ex {Bd : MS} {env : SE} {s : DS} {P : SE → Prop} (h : ∀ (g : Fl → DS → Res Prop) (Y : Res Prop), (∀ env', P env' → g (.nx env') s = Y) → (Bd env s).bind g = Y) : ∃ env', Bd env s = .ok (.nx env') s ∧ P env' := by
  have := h (fun fl s' => .ok (∃ env', fl = .nx env' ∧ s' = s ∧ P env') s) (.ok True s) (fun env' hp => by
    congr 1
    exact propext ⟨fun _ => trivial, fun _ => ⟨env', rfl, rfl, hp⟩⟩)
  cases q : Bd env s with
  | ok fl s' =>
    rw [q] at this
    simp only [bind_ok, Res.ok.injEq, and_true] at this
    obtain ⟨env', rfl, rfl, hp⟩ := of_eq_true this
    exact ⟨env', rfl, hp⟩
  | exc x s' => rw [q] at this; cases this
  | no => rw [q] at this; cases this
theorem for_cR {β : Type} {i : Nat} {Bd : MS} {n : Nat} {env : SE} {s : DS} {f : Fl → DS → Res β} {X : Res β} (P : Nat → SE → Prop) (h0 : P 0 env)
    (step : ∀ (k : Nat) (env : SE), k < n → P k env → ∀ (g : Fl → DS → Res Prop) (Y : Res Prop), (∀ env', P (k + 1) env' → g (.nx env') s = Y) → (Bd (env.set i (.val (.int k))) s).bind g = Y)
    (fin : ∀ env', P n env' → f (.nx env') s = X) : (forGo (.n i) Bd (rngD 0 (n : Int)) env s).bind f = X :=
  for_bindR P h0 (fun k env hk hP => let ⟨env', h1, h2⟩ := cps_ex (P := P (k + 1)) (step k env hk hP); ⟨env', .inl h1, h2⟩) fin
/-- from lo on -/
theorem for_cL {β : Type} {i : Nat} {Bd : MS} {lo hi : Nat} {env : SE} {s : DS} {f : Fl → DS → Res β} {X : Res β} (P : Nat → SE → Prop) (hlo : lo ≤ hi) (h0 : P lo env)
    (step : ∀ (k : Nat) (env : SE), lo ≤ k → k < hi → P k env → ∀ (g : Fl → DS → Res Prop) (Y : Res Prop), (∀ env', P (k + 1) env' → g (.nx env') s = Y) → (Bd (env.set i (.val (.int k))) s).bind g = Y)
    (fin : ∀ env', P hi env' → f (.nx env') s = X) : (forGo (.n i) Bd (rngD (lo : Int) (hi : Int)) env s).bind f = X := by
  refine for_bind (fun k env => P (lo + k) env) h0 (fun k env d hd hP => ?_) fun env' h => fin env' (by
    have e : (rngD (lo : Int) (hi : Int)).length = hi - lo := by rw [rngD_len]; omega
    rw [e] at h
    rwa [Nat.add_sub_cancel' hlo] at h)
  have hk : k < hi - lo := by
    by_cases h : k < hi - lo
    · exact h
    · rw [List.getElem?_eq_none (by rw [rngD_len]; omega)] at hd; cases hd
  have e : ((hi : Int) - (lo : Int)).toNat = hi - lo := by omega
  unfold rngD at hd
  rw [e, List.getElem?_map, List.getElem?_range hk] at hd
  simp only [Option.map_some, Option.some.injEq] at hd
  subst hd
  obtain ⟨env', h1, h2⟩ := cps_ex (P := P (lo + k + 1)) (step (lo + k) env (by omega) (by omega) hP)
  refine ⟨_, env', rfl, .inl ?_, by rwa [Nat.add_assoc] at h2⟩
  have e2 : ((lo : Int) + (k : Int)) = ((lo + k : Nat) : Int) := by simp
  show Bd (env.set i (.val (.int ((lo : Int) + (k : Int))))) s = _
  rw [e2]
  exact h1
theorem for_cQ {β : Type} {i : Nat} {Bd : MS} {ds : List D} {l : List Rat} (hq : QL ds l) {env : SE} {s : DS} {f : Fl → DS → Res β} {X : Res β} (P : Nat → SE → Prop) (h0 : P 0 env)
    (step : ∀ (k : Nat) (env : SE), k < l.length → P k env → ∀ (g : Fl → DS → Res Prop) (Y : Res Prop), (∀ env', P (k + 1) env' → g (.nx env') s = Y) → (Bd (env.set i (.val (qD (gd l k)))) s).bind g = Y)
    (fin : ∀ env', P l.length env' → f (.nx env') s = X) : (forGo (.n i) Bd ds env s).bind f = X :=
  for_bindQ P h0 (fun k env hk hP => let ⟨env', h1, h2⟩ := cps_ex (P := P (k + 1)) (step k env hk hP); ⟨env', .inl h1, h2⟩) fin
theorem while_c {β : Type} {c : VE → M Bool} {Bd : MS} {fuel : Nat} {env : SE} {s : DS} {f : Fl → DS → Res β} {X : Res β} (P : Nat → SE → Prop) (Q : SE → Prop) {m : Nat} (h0 : P m env) (hm : m < fuel)
    (step : ∀ (m : Nat) (env : SE), P m env → (c (viewE env) s = .ok false s ∧ Q env) ∨ (c (viewE env) s = .ok true s ∧ ∃ m', m' < m ∧ ∀ (g : Fl → DS → Res Prop) (Y : Res Prop), (∀ env', P m' env' → g (.nx env') s = Y) → (Bd env s).bind g = Y))
    (fin : ∀ env', Q env' → f (.nx env') s = X) : (whileGo c Bd fuel env s).bind f = X :=
  while_bind P Q h0 hm (fun m env hP => by
    rcases step m env hP with h | ⟨h1, m', h2, h3⟩
    · exact .inl h
    · obtain ⟨env', e1, e2⟩ := cps_ex (P := P m') h3
      exact .inr ⟨h1, env', m', e1, h2, e2⟩) fin
end L2.Mir

set_option Elab.async false
set_option linter.all false
set_option maxRecDepth 100000
namespace L2.Mir
open PySem PySem.Spec PyProof.Rows
theorem szQ_nat {k b : Nat} (h : k < 2 ^ b) (hb : 1 ≤ b) : szQ b (k : Rat) := by
  have := intB_int (a := (k : Int)) (t := b) (by simpa using h)
  rw [Rat.intCast_natCast] at this
  exact this.sz hb
theorem lt_two_pow (k : Nat) : k < 2 ^ k := Nat.lt_two_pow_self
def pieceL (l : List Rat) (a b : Rat) : List Rat := (List.range l.length).map fun k => F (gd l) (List.replicate (l.length - 1 - k) a ++ List.replicate k b)
@[simp] theorem pieceL_len (l : List Rat) (a b : Rat) : (pieceL l a b).length = l.length := by simp [pieceL]
theorem BL_piece {l : List Rat} (h : l ≠ []) (a b t : Rat) : BL (pieceL l a b) t = BL l ((1 - t) * a + t * b) := by
  have hp := List.length_pos_iff.mpr h
  unfold BL
  rw [pieceL_len]
  have := piece_B (gd l) a b t (l.length - 1) []
  simp only [List.nil_append] at this
  rw [F_B] at this
  rw [← this]
  refine B_congr fun k hk => ?_
  unfold pieceL
  rw [gd_map_range _ (by omega)]
instance {l : List Rat} {a b : Rat} {i j k n : Nat} [sl : SzL l i] [sa : Sz a j] [sb : Sz b k] [ln : Ln l n] : SzL (pieceL l a b) (2 ^ n * (i + 2 * (max j k) + 4)) := ⟨fun q hq => by
  obtain ⟨m, hm, rfl⟩ := List.mem_map.mp hq
  have hm := List.mem_range.mp hm
  haveI : Ln (List.replicate (l.length - 1 - m) a ++ List.replicate m b) n := ⟨by have := ln.h; simp; omega⟩
  exact (inferInstance : Sz (F (gd l) (List.replicate (l.length - 1 - m) a ++ List.replicate m b)) _).h⟩
instance {l : List Rat} {a b : Rat} {n : Nat} [ln : Ln l n] : Ln (pieceL l a b) n := ⟨by have := ln.h; simpa using this⟩
def slopeL (l : List Rat) : List Rat := if l.length - 1 = 0 then [0] else (List.range (l.length - 1)).map fun k => ((l.length - 1 : Nat) : Rat) * (gd l (k + 1) - gd l k)
instance {l : List Rat} {i n : Nat} [sl : SzL l i] [ln : Ln l n] : SzL (slopeL l) (n + 2 * i + 4) := ⟨fun q hq => by
  unfold slopeL at hq
  have := ln.h
  split at hq
  · rw [List.mem_singleton] at hq; subst hq; exact szQ_zero (by omega)
  · obtain ⟨m, hm, rfl⟩ := List.mem_map.mp hq
    have h1 := szQ_nat (k := l.length - 1) (b := n) (Nat.lt_of_le_of_lt (by omega) (lt_two_pow n)) (by omega)
    have h2 := (szQ_gd (szL_pos sl) (by omega) (m + 1)).sub (szQ_gd (szL_pos sl) (by omega) m)
    exact (h1.mul h2).mono (by omega)⟩
instance {l : List Rat} {n : Nat} [ln : Ln l n] : Ln (slopeL l) (n + 1) := ⟨by
  have := ln.h
  unfold slopeL
  split
  · simp
  · simp; omega⟩
theorem slopeL_ne (l : List Rat) : slopeL l ≠ [] := by
  unfold slopeL
  split
  · simp
  · rename_i h
    intro z
    have := congrArg List.length z
    simp at this
    omega
theorem slopeL_len {l : List Rat} (h : l ≠ []) : (slopeL l).length = max 1 (l.length - 1) := by
  have := List.length_pos_iff.mpr h
  unfold slopeL
  split
  · simp; omega
  · simp; omega
theorem BL_slope {l : List Rat} (h : l ≠ []) (t : Rat) : BL (slopeL l) t = ev (pder (lawP l)) t := by
  have hp := List.length_pos_iff.mpr h
  by_cases h1 : l.length - 1 = 0
  · have e : slopeL l = [0] := by unfold slopeL; rw [if_pos h1]
    rw [e]
    have e2 : ∀ x, ev (lawP l) x = ev [gd l 0] x := fun x => by
      rw [ev_lawP h]; unfold BL; rw [h1]; simp only [B, ev_cons, ev_nil]; grind
    rw [pder_ext e2]
    rfl
  · have e2 : ∀ x, ev (lawP l) x = B (l.length - 1 - 1 + 1) (gd l) x := fun x => by
      rw [ev_lawP h]
      have : l.length - 1 - 1 + 1 = l.length - 1 := by omega
      rw [this]
    rw [pder_B e2]
    have e3 : l.length - 1 - 1 + 1 = l.length - 1 := by omega
    rw [e3]
    unfold BL
    have e4 : (slopeL l).length - 1 = l.length - 1 - 1 := by unfold slopeL; rw [if_neg h1]; simp
    rw [e4, ← B_mul]
    refine B_congr fun k hk => ?_
    unfold slopeL
    rw [if_neg h1, gd_map_range _ (by omega)]
instance {l : List Rat} {i n : Nat} [sl : SzL l i] [ln : Ln l n] : SzL (raiseL l) (2 * i + 4 * n + 9) := ⟨fun q hq => by
  obtain ⟨k, hk, rfl⟩ := List.mem_map.mp hq
  have hk := List.mem_range.mp hk
  have hn := ln.h
  unfold rise
  have f1 : ∀ j, j ≤ n + 1 → szQ (n + 1) (j : Rat) := fun j hj => szQ_nat (Nat.lt_of_le_of_lt hj (lt_two_pow _)) (by omega)
  have g : ∀ j, szQ (i + 1) (gd l j) := fun j => szQ_gd (szL_pos sl) (by omega) j
  have t : ∀ a b j : Nat, a ≤ n + 1 → b ≤ n + 1 → szQ (n + 1 + (n + 1) + (i + 1)) ((a : Rat) / (b : Rat) * gd l j) := fun a b j ha hb => by
    haveI : Sz (a : Rat) (n + 1) := ⟨f1 a ha⟩
    haveI : Sz (b : Rat) (n + 1) := ⟨f1 b hb⟩
    haveI : Sz (gd l j) (i + 1) := ⟨g j⟩
    exact (inferInstance : Sz ((a : Rat) / (b : Rat) * gd l j) _).h
  have z : ∀ c : Nat, 1 ≤ c → szQ c 0 := fun c hc => szQ_zero hc
  by_cases h1 : k = 0
  · rw [if_pos h1, Rat.zero_add]
    split
    · exact (t _ _ _ (by omega) (by omega)).mono (by omega)
    · exact z _ (by omega)
  · rw [if_neg h1]
    split
    · exact ((t _ _ _ (by omega) (by omega)).add (t _ _ _ (by omega) (by omega))).mono (by omega)
    · rw [Rat.add_zero]; exact (t _ _ _ (by omega) (by omega)).mono (by omega)⟩
theorem raiseL_ne (l : List Rat) : raiseL l ≠ [] := by
  intro z
  have := congrArg List.length z
  simp at this
/-! ### one denominator for all -/
def cd (d b : Nat) (l : List Rat) : Prop := ∃ D : Nat, 0 < D ∧ D < 2 ^ d ∧ ∀ q ∈ l, ∃ m : Int, q * (D : Rat) = (m : Rat) ∧ m.natAbs < 2 ^ b
theorem sz_of_frac {q : Rat} {D : Nat} {m : Int} {d b : Nat} (h0 : 0 < D) (hD : D < 2 ^ d) (hm : q * (D : Rat) = (m : Rat)) (hb : m.natAbs < 2 ^ b) : szQ (max d b) q := by
  have e : q = Rat.divInt m D := by
    have hn : ((D : Nat) : Rat) ≠ 0 := natCast_ne h0
    rw [divInt_frac, Rat.intCast_natCast, Rat.div_def, ← hm, Rat.mul_assoc, Rat.mul_inv_cancel _ hn, Rat.mul_one]
  rw [e]
  exact divInt_sz (Nat.lt_of_lt_of_le hb (Nat.pow_le_pow_right (by decide) (Nat.le_max_right ..))) (by rw [Int.natAbs_natCast]; exact Nat.lt_of_lt_of_le hD (Nat.pow_le_pow_right (by decide) (Nat.le_max_left ..))) (by omega)
theorem cd.szL {d b : Nat} {l : List Rat} (h : cd d b l) : SzL l (max d b) := ⟨fun q hq => by
  obtain ⟨D, h0, hD, hl⟩ := h
  obtain ⟨m, e, hb⟩ := hl q hq
  exact sz_of_frac h0 hD e hb⟩
theorem cd.mono {d b d' b' : Nat} {l : List Rat} (h : cd d b l) (hd : d ≤ d') (hb : b ≤ b') : cd d' b' l := by
  obtain ⟨D, h0, hD, hl⟩ := h
  refine ⟨D, h0, Nat.lt_of_lt_of_le hD (Nat.pow_le_pow_right (by decide) hd), fun q hq => ?_⟩
  obtain ⟨m, e, hm⟩ := hl q hq
  exact ⟨m, e, Nat.lt_of_lt_of_le hm (Nat.pow_le_pow_right (by decide) hb)⟩
theorem cd_of {i : Nat} : ∀ (l : List Rat), (∀ q ∈ l, szQ i q) → cd (l.length * i + 1) (l.length * i + i + 1) l
  | [], _ => ⟨1, by decide, by simp, by simp⟩
  | q :: l, h => by
    obtain ⟨D, h0, hD, hl⟩ := cd_of l fun x hx => h x (List.mem_cons_of_mem _ hx)
    obtain ⟨q1, q2⟩ := h q List.mem_cons_self
    have e := Nat.add_mul l.length 1 i
    rw [Nat.one_mul] at e
    refine ⟨D * q.den, Nat.mul_pos h0 q.den_pos, ?_, fun x hx => ?_⟩
    · rw [List.length_cons, e]
      have : l.length * i + i + 1 = (l.length * i + 1) + i := by omega
      rw [this]
      exact pow_lt_mul hD q2
    · rcases List.mem_cons.mp hx with rfl | hx
      · refine ⟨x.num * D, ?_, ?_⟩
        · rw [Rat.natCast_mul, Rat.intCast_mul, Rat.intCast_natCast]
          have : x * (x.den : Rat) = (x.num : Rat) := by
            have h1 := Rat.num_divInt_den x
            have hn : ((x.den : Nat) : Rat) ≠ 0 := natCast_ne x.den_pos
            conv => lhs; lhs; rw [← h1, divInt_frac, Rat.intCast_natCast]
            rw [Rat.div_mul_cancel hn]
          grind
        · rw [Int.natAbs_mul, Int.natAbs_natCast, List.length_cons, e]
          have : l.length * i + i + i + 1 = i + (l.length * i + 1) + i := by omega
          rw [this]
          exact Nat.lt_of_lt_of_le (pow_lt_mul q1 hD) (Nat.pow_le_pow_right (by decide) (by omega))
      · obtain ⟨m, hm, hb⟩ := hl x hx
        refine ⟨m * q.den, ?_, ?_⟩
        · rw [Rat.natCast_mul, Rat.intCast_mul, ← hm, Rat.intCast_natCast]; grind
        · rw [Int.natAbs_mul, Int.natAbs_natCast, List.length_cons, e]
          have : l.length * i + i + i + 1 = (l.length * i + i + 1) + i := by omega
          rw [this]
          exact pow_lt_mul hb q2
theorem lowF_succ (n : Nat) (r : Nat → Rat) (k : Nat) : lowF n r (k + 1) = ((n : Rat) * r (k + 1) - ((k + 1 : Nat) : Rat) * lowF n r k) / ((n - (k + 1) : Nat) : Rat) := rfl
theorem ring1 (a y l : Rat) : a - y * 1 * l = -(y * l) + 1 * a := by grind
/-- what lowering makes, times lots -/
theorem lowF_alt {n : Nat} (r : Nat → Rat) : ∀ k, k < n → (chs (n - 1) k : Rat) * lowF n r k = sumTo (k + 1) fun j => (if (k - j) % 2 = 0 then 1 else -1) * ((chs n j : Rat) * r j)
  | 0, h => by
    simp only [lowF, sumTo, chs_z]; grind
  | k + 1, h => by
    have ih := lowF_alt (n := n) r k (by omega)
    rw [sumTo_succ]
    have e1 : sumTo (k + 1) (fun j => (if (k + 1 - j) % 2 = 0 then (1 : Rat) else -1) * ((chs n j : Rat) * r j)) = -(sumTo (k + 1) fun j => (if (k - j) % 2 = 0 then (1 : Rat) else -1) * ((chs n j : Rat) * r j)) := by
      have := sumTo_mul (-1) (fun j => (if (k - j) % 2 = 0 then (1 : Rat) else -1) * ((chs n j : Rat) * r j)) (k + 1)
      have e2 : sumTo (k + 1) (fun j => (if (k + 1 - j) % 2 = 0 then (1 : Rat) else -1) * ((chs n j : Rat) * r j)) = sumTo (k + 1) (fun j => -1 * ((if (k - j) % 2 = 0 then (1 : Rat) else -1) * ((chs n j : Rat) * r j))) := by
        refine sumTo_congr fun j hj => ?_
        by_cases hp : (k - j) % 2 = 0
        · rw [if_pos hp, if_neg (by omega)]; grind
        · rw [if_neg hp, if_pos (by omega)]; grind
      rw [e2, this]; grind
    rw [e1, ← ih, Nat.sub_self, if_pos rfl]
    -- the step
    have hn : ((n - (k + 1) : Nat) : Rat) ≠ 0 := natCast_ne (by omega)
    have hk : ((k + 1 : Nat) : Rat) ≠ 0 := natCast_ne (by omega)
    have c1 := chs_step (n - 1) k (by omega)
    have c2 := chs_up (n - 1) k
    have en : n - 1 + 1 = n := by omega
    rw [en] at c2
    have en2 : n - 1 - k = n - (k + 1) := by omega
    rw [en2] at c1
    have d1 : (chs (n - 1) (k + 1) : Rat) * ((k + 1 : Nat) : Rat) = (chs (n - 1) k : Rat) * ((n - (k + 1) : Nat) : Rat) := by rw [← Rat.natCast_mul, ← Rat.natCast_mul, c1]
    have d2 : (n : Rat) * (chs (n - 1) k : Rat) = ((k + 1 : Nat) : Rat) * (chs n (k + 1) : Rat) := by rw [← Rat.natCast_mul, ← Rat.natCast_mul, c2]
    rw [lowF_succ, Rat.div_def]
    generalize lowF n r k = L at *
    generalize (((n - (k + 1) : Nat)) : Rat) = m at *
    generalize (((k + 1 : Nat)) : Rat) = K at *
    have hi : m * m⁻¹ = 1 := Rat.mul_inv_cancel _ hn
    have hj : K * K⁻¹ = 1 := Rat.mul_inv_cancel _ hk
    have d3 : (chs (n - 1) (k + 1) : Rat) * m⁻¹ = (chs (n - 1) k : Rat) * K⁻¹ := by
      have : (chs (n - 1) (k + 1) : Rat) * m⁻¹ = (chs (n - 1) (k + 1) : Rat) * K * (K⁻¹ * m⁻¹) := by grind
      rw [this, d1]; grind
    have e5 : (chs (n - 1) (k + 1) : Rat) * (((n : Rat) * r (k + 1) - K * L) * m⁻¹) = ((chs (n - 1) (k + 1) : Rat) * m⁻¹) * ((n : Rat) * r (k + 1) - K * L) := by
      generalize (n : Rat) * r (k + 1) - K * L = Q
      generalize (chs (n - 1) (k + 1) : Rat) = X
      grind
    rw [e5, d3]
    have e6 : ((chs (n - 1) k : Rat) * K⁻¹) * ((n : Rat) * r (k + 1) - K * L) = ((n : Rat) * (chs (n - 1) k : Rat)) * K⁻¹ * r (k + 1) - (chs (n - 1) k : Rat) * (K * K⁻¹) * L := by
      generalize (chs (n - 1) k : Rat) = Y
      generalize K⁻¹ = J
      generalize r (k + 1) = R
      generalize (n : Rat) = N
      grind
    rw [e6, d2, hj]
    have e7 : K * (chs n (k + 1) : Rat) * K⁻¹ = (chs n (k + 1) : Rat) := by
      have : K * (chs n (k + 1) : Rat) * K⁻¹ = (K * K⁻¹) * (chs n (k + 1) : Rat) := by
        generalize (chs n (k + 1) : Rat) = X
        generalize K⁻¹ = J
        grind
      rw [this, hj, Rat.one_mul]
    rw [e7]
    exact ring1 _ _ _
def prodC (n : Nat) : Nat → Nat
  | 0 => 1
  | k + 1 => prodC n k * chs n k
theorem prodC_pos (n : Nat) : ∀ k, k ≤ n + 1 → 0 < prodC n k
  | 0, _ => Nat.one_pos
  | k + 1, h => Nat.mul_pos (prodC_pos n k (by omega)) (chs_pos (by omega))
theorem prodC_dvd (n : Nat) : ∀ {k j : Nat}, j < k → chs n j ∣ prodC n k
  | k + 1, j, h => by
    by_cases e : j = k
    · subst e; exact Nat.dvd_mul_left ..
    · exact Nat.dvd_trans (prodC_dvd n (k := k) (j := j) (by omega)) (Nat.dvd_mul_right ..)
theorem prodC_lt (n : Nat) : ∀ k, prodC n k < 2 ^ (k * (n + 1) + 1)
  | 0 => by simp [prodC]
  | k + 1 => by
    have h1 := prodC_lt n k
    have h2 : chs n k < 2 ^ (n + 1) := by rw [Nat.pow_succ]; have := chs_le n k; have := Nat.one_le_two_pow (n := n); omega
    have e := Nat.add_mul k 1 (n + 1)
    have e2 : (k + 1) * (n + 1) + 1 = (k * (n + 1) + 1) + (n + 1) := by omega
    rw [e2]
    exact pow_lt_mul h1 h2
theorem sum_int {D : Nat} {b : Nat} (r : Nat → Rat) (c : Nat → Int) {e : Nat} (hc : ∀ j, (c j).natAbs ≤ 2 ^ e) : ∀ N, (∀ j, j < N → ∃ m : Int, r j * (D : Rat) = (m : Rat) ∧ m.natAbs < 2 ^ b) → ∃ m : Int, sumTo N (fun j => (c j : Rat) * r j) * (D : Rat) = (m : Rat) ∧ m.natAbs ≤ N * 2 ^ (e + b)
  | 0, _ => ⟨0, by simp, by simp⟩
  | N + 1, h => by
    obtain ⟨m, h1, h2⟩ := sum_int r c hc N fun j hj => h j (by omega)
    obtain ⟨q, h3, h4⟩ := h N (by omega)
    refine ⟨m + c N * q, ?_, ?_⟩
    · rw [sumTo_succ, Rat.intCast_add, Rat.intCast_mul, ← h1, ← h3]; grind
    · have h5 : (c N * q).natAbs ≤ 2 ^ (e + b) := by
        rw [Int.natAbs_mul, Nat.pow_add]
        exact Nat.mul_le_mul (hc N) (by omega)
      have h6 := Int.natAbs_add_le m (c N * q)
      have h7 := Nat.add_mul N 1 (2 ^ (e + b))
      omega
theorem lowF_cd {d b n : Nat} {l : List Rat} (h : cd d b l) (hn : l.length = n + 1) : cd (d + n * n + 1) (b + (n * n + 2 * n + 3)) ((List.range n).map (lowF n (gd l))) := by
  obtain ⟨D, h0, hD, hl⟩ := h
  have pp := prodC_pos (n - 1) n
  by_cases hz : n = 0
  · subst hz
    exact ⟨D, h0, Nat.lt_of_lt_of_le hD (Nat.pow_le_pow_right (by decide) (by omega)), by simp⟩
  have pp := pp (by omega)
  have hp := prodC_lt (n - 1) n
  have en : n - 1 + 1 = n := by omega
  rw [en] at hp
  refine ⟨D * prodC (n - 1) n, Nat.mul_pos h0 pp, ?_, fun q hq => ?_⟩
  · rw [Nat.add_assoc]; exact pow_lt_mul hD hp
  · obtain ⟨k, hk, rfl⟩ := List.mem_map.mp hq
    have hk := List.mem_range.mp hk
    obtain ⟨c, hc⟩ := prodC_dvd (n - 1) (k := n) (j := k) hk
    have a := lowF_alt (gd l) k hk
    let cf : Nat → Int := fun j => if (k - j) % 2 = 0 then (chs n j : Int) else -(chs n j : Int)
    have hcf : ∀ j, (cf j).natAbs ≤ 2 ^ n := fun j => by
      show (if (k - j) % 2 = 0 then (chs n j : Int) else -(chs n j : Int)).natAbs ≤ _
      have := chs_le n j
      split <;> omega
    obtain ⟨m, h1, h2⟩ := sum_int (D := D) (b := b) (gd l) cf hcf (k + 1) (fun j hj => hl _ (gd_mem (by omega)))
    have e1 : sumTo (k + 1) (fun j => (cf j : Rat) * gd l j) = sumTo (k + 1) fun j => (if (k - j) % 2 = 0 then (1 : Rat) else -1) * ((chs n j : Rat) * gd l j) := sumTo_congr fun j hj => by
      show (((if (k - j) % 2 = 0 then (chs n j : Int) else -(chs n j : Int)) : Int) : Rat) * gd l j = _
      split
      · rw [Rat.intCast_natCast]; grind
      · rw [Rat.intCast_neg, Rat.intCast_natCast]; grind
    rw [e1, ← a] at h1
    refine ⟨m * c, ?_, ?_⟩
    · rw [hc, Rat.natCast_mul, Rat.natCast_mul, Rat.intCast_mul, ← h1, Rat.intCast_natCast]; grind
    · rw [Int.natAbs_mul, Int.natAbs_natCast]
      have c1 : c ≤ prodC (n - 1) n := by
        rw [hc]; exact Nat.le_mul_of_pos_left _ (chs_pos (by omega))
      have h3 : m.natAbs < 2 ^ (n + b + n + 1) := by
        have : (k + 1) * 2 ^ (n + b) < 2 ^ (n + 1) * 2 ^ (n + b) := Nat.mul_lt_mul_of_pos_right (Nat.lt_of_le_of_lt (by omega) (lt_two_pow (n + 1))) (Nat.pow_pos (by decide))
        rw [← Nat.pow_add] at this
        have e : n + 1 + (n + b) = n + b + n + 1 := by omega
        rw [e] at this
        omega
      have h4 := pow_lt_mul h3 (Nat.lt_of_le_of_lt c1 hp)
      have e : n + b + n + 1 + (n * n + 1) ≤ b + (n * n + 2 * n + 3) := by omega
      exact Nat.lt_of_lt_of_le h4 (Nat.pow_le_pow_right (by decide) e)
end L2.Mir

set_option Elab.async false
set_option linter.all false
set_option maxRecDepth 100000
namespace L2.Mir
open PySem PySem.Spec PyProof.Rows
/-- one part of a product's number -/
def mulT (m n : Nat) (a b : List Rat) (k j : Nat) : Rat := ((chs m j * chs n (k - j) : Nat) : Rat) / (chs (m + n) k : Rat) * (gd a j * gd b (k - j))
theorem mulK_eq (a b : List Rat) (k : Nat) : mulK a b k = sumTo (k + 1) (mulT (a.length - 1) (b.length - 1) a b k) := rfl
theorem mulK_cut (a b : List Rat) {m n k : Nat} (hm : a.length - 1 = m) (hn : b.length - 1 = n) (hk : k ≤ m + n) : mulK a b k = sumTo (min k m + 1 - (k - n)) fun i => mulT m n a b k (k - n + i) := by
  rw [mulK_eq, hm, hn]
  refine sumTo_cut (lo := k - n) (hi := min k m + 1) (by omega) (by omega) (fun j hj => ?_) (fun j h1 h2 => ?_)
  · unfold mulT
    rw [chs_big (n := n) (k := k - j) (by omega), Nat.mul_zero]
    have : (((0 : Nat)) : Rat) = 0 := rfl
    rw [this, Rat.div_def, Rat.zero_mul, Rat.zero_mul]
  · unfold mulT
    rw [chs_big (n := m) (k := j) (by omega), Nat.zero_mul]
    have : (((0 : Nat)) : Rat) = 0 := rfl
    rw [this, Rat.div_def, Rat.zero_mul, Rat.zero_mul]
theorem chs_lt {n k e : Nat} (h : n ≤ e) : chs n k < 2 ^ (e + 1) := by
  have h1 := chs_le n k
  have h2 : 2 ^ n ≤ 2 ^ e := Nat.pow_le_pow_right (by decide) h
  rw [Nat.pow_succ]
  have := Nat.one_le_two_pow (n := e)
  omega
theorem mulT_sz {m n : Nat} {a b : List Rat} {i j : Nat} (ha : SzL a i) (hb : SzL b j) (hm : m ≤ 12) (hn : n ≤ 12) (k q : Nat) : szQ (52 + i + j) (mulT m n a b k q) := by
  unfold mulT
  have h1 : chs m q * chs n (k - q) < 2 ^ 26 := pow_lt_mul (i := 13) (j := 13) (chs_lt hm) (chs_lt hn)
  have h2 : chs (m + n) k < 2 ^ 25 := chs_lt (e := 24) (by omega)
  haveI : Sz ((chs m q * chs n (k - q) : Nat) : Rat) 26 := ⟨szQ_nat h1 (by decide)⟩
  haveI : Sz (chs (m + n) k : Rat) 25 := ⟨szQ_nat h2 (by decide)⟩
  by_cases z : q < a.length ∧ k - q < b.length
  · haveI : Sz (gd a q) i := ⟨ha.h _ (gd_mem z.1)⟩
    haveI : Sz (gd b (k - q)) j := ⟨hb.h _ (gd_mem z.2)⟩
    exact ((inferInstance : Sz (((chs m q * chs n (k - q) : Nat) : Rat) / (chs (m + n) k : Rat) * (gd a q * gd b (k - q))) _).h).mono (by omega)
  · have : gd a q * gd b (k - q) = 0 := by
      by_cases h : q < a.length
      · rw [gd_big (l := b) (by omega), Rat.mul_zero]
      · rw [gd_big (l := a) (by omega), Rat.zero_mul]
    rw [this, Rat.mul_zero]
    exact szQ_zero (by omega)
theorem mulL_sz {a b : List Rat} {i j : Nat} (ha : SzL a i) (hb : SzL b j) (hm : a.length ≤ 13) (hn : b.length ≤ 13) : SzL (mulL a b) (a.length * (53 + i + j) + 54 + i + j) := ⟨fun q hq => by
  obtain ⟨k, hk, rfl⟩ := List.mem_map.mp hq
  have hk := List.mem_range.mp hk
  rw [mulK_cut a b rfl rfl (by omega)]
  have := szQ_sumTo (s := 52 + i + j) (by omega) (n := min k (a.length - 1) + 1 - (k - (b.length - 1))) (f := fun i => mulT (a.length - 1) (b.length - 1) a b k (k - (b.length - 1) + i)) fun q _ => mulT_sz ha hb (by omega) (by omega) k _
  refine this.mono ?_
  have h1 : (min k (a.length - 1) + 1 - (k - (b.length - 1))) * (52 + i + j + 1) ≤ (a.length + 1) * (53 + i + j) := Nat.mul_le_mul (by omega) (by omega)
  have h2 := Nat.add_mul a.length 1 (53 + i + j)
  omega⟩
theorem mulL_ne (a b : List Rat) : mulL a b ≠ [] := by
  intro z
  have := congrArg List.length z
  simp at this
end L2.Mir

set_option Elab.async false
set_option linter.all false
set_option maxRecDepth 100000
namespace L2.Mir
open PySem PySem.Spec PyProof.Rows
@[simp] theorem boolsD_map {α : Type} (p : α → Bool) : ∀ l : List α, boolsD (l.map fun a => D.bl (p a)) = some (l.map p)
  | [] => rfl
  | a :: l => by simp [boolsD_map p l]
/-- a comprehension of bools over a row, all of them -/
theorem comp_b {f : D → M (Option D)} {s : DS} {ds : List D} {l : List Rat} [a : QL ds l] (p : Rat → Bool) (h : ∀ q, q ∈ l → f (qD q) s = .ok (some (.bl (p q))) s) : lcGo f ds s = .ok (l.map fun q => .bl (p q)) s := lcGo_QL (g := fun q => .bl (p q)) h
theorem num_pos {q : Rat} : 0 < q.num ↔ 0 < q := by
  rw [Rat.lt_iff]
  have : (0 : Rat).num = 0 := rfl
  have h2 : (0 : Rat).den = 1 := rfl
  rw [this, h2]
  constructor <;> intro h <;> simpa using h
theorem num_neg {q : Rat} : q.num < 0 ↔ q < 0 := by
  rw [Rat.lt_iff]
  have : (0 : Rat).num = 0 := rfl
  have h2 : (0 : Rat).den = 1 := rfl
  rw [this, h2]
  constructor <;> intro h <;> simpa using h
theorem num_nonpos {q : Rat} : q.num ≤ 0 ↔ q ≤ 0 := by
  have := num_pos (q := q)
  constructor <;> intro h
  · have : ¬ 0 < q := fun z => by have := this.mpr z; omega
    grind
  · have : ¬ 0 < q.num := fun z => by have := this.mp z; grind
    omega
def allPos (l : List Rat) : Prop := ∀ q ∈ l, 0 < q
instance (l : List Rat) : Decidable (allPos l) := by unfold allPos; infer_instance
theorem all_num_pos (l : List Rat) : (l.map fun q => decide (0 < q.num)).all id = decide (allPos l) := by
  rw [Bool.eq_iff_iff, List.all_map, List.all_eq_true, decide_eq_true_iff]
  constructor
  · intro h q hq
    exact num_pos.mp (by simpa using h q hq)
  · intro h q hq
    simpa using num_pos.mpr (h q hq)
end L2.Mir

set_option Elab.async false
set_option linter.all false
set_option maxRecDepth 100000
namespace L2.Mir
open PySem PySem.Spec PyProof.Rows
theorem frac_t (t : Rat) : t * (t.den : Rat) = (t.num : Rat) := by
  have h1 := Rat.num_divInt_den t
  have hn : ((t.den : Nat) : Rat) ≠ 0 := natCast_ne t.den_pos
  conv => lhs; lhs; rw [← h1, divInt_frac, Rat.intCast_natCast]
  rw [Rat.div_mul_cancel hn]
theorem ratpow_nat (a : Nat) : ∀ n : Nat, ((a ^ n : Nat) : Rat) = (a : Rat) ^ n
  | 0 => by rw [Nat.pow_zero, Rat.pow_zero]; rfl
  | n + 1 => by rw [Nat.pow_succ, Rat.natCast_mul, ratpow_nat a n, Rat.pow_succ]
theorem ev_cd {D b m : Nat} {t : Rat} (ht : szQ m t) : ∀ (l : List Rat), (∀ q ∈ l, ∃ z : Int, q * (D : Rat) = (z : Rat) ∧ z.natAbs < 2 ^ b) → ∃ M : Int, ev l t * ((D * t.den ^ l.length : Nat) : Rat) = (M : Rat) ∧ M.natAbs < 2 ^ (b + (m + 1) * l.length)
  | [], _ => ⟨0, by simp, by simp; exact Nat.pow_pos (by decide)⟩
  | a :: l, h => by
    obtain ⟨z, h1, h2⟩ := h a List.mem_cons_self
    obtain ⟨M, h3, h4⟩ := ev_cd ht l fun q hq => h q (List.mem_cons_of_mem _ hq)
    refine ⟨z * (t.den ^ (l.length + 1) : Nat) + t.num * M, ?_, ?_⟩
    · rw [ev_cons, List.length_cons, Rat.intCast_add, Rat.intCast_mul, Rat.intCast_mul, ← h1, ← h3, ← frac_t, Rat.intCast_natCast, Rat.natCast_mul, Rat.natCast_mul, ratpow_nat, ratpow_nat, Rat.pow_succ]
      grind
    · have h5 : t.den ^ (l.length + 1) ≤ 2 ^ (m * (l.length + 1)) := by
        rw [Nat.pow_mul]
        exact Nat.pow_le_pow_left (Nat.le_of_lt ht.2) _
      have h6 : (z * ((t.den ^ (l.length + 1) : Nat) : Int)).natAbs < 2 ^ (b + m * (l.length + 1)) := by
        rw [Int.natAbs_mul, Int.natAbs_natCast]
        have hp : 0 < t.den ^ (l.length + 1) := Nat.pow_pos t.den_pos
        refine Nat.lt_of_lt_of_le (Nat.mul_lt_mul_of_pos_right h2 hp) ?_
        rw [Nat.pow_add 2 b]
        exact Nat.mul_le_mul_left _ h5
      have h7 : (t.num * M).natAbs < 2 ^ (m + (b + (m + 1) * l.length)) := by
        rw [Int.natAbs_mul]; exact pow_lt_mul ht.1 h4
      have e1 : b + m * (l.length + 1) ≤ m + (b + (m + 1) * l.length) := by
        rw [Nat.mul_add, Nat.add_mul]; omega
      have h8 := Nat.lt_of_lt_of_le h6 (Nat.pow_le_pow_right (by decide : 0 < 2) e1)
      have h9 := Int.natAbs_add_le (z * ((t.den ^ (l.length + 1) : Nat) : Int)) (t.num * M)
      have e2 : b + (m + 1) * (l.length + 1) = (m + (b + (m + 1) * l.length)) + 1 := by
        have := Nat.mul_add (m + 1) l.length 1
        omega
      have e3 : 2 ^ (m + (b + (m + 1) * l.length) + 1) = 2 ^ (m + (b + (m + 1) * l.length)) * 2 := Nat.pow_succ ..
      rw [List.length_cons, e2, e3]
      generalize 2 ^ (m + (b + (m + 1) * l.length)) = A at *
      generalize (z * ((t.den ^ (l.length + 1) : Nat) : Int)) = U at *
      generalize t.num * M = V at *
      omega
theorem cd.ev_sz {d b m : Nat} {l : List Rat} {t : Rat} (h : cd d b l) (ht : szQ m t) : szQ (max d b + (m + 1) * l.length) (ev l t) := by
  obtain ⟨D, h0, hD, hl⟩ := h
  obtain ⟨M, h1, h2⟩ := ev_cd ht l hl
  have h5 : t.den ^ l.length ≤ 2 ^ (m * l.length) := by
    rw [Nat.pow_mul]
    exact Nat.pow_le_pow_left (Nat.le_of_lt ht.2) _
  have h6 : D * t.den ^ l.length < 2 ^ (d + m * l.length) := by
    refine Nat.lt_of_lt_of_le (Nat.mul_lt_mul_of_pos_right hD (Nat.pow_pos t.den_pos)) ?_
    rw [Nat.pow_add]
    exact Nat.mul_le_mul_left _ h5
  have e := Nat.add_mul m 1 l.length
  exact (sz_of_frac (Nat.mul_pos h0 (Nat.pow_pos t.den_pos)) h6 h1 h2).mono (by omega)
theorem cd.sub {d b : Nat} {l m : List Rat} (h : cd d b l) (hm : ∀ q ∈ m, q ∈ l) : cd d b m := by
  obtain ⟨D, h0, hD, hl⟩ := h
  exact ⟨D, h0, hD, fun q hq => hl q (hm q hq)⟩
/-- the polynomial's numbers -/
theorem gd_polK (n : Nat) (r : Nat → Rat) (c : Nat) : ∀ j, gd (polK n r j) c = sumTo j fun k => gd (basK n k) c * r k
  | 0 => by simp [polK, gd]
  | j + 1 => by
    rw [polK, gd_padd, gd_polK n r c j, sumTo_succ]
    congr 1
    by_cases h : c < (basK n j).length
    · have : gd ((basK n j).map (· * r j)) c = gd (basK n j) c * r j := by simp [gd, List.getD, h]
      exact this
    · rw [gd_big (l := basK n j) (by omega), gd_big (l := (basK n j).map (· * r j)) (by simpa using h), Rat.zero_mul]
theorem cd_polK {d b n : Nat} {l : List Rat} (h : cd d b l) (hn : l.length = n + 1) {j : Nat} (hj : j ≤ n + 1) : cd d (b + 3 * n + 3) (polK n (gd l) j) := by
  obtain ⟨D, h0, hD, hl⟩ := h
  refine ⟨D, h0, hD, fun q hq => ?_⟩
  obtain ⟨c, hc, rfl⟩ := mem_gd hq
  rw [gd_polK]
  have hb : ∀ k, k ≤ n → intB (2 * n + 1) (gd (basK n k) c) := fun k hk => by
    by_cases h : c < (basK n k).length
    · exact basK_intB n k hk _ (gd_mem h)
    · rw [gd_big (by omega)]; exact intB_zero _
  let cf : Nat → Int := fun k => if k ≤ n then (gd (basK n k) c).num else 0
  obtain ⟨m, h1, h2⟩ := sum_int (D := D) (b := b) (e := 2 * n + 1) (gd l) cf (fun k => by
    show (if k ≤ n then (gd (basK n k) c).num else 0).natAbs ≤ _
    split
    · rename_i hk; exact Nat.le_of_lt (hb k hk).2
    · exact Nat.zero_le _) j (fun k hk => hl _ (gd_mem (by omega)))
  have e : sumTo j (fun k => gd (basK n k) c * gd l k) = sumTo j fun k => (cf k : Rat) * gd l k := sumTo_congr fun k hk => by
    show _ = (((if k ≤ n then (gd (basK n k) c).num else 0) : Int) : Rat) * _
    rw [if_pos (by omega), ← intB_eq (hb k (by omega))]
  rw [e]
  refine ⟨m, h1, Nat.lt_of_le_of_lt h2 ?_⟩
  have : j * 2 ^ (2 * n + 1 + b) < 2 ^ (n + 2) * 2 ^ (2 * n + 1 + b) := Nat.mul_lt_mul_of_pos_right (Nat.lt_of_le_of_lt (show j ≤ n + 2 by omega) (lt_two_pow _)) (Nat.pow_pos (by decide))
  rw [← Nat.pow_add] at this
  have e2 : n + 2 + (2 * n + 1 + b) = b + 3 * n + 3 := by omega
  rwa [e2] at this
theorem cd_lawP {d b n : Nat} {l : List Rat} (h : cd d b l) (hn : l.length = n + 1) : cd d (b + 3 * n + 3) (lawP l) := by
  unfold lawP
  have := cd_polK h hn (j := n + 1) (Nat.le_refl _)
  rw [hn, Nat.add_sub_cancel]
  exact this.sub fun q hq => trim_mem hq
/-- sums, products, number by number -/
theorem cd_map2 {d b d' b' : Nat} {l m : List Rat} {N : Nat} {f : Nat → Rat} {e : Nat} (hl : cd d b l) (hm : cd d' b' m) (hf : ∀ k, k < N → ∃ i j, i < l.length ∧ j < m.length ∧ ((f k = gd l i + gd m j ∧ max (b + d') (b' + d) + 1 ≤ e) ∨ (f k = gd l i * gd m j ∧ b + b' ≤ e))) : cd (d + d') e ((List.range N).map f) := by
  obtain ⟨D, h0, hD, hl⟩ := hl
  obtain ⟨D', h0', hD', hm⟩ := hm
  refine ⟨D * D', Nat.mul_pos h0 h0', pow_lt_mul hD hD', fun q hq => ?_⟩
  obtain ⟨k, hk, rfl⟩ := List.mem_map.mp hq
  obtain ⟨i, j, hi, hj, h⟩ := hf k (List.mem_range.mp hk)
  obtain ⟨x, x1, x2⟩ := hl _ (gd_mem hi)
  obtain ⟨y, y1, y2⟩ := hm _ (gd_mem hj)
  rcases h with ⟨h, he⟩ | ⟨h, he⟩
  · refine ⟨x * D' + y * D, ?_, ?_⟩
    · rw [h, Rat.natCast_mul, Rat.intCast_add, Rat.intCast_mul, Rat.intCast_mul, ← x1, ← y1, Rat.intCast_natCast, Rat.intCast_natCast]; grind
    · have a1 : (x * (D' : Int)).natAbs < 2 ^ (b + d') := by rw [Int.natAbs_mul, Int.natAbs_natCast]; exact pow_lt_mul x2 hD'
      have a2 : (y * (D : Int)).natAbs < 2 ^ (b' + d) := by rw [Int.natAbs_mul, Int.natAbs_natCast]; exact pow_lt_mul y2 hD
      have a3 := Int.natAbs_add_le (x * (D' : Int)) (y * (D : Int))
      have a4 : 2 ^ (b + d') ≤ 2 ^ (max (b + d') (b' + d)) := Nat.pow_le_pow_right (by decide) (by omega)
      have a5 : 2 ^ (b' + d) ≤ 2 ^ (max (b + d') (b' + d)) := Nat.pow_le_pow_right (by decide) (by omega)
      have a6 : 2 ^ (max (b + d') (b' + d) + 1) ≤ 2 ^ e := Nat.pow_le_pow_right (by decide) he
      rw [Nat.pow_succ] at a6
      omega
  · refine ⟨x * y, ?_, ?_⟩
    · rw [h, Rat.natCast_mul, Rat.intCast_mul, ← x1, ← y1]; grind
    · rw [Int.natAbs_mul]
      exact Nat.lt_of_lt_of_le (pow_lt_mul x2 y2) (Nat.pow_le_pow_right (by decide) he)
/-- products of rows -/
theorem cd_mulL {d b d' b' : Nat} {l m : List Rat} (hl : cd d b l) (hm : cd d' b' m) (l0 : l ≠ []) (m0 : m ≠ []) {e : Nat} (he : (l.length + m.length) * (l.length + m.length) ≤ e) : cd (d + d' + e + 1) (b + b' + 2 * e + 2) (mulL l m) := by
  have pl := List.length_pos_iff.mpr l0
  have pm := List.length_pos_iff.mpr m0
  obtain ⟨D, h0, hD, hl⟩ := hl
  obtain ⟨D', h0', hD', hm⟩ := hm
  obtain ⟨N, hN⟩ : ∃ N, l.length - 1 + (m.length - 1) = N := ⟨_, rfl⟩
  have hsq : (N + 1) * (N + 1) ≤ e := Nat.le_trans (Nat.mul_le_mul (by omega) (by omega)) he
  have hNe : N + 1 ≤ e := Nat.le_trans (Nat.le_mul_of_pos_left _ (by omega)) hsq
  have pp := prodC_pos N (N + 1) (Nat.le_refl _)
  have hp := prodC_lt N (N + 1)
  have hp2 : prodC N (N + 1) < 2 ^ (e + 1) := Nat.lt_of_lt_of_le hp (Nat.pow_le_pow_right (by decide) (by omega))
  refine ⟨D * D' * prodC N (N + 1), Nat.mul_pos (Nat.mul_pos h0 h0') pp, ?_, fun q hq => ?_⟩
  · rw [Nat.add_assoc (d + d')]; exact pow_lt_mul (pow_lt_mul hD hD') hp2
  · obtain ⟨k, hk, rfl⟩ := List.mem_map.mp hq
    have hk := List.mem_range.mp hk
    rw [hN] at hk
    obtain ⟨c, hc⟩ := prodC_dvd N (k := N + 1) (j := k) hk
    have hcp : c ≤ prodC N (N + 1) := by rw [hc]; exact Nat.le_mul_of_pos_left _ (chs_pos (by omega))
    -- each part
    have hterm : ∀ j, j < k + 1 → ∃ z : Int, mulT (l.length - 1) (m.length - 1) l m k j * ((D * D' * prodC N (N + 1) : Nat) : Rat) = (z : Rat) ∧ z.natAbs ≤ 2 ^ (b + b' + (N + (e + 1))) := by
      intro j hj
      by_cases hz : j < l.length ∧ k - j < m.length
      · obtain ⟨x, x1, x2⟩ := hl _ (gd_mem hz.1)
        obtain ⟨y, y1, y2⟩ := hm _ (gd_mem hz.2)
        refine ⟨x * y * ((chs (l.length - 1) j * chs (m.length - 1) (k - j) : Nat) : Int) * (c : Int), ?_, ?_⟩
        · unfold mulT
          rw [hN, hc]
          have hn : ((chs N k : Nat) : Rat) ≠ 0 := natCast_ne (chs_pos (by omega))
          rw [Rat.natCast_mul, Rat.natCast_mul, Rat.natCast_mul, Rat.intCast_mul, Rat.intCast_mul, Rat.intCast_mul, ← x1, ← y1, Rat.intCast_natCast, Rat.intCast_natCast]
          have hdiv : ((chs (l.length - 1) j * chs (m.length - 1) (k - j) : Nat) : Rat) / ((chs N k : Nat) : Rat) * ((chs N k : Nat) : Rat) = ((chs (l.length - 1) j * chs (m.length - 1) (k - j) : Nat) : Rat) := Rat.div_mul_cancel hn
          generalize ((chs (l.length - 1) j * chs (m.length - 1) (k - j) : Nat) : Rat) / ((chs N k : Nat) : Rat) = A at *
          rw [← hdiv]
          grind
        · rw [Int.natAbs_mul, Int.natAbs_mul, Int.natAbs_mul, Int.natAbs_natCast, Int.natAbs_natCast]
          have a1 : x.natAbs * y.natAbs < 2 ^ (b + b') := pow_lt_mul x2 y2
          have a2 : chs (l.length - 1) j * chs (m.length - 1) (k - j) ≤ 2 ^ N := by
            rw [← hN, Nat.pow_add]
            exact Nat.mul_le_mul (chs_le ..) (chs_le ..)
          rw [Nat.pow_add, Nat.pow_add 2 N, Nat.mul_assoc]
          exact Nat.mul_le_mul (Nat.le_of_lt a1) (Nat.mul_le_mul a2 (Nat.le_trans hcp (Nat.le_of_lt hp2)))
      · refine ⟨0, ?_, by simp⟩
        have : gd l j * gd m (k - j) = 0 := by
          by_cases h : j < l.length
          · rw [gd_big (l := m) (by omega), Rat.mul_zero]
          · rw [gd_big (l := l) (by omega), Rat.zero_mul]
        unfold mulT
        rw [this, Rat.mul_zero, Rat.zero_mul]; rfl
    have hsum : ∀ q, q ≤ k + 1 → ∃ z : Int, sumTo q (mulT (l.length - 1) (m.length - 1) l m k) * ((D * D' * prodC N (N + 1) : Nat) : Rat) = (z : Rat) ∧ z.natAbs ≤ q * 2 ^ (b + b' + (N + (e + 1))) := by
      intro q
      induction q with
      | zero => intro _; exact ⟨0, by rw [sumTo_zero, Rat.zero_mul]; rfl, by simp⟩
      | succ q ih =>
        intro hq
        obtain ⟨z, z1, z2⟩ := ih (by omega)
        obtain ⟨y, y1, y2⟩ := hterm q (by omega)
        refine ⟨z + y, ?_, ?_⟩
        · rw [sumTo_succ, Rat.intCast_add, ← z1, ← y1]; grind
        · have := Int.natAbs_add_le z y
          have := Nat.add_mul q 1 (2 ^ (b + b' + (N + (e + 1))))
          omega
    obtain ⟨z, z1, z2⟩ := hsum (k + 1) (Nat.le_refl _)
    refine ⟨z, z1, Nat.lt_of_le_of_lt z2 ?_⟩
    have : (k + 1) * 2 ^ (b + b' + (N + (e + 1))) < 2 ^ (N + 1) * 2 ^ (b + b' + (N + (e + 1))) := Nat.mul_lt_mul_of_pos_right (Nat.lt_of_le_of_lt (show k + 1 ≤ N + 1 by omega) (lt_two_pow _)) (Nat.pow_pos (by decide))
    rw [← Nat.pow_add] at this
    refine Nat.lt_of_lt_of_le this (Nat.pow_le_pow_right (by decide) ?_)
    have : 2 * N + 2 ≤ e + 1 := by
      by_cases hN0 : N = 0
      · subst hN0; omega
      · have : (N + 1) * 2 ≤ (N + 1) * (N + 1) := Nat.mul_le_mul_left _ (by omega)
        omega
    omega
end L2.Mir

set_option Elab.async false
set_option linter.all false
set_option maxRecDepth 100000
set_option maxHeartbeats 1000000
namespace L2.Mir.W
open PySem PySem.Spec PyProof.Rows
theorem gcd_loop (s : DS) : ∀ (n : Nat) (a b : Int), 0 ≤ a → 0 ≤ b → b.toNat < n →
    whileGo (mCmpT opNe (mVar 1) (mC (.int 0))) (sPar false 0 1 (mCons (mVar 1) (mCons (mBin opMod (mVar 0) (mVar 1)) mNil))) n [.val (.int a), .val (.int b)] s = .ok (.nx [.val (.int (Int.gcd a b)), .val (.int 0)]) s
  | 0, a, b, _, _, h => by omega
  | n + 1, a, b, ha, hb, h => by
    by_cases hb0 : b = 0
    · subst hb0
      simp [whileGo, ha, Int.natAbs_of_nonneg]
    · have hp : 0 < b := by omega
      have ih := gcd_loop s n b (a % b) hb (Int.emod_nonneg _ hb0) (by have := Int.emod_lt_of_pos a hp; omega)
      rw [gcd_step] at ih
      simp only [whileGo]
      simp [hb0, hp, ih]
theorem f_divisor_ok (a b : Int) (s : DS) : f_divisor [.int a, .int b] s = .ok (.int (Int.gcd a b)) s := by
  have h := gcd_loop s (measE [.val (.int (absI a)), .val (.int (absI b))]) (absI a) (absI b) (absI_nonneg a) (absI_nonneg b) (by have := absI_nonneg b; simp [measE, slMeas, dMeas]; omega)
  simp only [gcd_absI_l, gcd_absI_r] at h
  simp [f_divisor, m_divisor, sWhile, h]
theorem gcd_div {a b : Int} (hb : b ≠ 0) {k : Nat} (hk : b.natAbs < 2 ^ k) (h9 : k ≤ 9000) : DivOk (Int.gcd a b : Nat) := by
  have h1 := Int.gcd_pos_of_ne_zero_right a hb
  have h2 := Int.gcd_le_natAbs_right a hb
  exact DivOk.of (by omega) (by rw [Int.natAbs_natCast]; exact Nat.lt_of_le_of_lt h2 hk) h9
theorem num_ne {y : Rat} (h : y ≠ 0) : y.num ≠ 0 := fun e => h (Rat.num_eq_zero.mp e)
theorem mul_ne {a b : Int} (ha : a ≠ 0) (hb : b ≠ 0) : a * b ≠ 0 := by
  intro h; rcases Int.mul_eq_zero.mp h with h | h <;> contradiction
theorem isz {i : Int} {a : Nat} [x : Iz i a] : i.natAbs < 2 ^ a := x.h
theorem QD.tupE {x : D} {q : Rat} (a : QD x q) (s : DS) : opIxQ x (.int 0) s = .ok (.int q.num) s ∧ opIxQ x (.int 1) s = .ok (.int q.den) s := by rw [a.h]; simp
theorem f_part_ok {a b : Int} {k : Nat} [sb : Iz b k] (hb : b ≠ 0) (h9 : k ≤ 9000) (s : DS) : f_part [.int a, .int b] s = .ok (qD (Rat.divInt a b)) s := by
  have hk := sb.h
  by_cases h : b < 0
  · have g := gcd_div (a := -a) (b := -b) (by omega) (k := k) (by omega) h9
    have e : Rat.divInt a b = Rat.divInt (-a) (-b) := by rw [← Rat.neg_divInt_neg]
    have d := f_divisor_ok (-a) (-b) s
    rw [e, qD_divInt _ _ (by omega)]
    generalize ((Int.gcd (-a) (-b) : Nat) : Int) = g1 at *
    simp [f_part, m_part, h, d, g]
  · have g := gcd_div (a := a) hb hk h9
    have d := f_divisor_ok a b s
    rw [qD_divInt _ _ (by omega)]
    generalize ((Int.gcd a b : Nat) : Int) = g1 at *
    simp [f_part, m_part, h, d, g]
@[simp] theorem f_plus_ok {x y : D} {a b : Rat} {i j : Nat} [hx : QD x a] [hy : QD y b] [sa : Sz a i] [sb : Sz b j] (h : i + j ≤ 8999) (s : DS) : f_plus [x, y] s = .ok (qD (a + b)) s := by
  have h4 := f_part_ok (a := a.num * b.den + b.num * a.den) (b := a.den * b.den) (mul_ne (den_ne a) (den_ne b)) (by omega) s
  rw [add_divInt] at h4
  simp [f_plus, m_plus, (QD.tupE hx), (QD.tupE hy), mulOk_iz (i := a.num) (j := b.den) (by omega), mulOk_iz (i := b.num) (j := a.den) (by omega), mulOk_iz (i := (a.den : Int)) (j := b.den) (by omega), h4]
@[simp] theorem f_minus_ok {x y : D} {a b : Rat} {i j : Nat} [hx : QD x a] [hy : QD y b] [sa : Sz a i] [sb : Sz b j] (h : i + j ≤ 8999) (s : DS) : f_minus [x, y] s = .ok (qD (a - b)) s := by
  have h4 := f_part_ok (a := a.num * b.den - b.num * a.den) (b := a.den * b.den) (mul_ne (den_ne a) (den_ne b)) (by omega) s
  rw [sub_divInt] at h4
  simp [f_minus, m_minus, (QD.tupE hx), (QD.tupE hy), mulOk_iz (i := a.num) (j := b.den) (by omega), mulOk_iz (i := b.num) (j := a.den) (by omega), mulOk_iz (i := (a.den : Int)) (j := b.den) (by omega), h4]
@[simp] theorem f_times_ok {x y : D} {a b : Rat} {i j : Nat} [hx : QD x a] [hy : QD y b] [sa : Sz a i] [sb : Sz b j] (h : i + j ≤ 8999) (s : DS) : f_times [x, y] s = .ok (qD (a * b)) s := by
  have h4 := f_part_ok (a := a.num * b.num) (b := a.den * b.den) (mul_ne (den_ne a) (den_ne b)) (by omega) s
  rw [mul_divInt] at h4
  simp [f_times, m_times, (QD.tupE hx), (QD.tupE hy), mulOk_iz (i := a.num) (j := b.num) (by omega), mulOk_iz (i := (a.den : Int)) (j := b.den) (by omega), h4]
/-- with a pair that may have a common divisor -/
theorem f_times_raw {c d : Int} {y : D} {b : Rat} {i j k : Nat} [hy : QD y b] [sc : Iz c i] [sd : Iz d k] [sb : Sz b j] (hd : d ≠ 0) (h : i + j ≤ 8999) (h2 : k + j ≤ 8999) (s : DS) : f_times [.tup [.int c, .int d], y] s = .ok (qD (Rat.divInt c d * b)) s := by
  have h4 := f_part_ok (a := c * b.num) (b := d * b.den) (mul_ne hd (den_ne b)) (by omega) s
  have e : Rat.divInt (c * b.num) (d * b.den) = Rat.divInt c d * b := by
    conv => rhs; rw [← Rat.num_divInt_den b]
    rw [Rat.divInt_mul_divInt]
  rw [e] at h4
  simp [f_times, m_times, (QD.tupE hy), mulOk_iz (i := c) (j := b.num) (by omega), mulOk_iz (i := d) (j := b.den) (by omega), h4]
theorem lgcd_loop (x0 x1 : Sl) (s : DS) : ∀ (n : Nat) (a b : Int), 0 ≤ a → 0 ≤ b → b.toNat < n →
    whileGo (mCmpT opNe (mVar 3) (mC (.int 0))) (sPar false 2 3 (mCons (mVar 3) (mCons (mBin opMod (mCB bInt (mCons (mVar 2) mNil)) (mVar 3)) mNil))) n [x0, x1, .val (.int a), .val (.int b)] s = .ok (.nx [x0, x1, .val (.int (Int.gcd a b)), .val (.int 0)]) s
  | 0, a, b, _, _, h => by omega
  | n + 1, a, b, ha, hb, h => by
    by_cases hb0 : b = 0
    · subst hb0
      simp [whileGo, ha, Int.natAbs_of_nonneg]
    · have hp : 0 < b := by omega
      have ih := lgcd_loop x0 x1 s n b (a % b) hb (Int.emod_nonneg _ hb0) (by have := Int.emod_lt_of_pos a hp; omega)
      rw [gcd_step] at ih
      simp only [whileGo]
      simp [hb0, hp, ih]
theorem f__law_part_ok {a b : Int} {k : Nat} [sb : Iz b k] (hb : b ≠ 0) (h9 : k ≤ 9000) (s : DS) : f__law_part [.int a, .int b] s = .ok (qD (Rat.divInt a b)) s := by
  have hk := sb.h
  have h := lgcd_loop (.val (.int a)) (.val (.int b)) s (measE [.val (.int a), .val (.int b), .val (.int (absI a)), .val (.int (absI b))]) (absI a) (absI b) (absI_nonneg a) (absI_nonneg b) (by have := absI_nonneg b; simp [measE, slMeas, dMeas]; omega)
  simp only [gcd_absI_l, gcd_absI_r] at h
  have g := gcd_div (a := a) hb hk h9
  by_cases c : b < 0
  · have e : Rat.divInt a b = Rat.divInt (-a) (-b) := by rw [← Rat.neg_divInt_neg]
    rw [e, qD_divInt _ _ (by omega)]
    have eg : Int.gcd (-a) (-b) = Int.gcd a b := by rw [Int.gcd_neg, Int.neg_gcd]
    rw [eg]
    have gn : ¬ DivOk (-((Int.gcd a b : Nat) : Int)) := fun z => by
      have := z.1
      omega
    generalize ((Int.gcd a b : Nat) : Int) = g1 at *
    simp [f__law_part, m__law_part, sWhile, h, c, g, gn]
  · rw [qD_divInt _ _ (by omega)]
    generalize ((Int.gcd a b : Nat) : Int) = g1 at *
    simp [f__law_part, m__law_part, sWhile, h, c, g]
@[simp] theorem f__law_add_ok {x y : D} {a b : Rat} {i j : Nat} [hx : QD x a] [hy : QD y b] [sa : Sz a i] [sb : Sz b j] (h : i + j ≤ 8999) (s : DS) : f__law_add [x, y] s = .ok (qD (a + b)) s := by
  have h4 := f__law_part_ok (a := a.num * b.den + b.num * a.den) (b := a.den * b.den) (mul_ne (den_ne a) (den_ne b)) (by omega) s
  rw [add_divInt] at h4
  simp [f__law_add, m__law_add, (QD.tupE hx), (QD.tupE hy), mulOk_iz (i := a.num) (j := b.den) (by omega), mulOk_iz (i := b.num) (j := a.den) (by omega), mulOk_iz (i := (a.den : Int)) (j := b.den) (by omega), h4]
@[simp] theorem f__law_mul_ok {x y : D} {a b : Rat} {i j : Nat} [hx : QD x a] [hy : QD y b] [sa : Sz a i] [sb : Sz b j] (h : i + j ≤ 8999) (s : DS) : f__law_mul [x, y] s = .ok (qD (a * b)) s := by
  have h4 := f__law_part_ok (a := a.num * b.num) (b := a.den * b.den) (mul_ne (den_ne a) (den_ne b)) (by omega) s
  rw [mul_divInt] at h4
  simp [f__law_mul, m__law_mul, (QD.tupE hx), (QD.tupE hy), mulOk_iz (i := a.num) (j := b.num) (by omega), mulOk_iz (i := (a.den : Int)) (j := b.den) (by omega), h4]
theorem f__law_mul_raw2 {c d : Int} {y : D} {b : Rat} {i j k : Nat} [hy : QD y b] [sc : Iz c i] [sd : Iz d k] [sb : Sz b j] (hd : d ≠ 0) (h : i + j ≤ 8999) (h2 : k + j ≤ 8999) (s : DS) : f__law_mul [y, .tup [.int c, .int d]] s = .ok (qD (b * Rat.divInt c d)) s := by
  have h4 := f__law_part_ok (a := b.num * c) (b := b.den * d) (mul_ne (den_ne b) hd) (by omega) s
  have e : Rat.divInt (b.num * c) (b.den * d) = b * Rat.divInt c d := by
    conv => rhs; rw [← Rat.num_divInt_den b]
    rw [Rat.divInt_mul_divInt]
  rw [e] at h4
  simp [f__law_mul, m__law_mul, (QD.tupE hy), mulOk_iz (i := b.num) (j := c) (by omega), mulOk_iz (i := (b.den : Int)) (j := d) (by omega), h4]
@[simp] theorem f__law_neg_ok {x : D} {a : Rat} [hx : QD x a] (s : DS) : f__law_neg [x] s = .ok (qD (-a)) s := by
  simp [f__law_neg, m__law_neg, (QD.tupE hx), qD]
end L2.Mir.W

set_option Elab.async false
set_option linter.all false
set_option maxRecDepth 100000
set_option maxHeartbeats 1000000
namespace L2.Mir.W
open PySem PySem.Spec PyProof.Rows
theorem pow_mono {a b c : Nat} (h : a ≤ b) (hb : 2 ^ b * c ≤ 5900) : 2 ^ a * c ≤ 5900 := Nat.le_trans (Nat.mul_le_mul_right _ (Nat.pow_le_pow_right (by decide) h)) hb
theorem ne_of_len {l : List Rat} (h : 0 < l.length) : l ≠ [] := List.length_pos_iff.mp h
end L2.Mir.W

set_option Elab.async false
set_option linter.all false
set_option maxRecDepth 100000
set_option maxHeartbeats 1000000
namespace L2.Mir.W
open PySem PySem.Spec PyProof.Rows
theorem QLr {l : List Rat} : QL (l.map qD) l := ⟨rfl⟩
end L2.Mir.W

set_option Elab.async false
set_option linter.all false
set_option maxRecDepth 100000
set_option maxHeartbeats 1000000
namespace L2.Mir.W
open PySem PySem.Spec PyProof.Rows

end L2.Mir.W

set_option Elab.async false
set_option linter.all false
set_option maxRecDepth 100000
set_option maxHeartbeats 1000000
namespace L2.Mir.W
open PySem PySem.Spec PyProof.Rows

end L2.Mir.W

set_option Elab.async false
set_option linter.all false
set_option maxRecDepth 100000
set_option maxHeartbeats 1000000
namespace L2.Mir.W
open PySem PySem.Spec PyProof.Rows

end L2.Mir.W

set_option Elab.async false
set_option linter.all false
set_option maxRecDepth 100000
set_option maxHeartbeats 1000000
namespace L2.Mir.W
open PySem PySem.Spec PyProof.Rows
@[simp] theorem f__law_total_ok {ds : List D} {l : List Rat} {i n : Nat} [hl : QL ds l] [sl : SzL l i] [ln : Ln l n] (h : (n + 1) * (i + 1) ≤ 8900) (s : DS) : f__law_total [.lst ds] s = .ok (qD (sumTo l.length (gd l))) s := by
  have a1 := ln.h
  have e0 : D.tup [.int 0, .int 1] = qD 0 := (inferInstance : QD (D.tup [.int 0, .int 1]) 0).h
  simp [f__law_total, m__law_total, sFor, bind_assoc', e0]
  refine for_cQ hl (fun k env => ∃ x2, env = [.val (.lst ds), .val (qD (sumTo k (gd l))), x2]) ?_ ?_ ?_
  · exact ⟨.no, by simp⟩
  · rintro k env hk ⟨x2, rfl⟩ g Y fin
    haveI : Sz (gd l k) i := ⟨sl.h _ (gd_mem hk)⟩
    have hi := szQ_pos (sl.h _ (gd_mem hk))
    haveI : Sz (sumTo k (gd l)) (k * (i + 1) + 1) := ⟨szQ_sumTo hi fun j hj => sl.h _ (gd_mem (by omega))⟩
    have e := Nat.mul_le_mul_right (i + 1) (show k + 1 ≤ n + 1 by omega)
    have e2 := Nat.add_mul k 1 (i + 1)
    have r1 := f__law_add_ok (x := qD (sumTo k (gd l))) (y := qD (gd l k)) (a := sumTo k (gd l)) (b := gd l k) (by omega) s
    simp [r1]
    exact fin _ ⟨_, by rw [sumTo_succ]⟩
  · rintro env ⟨x2, rfl⟩
    simp
end L2.Mir.W

set_option Elab.async false
set_option linter.all false
set_option maxRecDepth 100000
set_option maxHeartbeats 1000000
namespace L2.Mir.W
open PySem PySem.Spec PyProof.Rows

end L2.Mir.W

set_option Elab.async false
set_option linter.all false
set_option maxRecDepth 100000
set_option maxHeartbeats 1000000
namespace L2.Mir.W
open PySem PySem.Spec PyProof.Rows

end L2.Mir.W

set_option Elab.async false
set_option linter.all false
set_option maxRecDepth 100000
set_option maxHeartbeats 1000000
namespace L2.Mir.W
open PySem PySem.Spec PyProof.Rows

end L2.Mir.W

set_option Elab.async false
set_option linter.all false
set_option maxRecDepth 100000
set_option maxHeartbeats 1000000
namespace L2.Mir.W
open PySem PySem.Spec PyProof.Rows
@[simp] theorem f_is_part_q {x : D} {q : Rat} [hx : QD x q] (s : DS) : f_is_part [x] s = .ok (.bl true) s := by
  have hg : Int.gcd q.num q.den = 1 := q.reduced
  have hd : (1 : Int) ≤ q.den := by have := q.den_pos; omega
  have d := f_divisor_ok q.num q.den s
  rw [hg] at d
  rw [hx.h]
  simp [f_is_part, m_is_part, qD, lcGo, d, hd, tyN]
end L2.Mir.W

set_option Elab.async false
set_option linter.all false
set_option maxRecDepth 100000
set_option maxHeartbeats 1000000
namespace L2.Mir.W
open PySem PySem.Spec PyProof.Rows
/-! ### steps that are rounded -/
abbrev iD (l : List Int) : D := .lst (l.map .int)
def ig (l : List Int) (k : Nat) : Int := l.getD k 0
theorem atI_int {l : List Int} {k : Nat} (h : k < l.length) : L2.atI (l.map D.int) (k : Int) = some (.int (ig l k)) := by
  have : (l.map D.int)[k]? = some (.int (ig l k)) := by
    rw [List.getElem?_map, List.getElem?_eq_getElem h]
    simp [ig, List.getD, h]
  exact atI_nat this
/-- the item at a place that comes round -/
def ix (l : List Int) (z : Int) : Int := ig l (z % (l.length : Int)).toNat
theorem atI_ix {l : List Int} (h : l ≠ []) (z : Int) : L2.atI (l.map D.int) (z % (l.length : Int)) = some (.int (ix l z)) := by
  have hp := List.length_pos_iff.mpr h
  have h0 : 0 ≤ z % (l.length : Int) := Int.emod_nonneg _ (by omega)
  have h1 : z % (l.length : Int) < l.length := Int.emod_lt_of_pos _ (by omega)
  have e : z % (l.length : Int) = (((z % (l.length : Int)).toNat : Nat) : Int) := by omega
  rw [e, atI_int (by omega)]
  rfl
def flo (q : Rat) : Int := q.num / (q.den : Int)
def tsum (first : Int) (ps : List Rat) (row : List Int) (place : Int) (n : Nat) : Rat := 1 / 2 + sumTo n fun k => gd ps k * (ix row (place + first + k) : Rat)
def tb (first : Int) (ps : List Rat) (row : List Int) (place : Int) : Int := flo (tsum first ps row place ps.length)
abbrev stD (side first : Int) (ps : List Rat) : D := .tup [.int side, .int first, .tup (ps.map qD)]
theorem f_whole_below_ok {q : Rat} {i : Nat} [s : Sz q i] (h : i ≤ 9000) (s : DS) : f_whole_below [qD q] s = .ok (.int (flo q)) s := by
  have g : DivOk (q.den : Int) := DivOk.of (by have := q.den_pos; omega) (isz (i := (q.den : Int))) h
  simp [f_whole_below, m_whole_below, qD, g, flo]
class IzL (l : List Int) (k : outParam Nat) : Prop where h : ∀ z, (ix l z).natAbs < 2 ^ k
theorem tsum_zero (first : Int) (ps : List Rat) (row : List Int) (place : Int) : tsum first ps row place 0 = 1 / 2 := by unfold tsum; rw [sumTo_zero]; grind
theorem tsum_succ (first : Int) (ps : List Rat) (row : List Int) (place : Int) (n : Nat) : tsum first ps row place (n + 1) = tsum first ps row place n + gd ps n * (ix row (place + first + n) : Rat) := by unfold tsum; rw [sumTo_succ]; grind
theorem half_sz (k : Nat) : szQ (2 + k) (1 / 2 : Rat) := (show szQ 2 (1 / 2 : Rat) from ⟨by decide +kernel, by decide +kernel⟩).mono (by omega)
theorem tsum_sz {first : Int} {ps : List Rat} {row : List Int} {i k : Nat} [sp : SzL ps i] [sr : IzL row k] (place : Int) : ∀ n, szQ (2 + n * (i + 1 + (k + 1) + 1)) (tsum first ps row place n)
  | 0 => by
    rw [tsum_zero]
    exact half_sz _
  | n + 1 => by
    have ih := tsum_sz (first := first) (ps := ps) (row := row) place n
    rw [tsum_succ]
    haveI : Sz (tsum first ps row place n) (2 + n * (i + 1 + (k + 1) + 1)) := ⟨ih⟩
    haveI : Iz (ix row (place + first + n)) k := ⟨sr.h _⟩
    have m : (n + 1) * (i + 1 + (k + 1) + 1) = n * (i + 1 + (k + 1) + 1) + (i + 1 + (k + 1) + 1) := by rw [Nat.add_mul]; omega
    exact (inferInstance : Sz (tsum first ps row place n + gd ps n * (ix row (place + first + n) : Rat)) (2 + n * (i + 1 + (k + 1) + 1) + (i + 1 + (k + 1)) + 1)).h.mono (by omega)
theorem f_told_by_ok {side first place : Int} {ps : List Rat} {row : List Int} {i k : Nat} [sp : SzL ps i] [sr : IzL row k] (h0 : row ≠ []) (hp : ps.length ≤ 8) (hs : i + k ≤ 500) (s : DS) : f_told_by [stD side first ps, iD row, .int place] s = .ok (.int (tb first ps row place)) s := by
  have g1 : RngOk (ps.length : Int) := RngOk.small (by omega) (by omega)
  have hl := List.length_pos_iff.mpr h0
  have hl2 : (0 : Int) < (row.length : Int) := by omega
  have e0 : D.tup [.int 1, .int 2] = qD (1 / 2) := (inferInstance : QD (D.tup [.int 1, .int 2]) (1 / 2)).h
  simp [f_told_by, m_told_by, g1, sFor, bind_assoc', -List.map_map]
  refine for_cR (n := ps.length) (fun n env => ∃ x4, env = [.val (stD side first ps), .val (iD row), .val (.int place), .val (qD (tsum first ps row place n)), x4]) ?_ ?_ ?_
  · exact ⟨.no, by rw [e0, tsum_zero]⟩
  · rintro n env hn ⟨x4, rfl⟩ g Y fin
    have q1 := atI_qd (ds := ps.map qD) (l := ps) ⟨rfl⟩ hn
    have q2 := atI_ix h0 (place + first + n)
    haveI : Sz (tsum first ps row place n) (2 + n * (i + 1 + (k + 1) + 1)) := ⟨tsum_sz place n⟩
    haveI : Iz (ix row (place + first + n)) k := ⟨sr.h _⟩
    have m : n * (i + 1 + (k + 1) + 1) ≤ 8 * 600 := Nat.mul_le_mul (by omega) (by omega)
    have t1 := f_times_ok (x := qD (gd ps n)) (y := .tup [.int (ix row (place + first + n)), .int 1]) (a := gd ps n) (b := (ix row (place + first + n) : Rat)) (by omega) s
    have t2 := f_plus_ok (x := qD (tsum first ps row place n)) (y := qD (gd ps n * (ix row (place + first + n) : Rat))) (by omega) s
    simp [q1, q2, hl, hl2, t1, t2, -List.map_map]
    exact fin _ ⟨_, by rw [tsum_succ]⟩
  · rintro env ⟨x4, rfl⟩
    have m : ps.length * (i + 1 + (k + 1) + 1) ≤ 8 * 600 := Nat.mul_le_mul (by omega) (by omega)
    haveI : Sz (tsum first ps row place ps.length) (2 + ps.length * (i + 1 + (k + 1) + 1)) := ⟨tsum_sz place _⟩
    have t := f_whole_below_ok (q := tsum first ps row place ps.length) (by omega) s
    simp [t, tb]
theorem f__law_floor_ok {q : Rat} {i : Nat} [s : Sz q i] (h : i ≤ 9000) (s : DS) : f__law_floor [qD q] s = .ok (.int (flo q)) s := by
  have g : DivOk (q.den : Int) := DivOk.of (by have := q.den_pos; omega) (isz (i := (q.den : Int))) h
  simp [f__law_floor, m__law_floor, qD, g, flo]
theorem f__law_told_ok {side first place : Int} {ps : List Rat} {row : List Int} {i k : Nat} [sp : SzL ps i] [sr : IzL row k] (h0 : row ≠ []) (hp : ps.length ≤ 8) (hs : i + k ≤ 500) (s : DS) : f__law_told [stD side first ps, iD row, .int place] s = .ok (.int (tb first ps row place)) s := by
  have g1 : RngOk (ps.length : Int) := RngOk.small (by omega) (by omega)
  have hl := List.length_pos_iff.mpr h0
  have hl2 : (0 : Int) < (row.length : Int) := by omega
  have e0 : D.tup [.int 1, .int 2] = qD (1 / 2) := (inferInstance : QD (D.tup [.int 1, .int 2]) (1 / 2)).h
  simp [f__law_told, m__law_told, g1, sFor, bind_assoc', -List.map_map]
  refine for_cR (n := ps.length) (fun n env => ∃ x4, env = [.val (stD side first ps), .val (iD row), .val (.int place), .val (qD (tsum first ps row place n)), x4]) ?_ ?_ ?_
  · exact ⟨.no, by rw [e0, tsum_zero]⟩
  · rintro n env hn ⟨x4, rfl⟩ g Y fin
    have q1 := atI_qd (ds := ps.map qD) (l := ps) ⟨rfl⟩ hn
    have q2 := atI_ix h0 (place + first + n)
    haveI : Sz (tsum first ps row place n) (2 + n * (i + 1 + (k + 1) + 1)) := ⟨tsum_sz place n⟩
    haveI : Iz (ix row (place + first + n)) k := ⟨sr.h _⟩
    have m : n * (i + 1 + (k + 1) + 1) ≤ 8 * 600 := Nat.mul_le_mul (by omega) (by omega)
    have t1 := f__law_mul_ok (x := qD (gd ps n)) (y := .tup [.int (ix row (place + first + n)), .int 1]) (a := gd ps n) (b := (ix row (place + first + n) : Rat)) (by omega) s
    have t2 := f__law_add_ok (x := qD (tsum first ps row place n)) (y := qD (gd ps n * (ix row (place + first + n) : Rat))) (by omega) s
    simp [q1, q2, hl, hl2, t1, t2, -List.map_map]
    exact fin _ ⟨_, by rw [tsum_succ]⟩
  · rintro env ⟨x4, rfl⟩
    have m : ps.length * (i + 1 + (k + 1) + 1) ≤ 8 * 600 := Nat.mul_le_mul (by omega) (by omega)
    haveI : Sz (tsum first ps row place ps.length) (2 + ps.length * (i + 1 + (k + 1) + 1)) := ⟨tsum_sz place _⟩
    have t := f__law_floor_ok (q := tsum first ps row place ps.length) (by omega) s
    simp [t, tb]
end L2.Mir.W

set_option Elab.async false
set_option linter.all false
set_option maxRecDepth 100000
set_option maxHeartbeats 1000000
namespace L2.Mir.W
open PySem PySem.Spec PyProof.Rows
theorem flo_bounds (q : Rat) : (flo q : Rat) ≤ q ∧ q < (flo q : Rat) + 1 := by
  have hd : (0 : Int) < (q.den : Int) := by have := q.den_pos; omega
  have h1 := Int.mul_ediv_add_emod q.num (q.den : Int)
  have h2 := Int.emod_nonneg q.num (show (q.den : Int) ≠ 0 by omega)
  have h3 := Int.emod_lt_of_pos q.num hd
  have e : q * (q.den : Rat) = (q.num : Rat) := frac_t q
  have hdr : (0 : Rat) < (q.den : Rat) := by exact_mod_cast q.den_pos
  have k1 : (q.num : Rat) = (q.den : Rat) * (flo q : Rat) + ((q.num % (q.den : Int) : Int) : Rat) := by
    unfold flo
    exact_mod_cast h1.symm
  have k2 : (0 : Rat) ≤ ((q.num % (q.den : Int) : Int) : Rat) := by exact_mod_cast h2
  have k3 : ((q.num % (q.den : Int) : Int) : Rat) < (q.den : Rat) := by exact_mod_cast h3
  generalize ((q.num % (q.den : Int) : Int) : Rat) = r at *
  generalize (flo q : Rat) = f at *
  generalize (q.den : Rat) = d at *
  generalize (q.num : Rat) = n at *
  constructor
  · by_cases c : f ≤ q
    · exact c
    · have := Rat.mul_pos (a := f - q) (b := d) (by grind) hdr
      grind
  · by_cases c : q < f + 1
    · exact c
    · have := Rat.mul_nonneg (a := q - (f + 1)) (b := d) (by grind) (Rat.le_of_lt hdr)
      grind
structure Pb (ps : List Rat) : Prop where
  len : ps.length ≤ 3
  bd : ∀ p ∈ ps, absR p ≤ 2
  sz : SzL ps 3
def Bd (l : List Int) (M : Nat) : Prop := ∀ x ∈ l, x.natAbs ≤ M
theorem Bd.mono {l : List Int} {M N : Nat} (h : Bd l M) (hn : M ≤ N) : Bd l N := fun x hx => Nat.le_trans (h x hx) hn
theorem Bd.ig {l : List Int} {M : Nat} (h : Bd l M) (k : Nat) : (ig l k).natAbs ≤ M := by
  unfold L2.Mir.W.ig
  by_cases hk : k < l.length
  · rw [List.getD_eq_getElem?_getD, List.getElem?_eq_getElem hk]
    exact h _ (List.getElem_mem hk)
  · rw [List.getD_eq_getElem?_getD, List.getElem?_eq_none (by omega)]
    simp
theorem Bd.ix {l : List Int} {M : Nat} (h : Bd l M) (z : Int) : (ix l z).natAbs ≤ M := h.ig _
theorem Bd.iz {l : List Int} {M : Nat} (h : Bd l M) (hM : M < 2 ^ 200) : IzL l 200 := ⟨fun z => Nat.lt_of_le_of_lt (h.ix z) hM⟩
theorem absR_int {z : Int} {M : Nat} (h : z.natAbs ≤ M) : absR (z : Rat) ≤ (M : Rat) := by
  have h1 : (z : Int) ≤ (M : Int) := by omega
  have h2 : -(z : Int) ≤ (M : Int) := by omega
  have k1 : (z : Rat) ≤ (M : Rat) := by exact_mod_cast h1
  have k2 : -(z : Rat) ≤ (M : Rat) := by exact_mod_cast h2
  unfold absR; split
  · exact k2
  · exact k1
theorem tsum_bd {first : Int} {ps : List Rat} {row : List Int} {M : Nat} (hp : Pb ps) (hr : Bd row M) (place : Int) : ∀ n, n ≤ ps.length → absR (tsum first ps row place n) ≤ 1 / 2 + n * (2 * (M : Rat))
  | 0, _ => by
    rw [tsum_zero]
    have : absR (1 / 2 : Rat) = 1 / 2 := by unfold absR; rw [if_neg (by decide +kernel)]
    rw [this]
    have : ((0 : Nat) : Rat) = 0 := rfl
    rw [this]; grind
  | n + 1, hn => by
    have ih := tsum_bd (first := first) hp hr place n (by omega)
    rw [tsum_succ]
    have a1 := absR_add (tsum first ps row place n) (gd ps n * (ix row (place + first + n) : Rat))
    rw [absR_mul] at a1
    have a2 := hp.bd _ (gd_mem (l := ps) (k := n) (by omega))
    have a3 := absR_int (hr.ix (place + first + n))
    have a4 := absR_nonneg (gd ps n)
    have a5 := absR_nonneg (ix row (place + first + n) : Rat)
    have a6 : absR (gd ps n) * absR (ix row (place + first + n) : Rat) ≤ 2 * (M : Rat) := by
      have b1 := Rat.mul_nonneg (a := 2 - absR (gd ps n)) (b := absR (ix row (place + first + n) : Rat)) (by grind) a5
      grind
    have e : ((n + 1 : Nat) : Rat) = (n : Rat) + 1 := by rw [Rat.natCast_add]; rfl
    rw [e]
    generalize absR (gd ps n) * absR (ix row (place + first + n) : Rat) = x at *
    grind
theorem tb_bd {first : Int} {ps : List Rat} {row : List Int} {M : Nat} (hp : Pb ps) (hr : Bd row M) (place : Int) : (tb first ps row place).natAbs ≤ 6 * M + 2 := by
  have h1 := tsum_bd (first := first) hp hr place ps.length (Nat.le_refl _)
  have h2 := flo_bounds (tsum first ps row place ps.length)
  have hl : (ps.length : Rat) ≤ 3 := by exact_mod_cast hp.len
  have hM : (0 : Rat) ≤ (M : Rat) := by exact_mod_cast Nat.zero_le M
  have h3 : (ps.length : Rat) * (2 * (M : Rat)) ≤ 6 * (M : Rat) := by
    have := Rat.mul_nonneg (a := 3 - (ps.length : Rat)) (b := 2 * (M : Rat)) (by grind) (by grind)
    grind
  unfold tb
  generalize tsum first ps row place ps.length = q at *
  have h4 : -absR q ≤ q ∧ q ≤ absR q := by unfold absR; split <;> constructor <;> grind
  have h5 : (flo q : Rat) ≤ ((6 * M + 2 : Nat) : Rat) := by
    have : ((6 * M + 2 : Nat) : Rat) = 6 * (M : Rat) + 2 := by rw [Rat.natCast_add, Rat.natCast_mul]; rfl
    rw [this]; grind
  have h6 : -(flo q : Rat) ≤ ((6 * M + 2 : Nat) : Rat) := by
    have : ((6 * M + 2 : Nat) : Rat) = 6 * (M : Rat) + 2 := by rw [Rat.natCast_add, Rat.natCast_mul]; rfl
    rw [this]; grind
  have c : (((6 * M + 2 : Nat) : Int) : Rat) = ((6 * M + 2 : Nat) : Rat) := rfl
  have k5 : flo q ≤ ((6 * M + 2 : Nat) : Int) := by rw [← c] at h5; exact Rat.intCast_le_intCast.mp h5
  have k6 : -(flo q) ≤ ((6 * M + 2 : Nat) : Int) := by rw [← c, ← Rat.intCast_neg] at h6; exact Rat.intCast_le_intCast.mp h6
  omega
/-- one list with what a step tells by the other -/
def bump (first : Int) (ps : List Rat) (sg : Int) (l o : List Int) : List Int := (List.range l.length).map fun k => ig l k + sg * tb first ps o k
@[simp] theorem bump_len (first : Int) (ps : List Rat) (sg : Int) (l o : List Int) : (bump first ps sg l o).length = l.length := by simp [bump]
theorem ig_bump {first : Int} {ps : List Rat} {sg : Int} {l o : List Int} {k : Nat} (h : k < l.length) : ig (bump first ps sg l o) k = ig l k + sg * tb first ps o k := by simp [ig, bump, List.getD, h]
theorem ig_ext {l m : List Int} (h : l.length = m.length) (h2 : ∀ j, j < l.length → ig l j = ig m j) : l = m := by
  refine List.ext_getElem h fun j a b => ?_
  have := h2 j a
  simpa [ig, List.getD, a, b] using this
theorem bump_back {first : Int} {ps : List Rat} {sg : Int} {l o : List Int} : bump first ps (-sg) (bump first ps sg l o) o = l := by
  refine ig_ext (by simp) fun j hj => ?_
  rw [bump_len, bump_len] at hj
  rw [ig_bump (by simpa using hj), ig_bump hj, Int.neg_mul]
  omega
theorem bump_bd {first : Int} {ps : List Rat} {sg : Int} {l o : List Int} {M : Nat} (hp : Pb ps) (hs : sg = 1 ∨ sg = -1) (hl : Bd l M) (ho : Bd o M) : Bd (bump first ps sg l o) (7 * M + 2) := by
  intro x hx
  obtain ⟨k, hk, rfl⟩ := List.mem_map.mp hx
  have h1 := hl.ig k
  have h2 := tb_bd (first := first) hp ho k
  rcases hs with rfl | rfl <;> omega
end L2.Mir.W

set_option Elab.async false
set_option linter.all false
set_option maxRecDepth 100000
set_option maxHeartbeats 1000000
namespace L2.Mir.W
open PySem PySem.Spec PyProof.Rows
/-- what a step makes of a pair -/
def stp (side first : Int) (ps : List Rat) (sg : Int) (p : List Int × List Int) : List Int × List Int := if side = 0 then (bump first ps sg p.1 p.2, p.2) else (p.1, bump first ps sg p.2 p.1)
abbrev pD (p : List Int × List Int) : D := .tup [iD p.1, iD p.2]
theorem comp_int {f : D → M (Option D)} {s : DS} {n : Nat} (g : Nat → Int) (h : ∀ k, k < n → f (.int k) s = .ok (some (.int (g k))) s) : lcGo f (rngD 0 (n : Int)) s = .ok (((List.range n).map g).map .int) s := by
  have e1 : rngD 0 (n : Int) = (List.range n).map fun (k : Nat) => D.int (k : Int) := by
    unfold rngD
    simp
  rw [e1, lcGo_mapE (g := fun k => D.int (g k))]
  · rw [List.map_map]; rfl
  · intro k hk
    exact h k (List.mem_range.mp hk)
theorem f_stepped_ok {side first sg : Int} {ps : List Rat} {a b : List Int} {M : Nat} (hp : Pb ps) (hside : side = 0 ∨ side = 1) (hsg : sg = 1 ∨ sg = -1) (ha : Bd a M) (hb : Bd b M) (hM : M < 2 ^ 190) (hl : a.length = b.length) (h0 : a ≠ []) (h9 : a.length ≤ 900) (s : DS) :
    f_stepped [pD (a, b), stD side first ps, .int sg] s = .ok (pD (stp side first ps sg (a, b))) s := by
  have b0 : b ≠ [] := by intro e; rw [e] at hl; exact h0 (List.eq_nil_of_length_eq_zero hl)
  have g1 : RngOk (a.length : Int) := RngOk.small (by omega) (by omega)
  have g1' : RngOk (b.length : Int) := RngOk.small (by omega) (by omega)
  have g2 : LenOk a.length := LenOk.small (by omega)
  have g2' : LenOk b.length := LenOk.small (by omega)
  haveI := hp.sz
  have hM2 : M < 2 ^ 200 := Nat.lt_of_lt_of_le hM (Nat.pow_le_pow_right (by decide) (by decide))
  haveI za := ha.iz hM2
  haveI zb := hb.iz hM2
  have hlen := hp.len
  have tz : ∀ (row : List Int) (k : Int), Bd row M → mulOk sg (tb first ps row k) = true := fun row k hr => by
    haveI : Iz sg 1 := ⟨by rcases hsg with rfl | rfl <;> decide⟩
    haveI : Iz (tb first ps row k) 200 := ⟨by
      have := tb_bd (first := first) hp hr k
      have e : (2 : Nat) ^ 200 = 2 ^ 190 * 1024 := by rw [show 200 = 190 + 10 by rfl, Nat.pow_add]
      rw [e]; omega⟩
    exact mulOk_iz (i := sg) (j := tb first ps row k) (by omega)
  rcases hside with rfl | rfl
  · have ec : lcGo (lcF (.n 6) tsYes (mBin opAdd (mBin opIxQ (mBin opIxQ (mVar 0) (mVar 3)) (mVar 6)) (mBin opMulT (mVar 2) (mCall f_told_by (mCons (mVar 1) (mCons (mVar 4) (mCons (mVar 6) mNil)))))) [some (pD (a, b)), some (stD 0 first ps), some (.int sg), some (.int 0), some (iD b), none, none]) (rngD 0 (a.length : Int)) s = .ok ((bump first ps sg a b).map .int) s := by
      rw [comp_int (fun k => ig a k + sg * tb first ps b k)]
      · rfl
      · intro k hk
        have q1 := atI_int hk
        have t := f_told_by_ok (side := 0) (first := first) (place := k) (ps := ps) (row := b) b0 (by omega) (by omega) s
        have m := tz b k hb
        simp [q1, t, m]
    simp [f_stepped, m_stepped, g1, len_rngD, g2, ec, stp, -lcF, -List.map_map]
  · have ec : lcGo (lcF (.n 6) tsYes (mBin opAdd (mBin opIxQ (mBin opIxQ (mVar 0) (mVar 3)) (mVar 6)) (mBin opMulT (mVar 2) (mCall f_told_by (mCons (mVar 1) (mCons (mVar 4) (mCons (mVar 6) mNil)))))) [some (pD (a, b)), some (stD 1 first ps), some (.int sg), some (.int 1), some (iD a), none, none]) (rngD 0 (b.length : Int)) s = .ok ((bump first ps sg b a).map .int) s := by
      rw [comp_int (fun k => ig b k + sg * tb first ps a k)]
      · rfl
      · intro k hk
        have q1 := atI_int hk
        have t := f_told_by_ok (side := 1) (first := first) (place := k) (ps := ps) (row := a) h0 (by omega) (by omega) s
        have m := tz a k ha
        simp [q1, t, m]
    simp [f_stepped, m_stepped, g1', len_rngD, g2', ec, stp, -lcF, -List.map_map]
end L2.Mir.W

set_option Elab.async false
set_option linter.all false
set_option maxRecDepth 100000
set_option maxHeartbeats 1000000
namespace L2.Mir.W
open PySem PySem.Spec PyProof.Rows
structure St where
  side : Int
  first : Int
  ps : List Rat
structure St.ok (t : St) : Prop where
  side : t.side = 0 ∨ t.side = 1
  pb : Pb t.ps
abbrev St.D (t : St) : L2.Mir.D := stD t.side t.first t.ps
def aprt (ts : List St) (sg : Int) (p : List Int × List Int) : List Int × List Int := ts.foldl (fun p t => stp t.side t.first t.ps sg p) p
structure Pr (p : List Int × List Int) (n M : Nat) : Prop where
  l1 : p.1.length = n
  l2 : p.2.length = n
  b1 : Bd p.1 M
  b2 : Bd p.2 M
theorem Pr.mono {p : List Int × List Int} {n M N : Nat} (h : Pr p n M) (hN : M ≤ N) : Pr p n N := ⟨h.l1, h.l2, h.b1.mono hN, h.b2.mono hN⟩
theorem Pr.stp {p : List Int × List Int} {n M : Nat} {t : St} {sg : Int} (h : Pr p n M) (ht : t.ok) (hs : sg = 1 ∨ sg = -1) : Pr (stp t.side t.first t.ps sg p) n (7 * M + 2) := by
  unfold L2.Mir.W.stp
  split
  · exact ⟨by simp [h.l1], h.l2, bump_bd ht.pb hs h.b1 h.b2, h.b2.mono (by omega)⟩
  · exact ⟨h.l1, by simp [h.l2], h.b1.mono (by omega), bump_bd ht.pb hs h.b2 h.b1⟩
def grow : Nat → Nat → Nat
  | 0, M => M
  | k + 1, M => grow k (7 * M + 2)
theorem Pr.aprt {n : Nat} {sg : Int} (hs : sg = 1 ∨ sg = -1) : ∀ (ts : List St) (p : List Int × List Int) (M : Nat), Pr p n M → (∀ t ∈ ts, t.ok) → Pr (aprt ts sg p) n (grow ts.length M)
  | [], p, M, h, _ => h
  | t :: ts, p, M, h, ht => by
    have := Pr.aprt hs ts _ _ (h.stp (ht t (by simp)) hs) fun t ht' => ht t (by simp [ht'])
    exact this
theorem stp_back {t : St} {sg : Int} {p : List Int × List Int} : stp t.side t.first t.ps (-sg) (stp t.side t.first t.ps sg p) = p := by
  unfold stp
  by_cases c : t.side = 0
  · simp [c, bump_back]
  · simp [c, bump_back]
/-- steps undone, the last first -/
theorem aprt_back (sg : Int) : ∀ (ts : List St) (p : List Int × List Int), aprt ts.reverse (-sg) (aprt ts sg p) = p
  | [], p => rfl
  | t :: ts, p => by
    unfold aprt
    rw [List.reverse_cons, List.foldl_append]
    simp only [List.foldl_cons, List.foldl_nil]
    have := aprt_back sg ts (stp t.side t.first t.ps sg p)
    unfold aprt at this
    rw [this]
    exact stp_back
/-! ### numbers at even and at odd places -/
def evs (l : List Int) : List Int := (List.range (l.length / 2)).map fun k => ig l (2 * k)
def ods (l : List Int) : List Int := (List.range (l.length / 2)).map fun k => ig l (2 * k + 1)
theorem filterMap_all {α β : Type} {f : α → Option β} {g : α → β} : ∀ {l : List α}, (∀ a ∈ l, f a = some (g a)) → l.filterMap f = l.map g
  | [], _ => rfl
  | a :: l, h => by
    rw [List.filterMap_cons_some (h a (by simp)), List.map_cons, filterMap_all fun a ha => h a (by simp [ha])]
theorem str_ev {l : List Int} {n : Nat} (hl : l.length = 2 * n) : strD 2 none (l.map D.int) = (evs l).map D.int := by
  unfold strD
  rw [filterMap_all (g := fun k => D.int (ig l k))]
  · unfold strI evs
    simp only [HT.sIx, List.length_map, hl, List.map_map]
    have e1 : (((if ((0 : Nat) : Int) < ((2 * n : Nat) : Int) then (((2 * n : Nat) : Int) - ((0 : Nat) : Int) + ((2 : Nat) : Int) - 1) / ((2 : Nat) : Int) else 0) : Int).toNat) = n := by split <;> omega
    have e2 : 2 * n / 2 = n := by omega
    rw [e1, e2]
    refine List.map_congr_left fun k hk => ?_
    simp
  · intro k hk
    unfold strI at hk
    obtain ⟨j, hj, rfl⟩ := List.mem_map.mp hk
    rw [List.mem_range] at hj
    simp only [HT.sIx, List.length_map, hl] at hj ⊢
    have hlt : 2 * j < l.length := by split at hj <;> omega
    rw [Nat.zero_add, List.getElem?_map, List.getElem?_eq_getElem hlt]
    simp [ig, List.getD, hlt]
theorem str_od {l : List Int} {n : Nat} (hl : l.length = 2 * n) (hn : 1 ≤ n) : strD 2 (some 1) (l.map D.int) = (ods l).map D.int := by
  unfold strD
  have e0 : HT.sIx (2 * n) 0 (some 1) = 1 := by simp [HT.sIx]; omega
  rw [filterMap_all (g := fun k => D.int (ig l k))]
  · unfold strI ods
    simp only [List.length_map, hl, List.map_map, e0]
    have e1 : (((if ((1 : Nat) : Int) < ((2 * n : Nat) : Int) then (((2 * n : Nat) : Int) - ((1 : Nat) : Int) + ((2 : Nat) : Int) - 1) / ((2 : Nat) : Int) else 0) : Int).toNat) = n := by split <;> omega
    have e2 : 2 * n / 2 = n := by omega
    rw [e1, e2]
    refine List.map_congr_left fun k hk => ?_
    simp [Nat.add_comm]
  · intro k hk
    unfold strI at hk
    obtain ⟨j, hj, rfl⟩ := List.mem_map.mp hk
    rw [List.mem_range] at hj
    simp only [List.length_map, hl, e0] at hj ⊢
    have hlt : 1 + 2 * j < l.length := by split at hj <;> omega
    rw [List.getElem?_map, List.getElem?_eq_getElem hlt]
    simp [ig, List.getD, hlt]
theorem f_is_wholes_ok {l : List Int} {n : Nat} (hl : l.length = 2 * n) (h1 : 1 ≤ n) (h32 : n ≤ 32) (s : DS) : f_is_wholes [iD l] s = .ok (.bl true) s := by
  have g : LenOk l.length := LenOk.small (by omega)
  have a1 : (2 : Int) ≤ (l.length : Int) := by omega
  have a2 : (l.length : Int) ≤ 64 := by omega
  have a3 : ¬ ((l.length : Int) % 2 = 1) := by omega
  have ec : lcGo (lcF (.n 1) tsYes (mAnd (mIsi "int" (mVar 1)) (mNot (mIsi "bool" (mVar 1)))) [some (iD l), none]) (l.map .int) s = .ok (l.map fun _ => .bl true) s := by
    rw [lcGo_mapE (g := fun _ => D.bl true)]
    intro z hz
    simp
  have ea : (l.map fun _ => true).all id = true := by simp
  simp [f_is_wholes, m_is_wholes, a1, a2, a3, ec, g, -lcF]
end L2.Mir.W

set_option Elab.async false
set_option linter.all false
set_option maxRecDepth 100000
set_option maxHeartbeats 1000000
namespace L2.Mir.W
open PySem PySem.Spec PyProof.Rows
theorem aprt_take (ts : List St) (sg : Int) (p : List Int × List Int) {k : Nat} {t : St} (h : ts[k]? = some t) : aprt (ts.take (k + 1)) sg p = stp t.side t.first t.ps sg (aprt (ts.take k) sg p) := by
  unfold aprt
  rw [List.take_add_one, h]
  simp [List.foldl_append]
theorem grow_mono : ∀ (k : Nat) {M N : Nat}, M ≤ N → grow k M ≤ grow k N
  | 0, _, _, h => h
  | k + 1, M, N, h => grow_mono k (by omega)
theorem grow_add : ∀ (a b M : Nat), grow (a + b) M = grow b (grow a M)
  | 0, b, M => by rw [Nat.zero_add]; rfl
  | a + 1, b, M => by
    have : a + 1 + b = (a + b) + 1 := by omega
    rw [this]
    exact grow_add a b (7 * M + 2)
theorem grow_le (k M : Nat) : M ≤ grow k M := by
  induction k generalizing M with
  | zero => exact Nat.le_refl _
  | succ k ih => exact Nat.le_trans (by omega) (ih (7 * M + 2))
theorem f_apart_ok {l : List Int} {ts : List St} {n M : Nat} (hl : l.length = 2 * n) (h1 : 1 ≤ n) (h32 : n ≤ 32) (ht : ∀ t ∈ ts, t.ok) (hb : Bd l M) (hM : grow ts.length M < 2 ^ 190) (s : DS) :
    f_apart [iD l, .tup (ts.map St.D)] s = .ok (pD (aprt ts 1 (evs l, ods l))) s := by
  have w := f_is_wholes_ok hl h1 h32 s
  have e1 := str_ev hl
  have e2 := str_od hl h1
  have p0 : Pr (evs l, ods l) n M := by
    refine ⟨by simp [evs, hl], by simp [ods, hl], fun x hx => ?_, fun x hx => ?_⟩
    · obtain ⟨k, _, rfl⟩ := List.mem_map.mp hx
      exact hb.ig _
    · obtain ⟨k, _, rfl⟩ := List.mem_map.mp hx
      exact hb.ig _
  simp [f_apart, m_apart, w, e1, e2, sFor, bind_assoc', -List.map_map]
  refine for_bind (fun k env => ∃ x3, env = [.val (iD l), .val (.tup (ts.map St.D)), .val (pD (aprt (ts.take k) 1 (evs l, ods l))), x3]) ?_ ?_ ?_
  · exact ⟨.no, rfl⟩
  · rintro k env d hd ⟨x3, rfl⟩
    rw [List.getElem?_map] at hd
    cases h : ts[k]? with
    | none => rw [h] at hd; cases hd
    | some t =>
      rw [h] at hd
      cases hd
      have hk : k < ts.length := (List.getElem?_eq_some_iff.mp h).1
      have ht' := ht t (List.mem_of_getElem? h)
      have pk := Pr.aprt (sg := 1) (.inl rfl) (ts.take k) _ _ p0 fun t ht'' => ht t (List.mem_of_mem_take ht'')
      have hg : grow (ts.take k).length M < 2 ^ 190 := by
        rw [List.length_take, Nat.min_eq_left (by omega)]
        have : ts.length = k + (ts.length - k) := by omega
        rw [this, grow_add] at hM
        exact Nat.lt_of_le_of_lt (grow_le _ _) hM
      generalize hq : aprt (ts.take k) 1 (evs l, ods l) = q at *
      obtain ⟨a, b⟩ := q
      have hl1 : a.length = n := pk.l1
      have hl2 : b.length = n := pk.l2
      have r := f_stepped_ok (side := t.side) (first := t.first) (sg := 1) (ps := t.ps) (a := a) (b := b) ht'.pb ht'.side (.inl rfl) pk.b1 pk.b2 hg (by omega) (by intro e; rw [e] at hl1; simp at hl1; omega) (by omega) s
      refine ⟨[(3, t.D)], [.val (iD l), .val (.tup (ts.map St.D)), .val (pD (stp t.side t.first t.ps 1 (a, b))), .val t.D], rfl, .inl ?_, .val t.D, ?_⟩
      · simp [setSl, r, -List.map_map]
      · rw [aprt_take ts 1 _ h, hq]
  · rintro env ⟨x3, rfl⟩
    rw [List.length_map, List.take_length]
    simp
end L2.Mir.W

set_option Elab.async false
set_option linter.all false
set_option maxRecDepth 100000
set_option maxHeartbeats 1000000
namespace L2.Mir.W
open PySem PySem.Spec PyProof.Rows
/-- two lists, one number from each in turn -/
def wv (p : List Int × List Int) : List Int := ((List.range p.1.length).map fun k => [ig p.1 k, ig p.2 k]).flatten
theorem wvN_len (a b : List Int) : ∀ m, (((List.range m).map fun k => [ig a k, ig b k]).flatten).length = 2 * m
  | 0 => rfl
  | m + 1 => by
    rw [List.range_succ, List.map_append, List.flatten_append, List.length_append, wvN_len a b m]
    simp; omega
theorem wv_len (p : List Int × List Int) : (wv p).length = 2 * p.1.length := wvN_len _ _ _
theorem ig_app {a b : List Int} {k : Nat} (h : k < a.length) : ig (a ++ b) k = ig a k := by
  unfold ig; rw [List.getD_eq_getElem?_getD, List.getD_eq_getElem?_getD, List.getElem?_append_left h]
theorem ig_app_r {a b : List Int} {k : Nat} (h : a.length ≤ k) : ig (a ++ b) k = ig b (k - a.length) := by
  unfold ig; rw [List.getD_eq_getElem?_getD, List.getD_eq_getElem?_getD, List.getElem?_append_right h]
theorem wvN_ig (a b : List Int) : ∀ m k, k < m → ig (((List.range m).map fun k => [ig a k, ig b k]).flatten) (2 * k) = ig a k ∧ ig (((List.range m).map fun k => [ig a k, ig b k]).flatten) (2 * k + 1) = ig b k
  | 0, k, h => by omega
  | m + 1, k, h => by
    have hl := wvN_len a b m
    rw [List.range_succ, List.map_append, List.flatten_append]
    by_cases c : k < m
    · have ih := wvN_ig a b m k c
      rw [ig_app (by omega), ig_app (by omega)]
      exact ih
    · have e : k = m := by omega
      subst e
      rw [ig_app_r (by omega), ig_app_r (by omega), hl]
      have z1 : 2 * k - 2 * k = 0 := by omega
      have z2 : 2 * k + 1 - 2 * k = 1 := by omega
      rw [z1, z2]
      exact ⟨rfl, rfl⟩
theorem evs_wv {p : List Int × List Int} : evs (wv p) = p.1 := by
  refine ig_ext (by simp [evs, wv_len]) fun j hj => ?_
  have hj' : j < p.1.length := by simpa [evs, wv_len] using hj
  have h : j < (wv p).length / 2 := by rw [wv_len]; omega
  have := (wvN_ig p.1 p.2 p.1.length j hj').1
  unfold evs
  have e : ig ((List.range ((wv p).length / 2)).map fun k => ig (wv p) (2 * k)) j = ig (wv p) (2 * j) := by
    conv => lhs; unfold ig
    simp [List.getD, h]
    rfl
  rw [e]; exact this
theorem ods_wv {p : List Int × List Int} (hl : p.2.length = p.1.length) : ods (wv p) = p.2 := by
  refine ig_ext (by simp [ods, wv_len, hl]) fun j hj => ?_
  have hj' : j < p.1.length := by simpa [ods, wv_len] using hj
  have h : j < (wv p).length / 2 := by rw [wv_len]; omega
  have := (wvN_ig p.1 p.2 p.1.length j hj').2
  unfold ods
  have e : ig ((List.range ((wv p).length / 2)).map fun k => ig (wv p) (2 * k + 1)) j = ig (wv p) (2 * j + 1) := by
    conv => lhs; unfold ig
    simp [List.getD, h]
    rfl
  rw [e]; exact this
theorem wv_split {l : List Int} {n : Nat} (hl : l.length = 2 * n) : wv (evs l, ods l) = l := by
  have e2 : l.length / 2 = n := by omega
  have h1 : (evs l).length = n := by simp [evs, e2]
  refine ig_ext (by rw [wv_len, h1, hl]) fun j hj => ?_
  rw [wv_len, h1] at hj
  have k1 := wvN_ig (evs l) (ods l) n (j / 2) (by omega)
  have a1 : ig (evs l) (j / 2) = ig l (2 * (j / 2)) := by
    have : j / 2 < l.length / 2 := by omega
    unfold evs; conv => lhs; unfold ig
    simp [List.getD, this]
    rfl
  have a2 : ig (ods l) (j / 2) = ig l (2 * (j / 2) + 1) := by
    have : j / 2 < l.length / 2 := by omega
    unfold ods; conv => lhs; unfold ig
    simp [List.getD, this]
    rfl
  rw [a1, a2] at k1
  unfold wv
  show ig (((List.range (evs l).length).map fun k => [ig (evs l) k, ig (ods l) k]).flatten) j = ig l j
  rw [h1]
  rcases Nat.mod_two_eq_zero_or_one j with c | c
  · have : j = 2 * (j / 2) := by omega
    rw [this]; exact k1.1
  · have : j = 2 * (j / 2) + 1 := by omega
    rw [this]; exact k1.2
end L2.Mir.W

set_option Elab.async false
set_option linter.all false
set_option maxRecDepth 100000
set_option maxHeartbeats 1000000
namespace L2.Mir.W
open PySem PySem.Spec PyProof.Rows
def wvN (a b : List Int) (m : Nat) : List Int := ((List.range m).map fun k => [ig a k, ig b k]).flatten
theorem wvN_succ (a b : List Int) (m : Nat) : wvN a b (m + 1) = wvN a b m ++ [ig a m, ig b m] := by
  unfold wvN; rw [List.range_succ, List.map_append, List.flatten_append]; rfl
theorem wvN_length (a b : List Int) (m : Nat) : (wvN a b m).length = 2 * m := wvN_len a b m
theorem f_together_ok {p : List Int × List Int} {ts : List St} {n M : Nat} (hp : Pr p n M) (h1 : 1 ≤ n) (h32 : n ≤ 400) (ht : ∀ t ∈ ts, t.ok) (hM : grow ts.length M < 2 ^ 190) (s : DS) :
    f_together [pD p, .tup (ts.map St.D)] s = .ok (iD (wv (aprt ts.reverse (-1) p))) s := by
  have er : (ts.map St.D).reverse = ts.reverse.map St.D := by rw [List.map_reverse]
  have hl := hp.l1
  have hl2 := hp.l2
  have hn : ¬ ((p.1.length : Int) = 0) := by omega
  have hr := Pr.aprt (sg := -1) (.inr rfl) ts.reverse _ _ hp fun t h => ht t (List.mem_reverse.mp h)
  have c1 : ((p.1.length : Nat) : Int) = ((p.2.length : Nat) : Int) := by omega
  simp [f_together, m_together, hl, hl2, sFor, bind_assoc', er, -List.map_reverse, -List.map_map]
  rw [if_neg (by omega)]
  simp [bind_assoc', er, -List.map_reverse, -List.map_map]
  refine for_bind (fun k env => ∃ x2, env = [.val (pD (aprt (ts.reverse.take k) (-1) p)), .val (.tup (ts.map St.D)), x2, .no, .no]) ?_ ?_ ?_
  · exact ⟨.no, rfl⟩
  · rintro k env d hd ⟨x2, rfl⟩
    rw [List.getElem?_map] at hd
    cases h : ts.reverse[k]? with
    | none => rw [h] at hd; cases hd
    | some t =>
      rw [h] at hd
      cases hd
      have hk : k < ts.reverse.length := (List.getElem?_eq_some_iff.mp h).1
      rw [List.length_reverse] at hk
      have ht' := ht t (List.mem_reverse.mp (List.mem_of_getElem? h))
      have pk := Pr.aprt (sg := -1) (.inr rfl) (ts.reverse.take k) _ _ hp fun t ht'' => ht t (List.mem_reverse.mp (List.mem_of_mem_take ht''))
      have hg : grow (ts.reverse.take k).length M < 2 ^ 190 := by
        rw [List.length_take, List.length_reverse, Nat.min_eq_left (by omega)]
        have : ts.length = k + (ts.length - k) := by omega
        rw [this, grow_add] at hM
        exact Nat.lt_of_le_of_lt (grow_le _ _) hM
      have et := aprt_take ts.reverse (-1) p h
      generalize hq : aprt (ts.reverse.take k) (-1) p = q at *
      obtain ⟨a, b⟩ := q
      have hl1 : a.length = n := pk.l1
      have hl2 : b.length = n := pk.l2
      have r := f_stepped_ok (side := t.side) (first := t.first) (sg := -1) (ps := t.ps) (a := a) (b := b) ht'.pb ht'.side (.inr rfl) pk.b1 pk.b2 hg (by omega) (by intro e; rw [e] at hl1; simp at hl1; omega) (by omega) s
      refine ⟨[(2, t.D)], [.val (pD (stp t.side t.first t.ps (-1) (a, b))), .val (.tup (ts.map St.D)), .val t.D, .no, .no], rfl, .inl ?_, .val t.D, ?_⟩
      · simp [setSl, r, -List.map_map]
      · rw [et]
  · rintro env ⟨x2, rfl⟩
    rw [List.length_map, List.take_length]
    generalize aprt ts.reverse (-1) p = q at *
    have q1 := hr.l1
    have q2 := hr.l2
    have g1 : RngOk (q.1.length : Int) := RngOk.small (by omega) (by omega)
    simp [g1, bind_assoc', -List.map_map]
    refine for_cR (n := q.1.length) (fun k env => ∃ x4, env = [.val (pD q), .val (.tup (ts.map St.D)), x2, .own ((wvN q.1 q.2 k).map .int), x4]) ?_ ?_ ?_
    · exact ⟨.no, by simp [wvN]⟩
    · rintro k env hk ⟨x4, rfl⟩ g Y fin
      have a1 := atI_int hk
      have a2 := atI_int (l := q.2) (k := k) (by omega)
      have wl := wvN_length q.1 q.2 k
      have gL : LenOk (2 * k + 2) := LenOk.small (by omega)
      simp [a1, a2, wl, gL, -List.map_map]
      exact fin _ ⟨.val (.int k), by rw [wvN_succ, List.map_append]; rfl⟩
    · rintro env ⟨x4, rfl⟩
      simp [-List.map_map]
      rfl
end L2.Mir.W

set_option Elab.async false
set_option linter.all false
set_option maxRecDepth 100000
set_option maxHeartbeats 1000000
namespace L2.Mir.W
open PySem PySem.Spec PyProof.Rows
theorem f__law_apart_ok {l : List Int} {ts : List St} {sg : Int} {n M : Nat} (hsg : sg = 1 ∨ sg = -1) (hl : l.length = 2 * n) (h1 : 1 ≤ n) (h32 : n ≤ 400) (ht : ∀ t ∈ ts, t.ok) (hb : Bd l M) (hM : grow ts.length M < 2 ^ 190) (s : DS) :
    f__law_apart [iD l, .tup (ts.map St.D), .int sg] s = .ok (pD (aprt ts sg (evs l, ods l))) s := by
  have e1 := str_ev hl
  have e2 := str_od hl h1
  have p0 : Pr (evs l, ods l) n M := by
    refine ⟨by simp [evs, hl], by simp [ods, hl], fun x hx => ?_, fun x hx => ?_⟩
    · obtain ⟨k, _, rfl⟩ := List.mem_map.mp hx
      exact hb.ig _
    · obtain ⟨k, _, rfl⟩ := List.mem_map.mp hx
      exact hb.ig _
  simp [f__law_apart, m__law_apart, e1, e2, sFor, bind_assoc', -List.map_map]
  refine for_bind (fun k env => ∃ x4 x5 x6 x7, env = [.val (iD l), .val (.tup (ts.map St.D)), .val (.int sg), .val (.lst [iD (aprt (ts.take k) sg (evs l, ods l)).1, iD (aprt (ts.take k) sg (evs l, ods l)).2]), x4, x5, x6, x7, .no]) ?_ ?_ ?_
  · exact ⟨.no, .no, .no, .no, rfl⟩
  · rintro k env d hd ⟨x4, x5, x6, x7, rfl⟩
    rw [List.getElem?_map] at hd
    cases h : ts[k]? with
    | none => rw [h] at hd; cases hd
    | some t =>
      rw [h] at hd
      cases hd
      have hk : k < ts.length := (List.getElem?_eq_some_iff.mp h).1
      have ht' := ht t (List.mem_of_getElem? h)
      have pk := Pr.aprt (sg := sg) hsg (ts.take k) _ _ p0 fun t ht'' => ht t (List.mem_of_mem_take ht'')
      have hg : grow (ts.take k).length M < 2 ^ 190 := by
        rw [List.length_take, Nat.min_eq_left (by omega)]
        have : ts.length = k + (ts.length - k) := by omega
        rw [this, grow_add] at hM
        exact Nat.lt_of_le_of_lt (grow_le _ _) hM
      have et := aprt_take ts sg (evs l, ods l) h
      generalize hq : aprt (ts.take k) sg (evs l, ods l) = q at *
      obtain ⟨a, b⟩ := q
      have hl1 : a.length = n := pk.l1
      have hl2 : b.length = n := pk.l2
      have ha0 : a ≠ [] := by intro e; rw [e] at hl1; simp at hl1; omega
      have hb0 : b ≠ [] := by intro e; rw [e] at hl2; simp at hl2; omega
      have g1 : RngOk (n : Int) := RngOk.small (by omega) (by omega)
      have g2 : LenOk n := LenOk.small (by omega)
      haveI := ht'.pb.sz
      have hlen := ht'.pb.len
      have hM2 : grow (ts.take k).length M < 2 ^ 200 := Nat.lt_of_lt_of_le hg (Nat.pow_le_pow_right (by decide) (by decide))
      haveI za : IzL a 200 := pk.b1.iz hM2
      haveI zb : IzL b 200 := pk.b2.iz hM2
      have tz : ∀ (row : List Int) (j : Int), Bd row (grow (ts.take k).length M) → mulOk sg (tb t.first t.ps row j) = true := fun row j hr => by
        haveI : Iz sg 1 := ⟨by rcases hsg with rfl | rfl <;> decide⟩
        haveI : Iz (tb t.first t.ps row j) 200 := ⟨by
          have := tb_bd (first := t.first) ht'.pb hr j
          have e : (2 : Nat) ^ 200 = 2 ^ 190 * 1024 := by rw [show 200 = 190 + 10 by rfl, Nat.pow_add]
          rw [e]; omega⟩
        exact mulOk_iz (i := sg) (j := tb t.first t.ps row j) (by omega)
      obtain ⟨side, first, ps⟩ := t
      rcases ht'.side with hs0 | hs0 <;> simp only at hs0 <;> subst hs0
      · have ec : lcGo (lcF (.n 8) tsYes (mBin opAdd (mBin opIxQ (mBin opIxQ (mVar 3) (mVar 5)) (mVar 8)) (mBin opMulT (mVar 2) (mCall f__law_told (mCons (mVar 4) (mCons (mVar 6) (mCons (mVar 8) mNil)))))) [some (iD l), some (.tup (ts.map St.D)), some (.int sg), some (.lst [iD a, iD b]), some (stD 0 first ps), some (.int 0), some (iD b), x7.hide, none]) (rngD 0 (n : Int)) s = .ok ((bump first ps sg a b).map .int) s := by
          rw [comp_int (fun k => ig a k + sg * tb first ps b k)]
          · unfold bump; rw [hl1]
          · intro j hj
            have q1 := atI_int (l := a) (k := j) (by omega)
            have r := f__law_told_ok (side := 0) (first := first) (place := j) (ps := ps) (row := b) hb0 (by simp only at hlen; omega) (by omega) s
            have m := tz b j pk.b2
            simp only at m
            simp [q1, r, m]
        refine ⟨[(4, stD 0 first ps)], [.val (iD l), .val (.tup (ts.map St.D)), .val (.int sg), .val (.lst [iD (bump first ps sg a b), iD b]), .val (stD 0 first ps), .val (.int 0), .val (iD b), .val (iD (bump first ps sg a b)), .no], rfl, .inl ?_, .val (stD 0 first ps), .val (.int 0), .val (iD b), .val (iD (bump first ps sg a b)), ?_⟩
        · have hv : ∀ d, (Sl.val d).hide = some d := fun _ => rfl
          have hn : Sl.no.hide = none := rfl
          simp [setSl, hl1, hl2, g1, g2, len_rngD, ec, hv, hn, -Sl.hide, -lcF, -List.map_map]
        · rw [et]; rfl
      · have ec : lcGo (lcF (.n 8) tsYes (mBin opAdd (mBin opIxQ (mBin opIxQ (mVar 3) (mVar 5)) (mVar 8)) (mBin opMulT (mVar 2) (mCall f__law_told (mCons (mVar 4) (mCons (mVar 6) (mCons (mVar 8) mNil)))))) [some (iD l), some (.tup (ts.map St.D)), some (.int sg), some (.lst [iD a, iD b]), some (stD 1 first ps), some (.int 1), some (iD a), x7.hide, none]) (rngD 0 (n : Int)) s = .ok ((bump first ps sg b a).map .int) s := by
          rw [comp_int (fun k => ig b k + sg * tb first ps a k)]
          · unfold bump; rw [hl2]
          · intro j hj
            have q1 := atI_int (l := b) (k := j) (by omega)
            have r := f__law_told_ok (side := 1) (first := first) (place := j) (ps := ps) (row := a) ha0 (by simp only at hlen; omega) (by omega) s
            have m := tz a j pk.b1
            simp only at m
            simp [q1, r, m]
        refine ⟨[(4, stD 1 first ps)], [.val (iD l), .val (.tup (ts.map St.D)), .val (.int sg), .val (.lst [iD a, iD (bump first ps sg b a)]), .val (stD 1 first ps), .val (.int 1), .val (iD a), .val (iD (bump first ps sg b a)), .no], rfl, .inl ?_, .val (stD 1 first ps), .val (.int 1), .val (iD a), .val (iD (bump first ps sg b a)), ?_⟩
        · have hv : ∀ d, (Sl.val d).hide = some d := fun _ => rfl
          have hn : Sl.no.hide = none := rfl
          simp [setSl, hl1, hl2, g1, g2, len_rngD, ec, hv, hn, -Sl.hide, -lcF, -List.map_map]
        · rw [et]; rfl
  · rintro env ⟨x4, x5, x6, x7, rfl⟩
    rw [List.length_map, List.take_length]
    simp
end L2.Mir.W

set_option Elab.async false
set_option linter.all false
set_option maxRecDepth 100000
set_option maxHeartbeats 1000000
namespace L2.Mir.W
open PySem PySem.Spec PyProof.Rows
theorem okDs_ints (n : Nat) : ∀ l : List Int, okDs (n + 1) (l.map D.int) = true
  | [] => by simp
  | a :: l => by simp [okDs_ints n l]
theorem deqs_ints : ∀ l m : List Int, deqs (l.map D.int) (m.map D.int) = decide (l = m)
  | [], [] => by simp
  | [], b :: m => by simp
  | a :: l, [] => by simp
  | a :: l, b :: m => by simp [deqs_ints l m]
theorem neg_neg_one : (-1 : Int) = -(1 : Int) := rfl
/-- there and back -/
theorem back_row {l : List Int} {ts : List St} {n : Nat} (hl : l.length = 2 * n) : wv (aprt ts.reverse (-1) (aprt ts 1 (evs l, ods l))) = l := by
  rw [aprt_back 1 ts, wv_split hl]
theorem f_is_same_way_ok {l : List Int} {ts : List St} {n M : Nat} (hl : l.length = 2 * n) (h1 : 1 ≤ n) (h32 : n ≤ 32) (ht : ∀ t ∈ ts, t.ok) (hb : Bd l M) (hM : grow ts.length (grow ts.length M) < 2 ^ 190) (s : DS) :
    f_is_same_way [iD l, .tup (ts.map St.D)] s = .ok (.bl true) s := by
  have hM1 : grow ts.length M < 2 ^ 190 := Nat.lt_of_le_of_lt (grow_le _ _) hM
  have r1 := f_apart_ok hl h1 h32 ht hb hM1 s
  have p0 : Pr (evs l, ods l) n M := by
    refine ⟨by simp [evs, hl], by simp [ods, hl], fun x hx => ?_, fun x hx => ?_⟩
    · obtain ⟨k, _, rfl⟩ := List.mem_map.mp hx
      exact hb.ig _
    · obtain ⟨k, _, rfl⟩ := List.mem_map.mp hx
      exact hb.ig _
  have pa := Pr.aprt (sg := 1) (.inl rfl) ts _ _ p0 ht
  have r2 := f_together_ok pa h1 (by omega) ht hM s
  rw [back_row hl] at r2
  have ok : okDs 59 (l.map D.int) = true := okDs_ints 58 l
  simp [f_is_same_way, m_is_same_way, r1, r2, deqs_ints, ok, -List.map_map]
end L2.Mir.W

set_option Elab.async false
set_option linter.all false
set_option maxRecDepth 100000
set_option maxHeartbeats 1000000
namespace L2.Mir.W
open PySem PySem.Spec PyProof.Rows
theorem pr0 {l : List Int} {n M : Nat} (hl : l.length = 2 * n) (hb : Bd l M) : Pr (evs l, ods l) n M := by
  refine ⟨by simp [evs, hl], by simp [ods, hl], fun x hx => ?_, fun x hx => ?_⟩
  · obtain ⟨k, _, rfl⟩ := List.mem_map.mp hx
    exact hb.ig _
  · obtain ⟨k, _, rfl⟩ := List.mem_map.mp hx
    exact hb.ig _
/-- the first list after so many turns, the second one of a turn -/
def lo (ts : List St) (l : List Int) : Nat → List Int
  | 0 => l
  | k + 1 => (aprt ts 1 (evs (lo ts l k), ods (lo ts l k))).1
def hi (ts : List St) (l : List Int) (k : Nat) : List Int := (aprt ts 1 (evs (lo ts l k), ods (lo ts l k))).2
theorem lo_facts {ts : List St} {l : List Int} {M c : Nat} (ht : ∀ t ∈ ts, t.ok) (hb : Bd l M) : ∀ (k m : Nat), l.length = 2 ^ (k + m) * c → (lo ts l k).length = 2 ^ m * c ∧ Bd (lo ts l k) (grow (k * ts.length) M)
  | 0, m, h => by
    refine ⟨by show l.length = _; rw [h, Nat.zero_add], ?_⟩
    rw [Nat.zero_mul]; exact hb
  | k + 1, m, h => by
    obtain ⟨h1, h2⟩ := lo_facts ht hb k (m + 1) (by rw [h]; congr 2; omega)
    have h3 : (lo ts l k).length = 2 * (2 ^ m * c) := by rw [h1, Nat.pow_succ]; grind
    have p := Pr.aprt (sg := 1) (.inl rfl) ts _ _ (pr0 h3 h2) ht
    refine ⟨p.l1, ?_⟩
    rw [Nat.add_mul, Nat.one_mul, grow_add]
    exact p.b1
theorem f_pyramid_ok {l : List Int} {ts : List St} {many c M : Nat} (hl : l.length = 2 ^ many * c) (h1 : 1 ≤ c) (h64 : 2 ^ many * c ≤ 64) (ht : ∀ t ∈ ts, t.ok) (hb : Bd l M) (hM : grow (many * ts.length) M < 2 ^ 190) (s : DS) :
    f_pyramid [iD l, .tup (ts.map St.D), .int many] s = .ok (.tup [iD (lo ts l many), .lst ((List.range many).map fun k => iD (hi ts l k))]) s := by
  have hm : many ≤ 64 := by
    have : many < 2 ^ many := Nat.lt_two_pow_self
    have : 2 ^ many * 1 ≤ 2 ^ many * c := Nat.mul_le_mul_left _ h1
    omega
  have g1 : RngOk (many : Int) := RngOk.small (by omega) (by omega)
  simp [f_pyramid, m_pyramid, g1, sFor, bind_assoc', -List.map_map]
  refine for_cR (n := many) (fun k env => ∃ x5 x6, env = [.val (iD l), .val (.tup (ts.map St.D)), .val (.int many), .val (iD (lo ts l k)), .own ((List.range k).map fun k => iD (hi ts l k)), x5, x6]) ?_ ?_ ?_
  · exact ⟨.no, .no, by simp [lo]⟩
  · rintro k env hk ⟨x5, x6, rfl⟩ g Y fin
    obtain ⟨f1, f2⟩ := lo_facts ht hb k (many - k) (by rw [hl]; congr 2; omega)
    have e : many - k = (many - k - 1) + 1 := by omega
    have f3 : (lo ts l k).length = 2 * (2 ^ (many - k - 1) * c) := by rw [f1, e, Nat.pow_succ]; simp; grind
    have hpos : 1 ≤ 2 ^ (many - k - 1) * c := Nat.mul_pos (Nat.pow_pos (by decide)) h1
    have hle : 2 ^ (many - k) * c ≤ 2 ^ many * c := Nat.mul_le_mul_right _ (Nat.pow_le_pow_right (by decide) (by omega))
    have hg : grow ts.length (grow (k * ts.length) M) < 2 ^ 190 := by
      rw [← grow_add]
      have e2 : many * ts.length = k * ts.length + ts.length + (many - k - 1) * ts.length := by
        have : many = k + 1 + (many - k - 1) := by omega
        conv => lhs; rw [this]
        rw [Nat.add_mul, Nat.add_mul, Nat.one_mul]
      rw [e2, grow_add] at hM
      exact Nat.lt_of_le_of_lt (grow_le _ _) hM
    have r := f_apart_ok f3 hpos (by rw [f1] at f3; omega) ht f2 hg s
    have gL : LenOk (k + 1) := LenOk.small (by omega)
    simp [r, gL, -List.map_map]
    exact fin _ ⟨.val (.int k), .val (iD (hi ts l k)), by rw [List.range_succ, List.map_append]; rfl⟩
  · rintro env ⟨x5, x6, rfl⟩
    simp
end L2.Mir.W

set_option Elab.async false
set_option linter.all false
set_option maxRecDepth 100000
set_option maxHeartbeats 1000000
namespace L2.Mir.W
open PySem PySem.Spec PyProof.Rows
theorem f_back_ok {l : List Int} {ts : List St} {many c M : Nat} (hl : l.length = 2 ^ many * c) (h1 : 1 ≤ c) (h64 : 2 ^ many * c ≤ 64) (ht : ∀ t ∈ ts, t.ok) (hb : Bd l M) (hM : grow ((many + 1) * ts.length) M < 2 ^ 190) (s : DS) :
    f_back [.tup [iD (lo ts l many), .lst ((List.range many).map fun k => iD (hi ts l k))], .tup (ts.map St.D)] s = .ok (iD l) s := by
  have hm : many ≤ 64 := by
    have : many < 2 ^ many := Nat.lt_two_pow_self
    have : 2 ^ many * 1 ≤ 2 ^ many * c := Nat.mul_le_mul_left _ h1
    omega
  simp [f_back, m_back, sFor, bind_assoc', -List.map_map, -List.map_reverse]
  refine for_bind (fun k env => ∃ x4, env = [.val (.tup [iD (lo ts l many), .lst ((List.range many).map fun k => iD (hi ts l k))]), .val (.tup (ts.map St.D)), .val (iD (lo ts l (many - k))), .val (.lst ((List.range many).map fun k => iD (hi ts l k))), x4]) ?_ ?_ ?_
  · exact ⟨.no, rfl⟩
  · rintro k env d hd ⟨x4, rfl⟩
    have hk : k < many := by
      have := (List.getElem?_eq_some_iff.mp hd).1
      simpa using this
    have ed : d = iD (hi ts l (many - k - 1)) := by
      rw [List.getElem?_reverse (by simpa using hk), List.getElem?_map, List.length_map, List.length_range] at hd
      have e : many - 1 - k = many - k - 1 := by omega
      have e1 : (List.range many)[many - 1 - k]? = some (many - k - 1) := by
        rw [e, List.getElem?_eq_getElem (by simp; omega), List.getElem_range]
      rw [e1] at hd
      exact (Option.some.inj hd).symm
    subst ed
    obtain ⟨j, hj⟩ : ∃ j, many - k = j + 1 := ⟨many - k - 1, by omega⟩
    have hj2 : many - k - 1 = j := by omega
    have hj3 : many - (k + 1) = j := by omega
    rw [hj2, hj3, hj]
    obtain ⟨f1, f2⟩ := lo_facts ht hb j (k + 1) (by rw [hl]; congr 2; omega)
    have f3 : (lo ts l j).length = 2 * (2 ^ k * c) := by rw [f1, Nat.pow_succ]; grind
    have hpos : 1 ≤ 2 ^ k * c := Nat.mul_pos (Nat.pow_pos (by decide)) h1
    have hle : 2 ^ (k + 1) * c ≤ 2 ^ many * c := Nat.mul_le_mul_right _ (Nat.pow_le_pow_right (by decide) (by omega))
    have p := Pr.aprt (sg := 1) (.inl rfl) ts _ _ (pr0 f3 f2) ht
    have hg : grow ts.length (grow ts.length (grow (j * ts.length) M)) < 2 ^ 190 := by
      rw [← grow_add, ← grow_add]
      have e2 : (many + 1) * ts.length = j * ts.length + (ts.length + ts.length) + (many - j - 1) * ts.length := by
        have : many + 1 = j + 2 + (many - j - 1) := by omega
        conv => lhs; rw [this]
        rw [Nat.add_mul, Nat.add_mul]; omega
      rw [e2, grow_add] at hM
      exact Nat.lt_of_le_of_lt (grow_le _ _) hM
    have r := f_together_ok p hpos (by rw [f1] at f3; omega) ht hg s
    rw [back_row f3] at r
    have r' : f_together [.tup [iD (lo ts l (j + 1)), iD (hi ts l j)], .tup (ts.map St.D)] s = .ok (iD (lo ts l j)) s := r
    refine ⟨[(4, iD (hi ts l j))], [.val (.tup [iD (lo ts l many), .lst ((List.range many).map fun k => iD (hi ts l k))]), .val (.tup (ts.map St.D)), .val (iD (lo ts l j)), .val (.lst ((List.range many).map fun k => iD (hi ts l k))), .val (iD (hi ts l j))], rfl, .inl ?_, .val (iD (hi ts l j)), rfl⟩
    simp [setSl, r', -List.map_map]
  · rintro env ⟨x4, rfl⟩
    simp [lo]
end L2.Mir.W

set_option Elab.async false
set_option linter.all false
set_option maxRecDepth 100000
set_option maxHeartbeats 1000000
namespace L2.Mir.W
open PySem PySem.Spec PyProof.Rows
def zz (n : Int) : Int := if 0 ≤ n then 2 * n else 0 - 2 * n - 1
theorem f_zigzag_ok {z : Int} {k : Nat} [sz : Iz z k] (hk : k ≤ 9000) (s : DS) : f_zigzag [.int z] s = .ok (.int (zz z)) s := by
  have m := mulOk_iz (i := (2 : Int)) (j := z) (by omega)
  by_cases c : 0 ≤ z
  · simp [f_zigzag, m_zigzag, zz, c, m]
  · simp [f_zigzag, m_zigzag, zz, c, m]
structure St.ok2 (t : St) : Prop where
  ok : t.ok
  first : t.first.natAbs ≤ 8
  ne : t.ps ≠ []
theorem f_is_step_ok {t : St} (h : t.ok2) (s : DS) : f_is_step [t.D] s = .ok (.bl true) s := by
  obtain ⟨side, first, ps⟩ := t
  have hf := h.first
  have hn := List.length_pos_iff.mpr h.ne
  have hl := h.ok.pb.len
  simp only at hf hn hl
  have a1 : ¬ (8 < absI first) := by unfold absI; split <;> omega
  have a2 : (1 : Int) ≤ (ps.length : Int) := by omega
  have a3 : (ps.length : Int) ≤ 8 := by omega
  have g2 : LenOk 2 := LenOk.small (by omega)
  have g3 : LenOk ps.length := LenOk.small (by omega)
  have ht : ¬ (HT.sIx 3 0 none = 0 ∧ HT.sIx 3 3 (some 2) = 3) := by decide
  have hcu : ∀ a b c : D, cutD [a, b, c] none (some 2) = [a, b] := fun _ _ _ => rfl
  have ec : lcGo (lcF (.n 1) tsYes (mCall f_is_part (mCons (mVar 1) mNil)) [some (stD side first ps), none, none]) (ps.map qD) s = .ok (ps.map fun _ => .bl true) s := by
    rw [comp_b (l := ps) (fun _ => true)]
    intro x hx
    have := f_is_part_q (x := qD x) s
    simp [this]
  have ea : (ps.map fun _ => true).all id = true := by simp
  have e1 : lcGo (lcF (.n 2) tsYes (mAnd (mIsi "int" (mVar 2)) (mNot (mIsi "bool" (mVar 2)))) [some (stD side first ps), none, none]) [.int side, .int first] s = .ok [.bl true, .bl true] s := by simp [lcGo, lcF]
  rcases h.ok.side with hs | hs <;> simp only at hs <;> subst hs <;> simp [f_is_step, m_is_step, ht, hcu, inD, a1, a2, a3, g2, g3, ec, e1, -lcF, -List.map_map]
theorem f_is_steps_ok {ts : List St} (h : ∀ t ∈ ts, t.ok2) (hn : ts.length ≤ 6) (s : DS) : f_is_steps [.tup (ts.map St.D)] s = .ok (.bl true) s := by
  have a1 : ¬ (6 < (ts.length : Int)) := by omega
  have g3 : LenOk ts.length := LenOk.small (by omega)
  have ec : lcGo (lcF (.n 1) tsYes (mCall f_is_step (mCons (mVar 1) mNil)) [some (.tup (ts.map St.D)), none]) (ts.map St.D) s = .ok (ts.map fun _ => .bl true) s := by
    rw [lcGo_mapE (g := fun _ => D.bl true)]
    intro t ht
    have := f_is_step_ok (h t ht) s
    simp [this]
  have ea : (ts.map fun _ => true).all id = true := by simp
  simp [f_is_steps, m_is_steps, a1, g3, ec, -lcF]
end L2.Mir.W

set_option Elab.async false
set_option linter.all false
set_option maxRecDepth 100000
set_option maxHeartbeats 1000000
namespace L2.Mir.W
open PySem PySem.Spec PyProof.Rows
/-- a loop whose turns draw -/
theorem for_draw {p : Pat} {Bd : MS} {ds : List D} (P : Nat → SE → Prop)
    (step : ∀ (i : Nat) (env : SE) (d : D) (s : DS), ds[i]? = some d → P i env → StateOk s → ∃ as env' s', p.run d = some as ∧ Bd (setSl env as) s = .ok (.nx env') s' ∧ StateOk s' ∧ P (i + 1) env') :
    ∀ (env : SE) (s : DS), P 0 env → StateOk s → ∃ env' s', forGo p Bd ds env s = .ok (.nx env') s' ∧ StateOk s' ∧ P ds.length env' := by
  have key : ∀ (rest : List D) (i : Nat) (env : SE) (s : DS), ds.drop i = rest → i ≤ ds.length → P i env → StateOk s → ∃ env' s', forGo p Bd rest env s = .ok (.nx env') s' ∧ StateOk s' ∧ P ds.length env' := by
    intro rest
    induction rest with
    | nil =>
      intro i env s hd hi hP hs
      have : i = ds.length := by have := congrArg List.length hd; simp at this; omega
      subst this
      exact ⟨env, s, rfl, hs, hP⟩
    | cons d r ih =>
      intro i env s hd hi hP hs
      have hlt : i < ds.length := by have := congrArg List.length hd; simp at this; omega
      have hd2 : ds[i]? = some d := by
        have := congrArg (fun l => l[0]?) hd
        simpa using this
      obtain ⟨as, env', s1, h1, h2, h3, h4⟩ := step i env d s hd2 hP hs
      obtain ⟨env2, s2, g1, g2, g3⟩ := ih (i + 1) env' s1 (by rw [← List.tail_drop, hd]; rfl) (by omega) h4 h3
      refine ⟨env2, s2, ?_, g2, g3⟩
      unfold forGo
      rw [h1]
      simp only [h2, bind_ok]
      exact g1
  exact fun env s h hs => key ds 0 env s (by simp) (by omega) h hs
theorem pull_q {Q : Rat → Prop} : ∀ ys : List D, (∀ y ∈ ys, ∃ q, y = qD q ∧ Q q) → ∃ l : List Rat, ys = l.map qD ∧ l.length = ys.length ∧ ∀ q ∈ l, Q q
  | [], _ => ⟨[], rfl, rfl, by simp⟩
  | y :: ys, h => by
    obtain ⟨q, rfl, hq⟩ := h y (by simp)
    obtain ⟨l, rfl, hl, hQ⟩ := pull_q ys fun y hy => h y (by simp [hy])
    exact ⟨q :: l, rfl, by simp, fun x hx => by rcases List.mem_cons.mp hx with rfl | hx; exact hq; exact hQ x hx⟩
theorem abs_frac {r t : Int} (h1 : 0 ≤ r) (h2 : r < 5) (h3 : 0 ≤ t) (h4 : t < 3) : absR (Rat.divInt (r - 2) (1 + t)) ≤ 2 := by
  have a : r = 0 ∨ r = 1 ∨ r = 2 ∨ r = 3 ∨ r = 4 := by omega
  have b : t = 0 ∨ t = 1 ∨ t = 2 := by omega
  rcases a with rfl | rfl | rfl | rfl | rfl <;> rcases b with rfl | rfl | rfl <;> decide +kernel
theorem law_frac2 {s : DS} (hs : StateOk s) : ∃ q s', f__law_fraction [.st, .int 2] s = .ok (qD q) s' ∧ StateOk s' ∧ szQ 3 q ∧ absR q ≤ 2 := by
  obtain ⟨r, s1, e1, h1, p1, p2⟩ := fTake_ok hs 5 (TakeOk.small (by omega))
  obtain ⟨t, s2, e2, h2, q1, q2⟩ := fTake_ok h1 3 (TakeOk.small (by omega))
  haveI : Iz (1 + t) 3 := ⟨by omega⟩
  have f := f__law_part_ok (a := r - 2) (b := 1 + t) (k := 3) (by omega) (by omega) s2
  exact ⟨Rat.divInt (r - 2) (1 + t), s2, by simp [f__law_fraction, m__law_fraction, f__law_take, e1, e2, f], h2, divInt_sz (by omega) (by omega) (by omega), abs_frac p1 (by omega) q1 (by omega)⟩
theorem law_steps_ok {s : DS} (hs : StateOk s) : ∃ (ts : List St) (s' : DS), f__law_steps [.st] s = .ok (.tup (ts.map St.D)) s' ∧ StateOk s' ∧ ts.length ≤ 3 ∧ ∀ t ∈ ts, t.ok2 := by
  obtain ⟨r, s1, e1, hs1, p1, p2⟩ := fTake_ok hs 4 (TakeOk.small (by omega))
  obtain ⟨m, rfl⟩ : ∃ m : Nat, r = m := ⟨r.toNat, by omega⟩
  have g1 : RngOk (m : Int) := RngOk.small (by omega) (by omega)
  have body := for_draw (p := .n 2) (ds := rngD 0 (m : Int)) (Bd := (sApp false 1 (mTup (mCons (mCB f__law_take (mCons (mVar 0) (mCons (mC (.int 2)) mNil))) (mCons (mBin opSub (mCB f__law_take (mCons (mVar 0) (mCons (mC (.int 5)) mNil))) (mC (.int 2))) (mCons (mCB bTuple (mCons (mLc (.n 3) [3] (mRng1 (mCons (mBin opAdd (mC (.int 1)) (mCB f__law_take (mCons (mVar 0) (mCons (mC (.int 3)) mNil)))) mNil)) tsYes (mCall f__law_fraction (mCons (mVar 0) (mCons (mC (.int 2)) mNil)))) mNil)) mNil))))))
    (fun i env => ∃ (ts : List St) (x2 : Sl), env = [.val .st, .own (ts.map St.D), x2, .no] ∧ ts.length = i ∧ ∀ t ∈ ts, t.ok2) (by
    rintro i env d s hd ⟨ts, x2, rfl, hl, ht⟩ hs
    have hi : i < m := by have := (List.getElem?_eq_some_iff.mp hd).1; rwa [len_rngD] at this
    obtain ⟨a, s1, e1, hs1, a1, a2⟩ := fTake_ok hs 2 (TakeOk.small (by omega))
    obtain ⟨b, s2, e2, hs2, b1, b2⟩ := fTake_ok hs1 5 (TakeOk.small (by omega))
    obtain ⟨c, s3, e3, hs3, c1, c2⟩ := fTake_ok hs2 3 (TakeOk.small (by omega))
    obtain ⟨k, rfl⟩ : ∃ k : Nat, c = k := ⟨c.toNat, by omega⟩
    have ek : (1 : Int) + (k : Int) = ((1 + k : Nat) : Int) := by omega
    have g2 : RngOk ((1 + k : Nat) : Int) := RngOk.small (by omega) (by omega)
    have g3 : LenOk (1 + k) := LenOk.small (by omega)
    have g4 : LenOk (i + 1) := LenOk.small (by omega)
    obtain ⟨ys, s4, e4, hs4, l4, p4⟩ := lcGo_draw (f := lcF (.n 3) tsYes (mCall f__law_fraction (mCons (mVar 0) (mCons (mC (.int 2)) mNil))) [some .st, none, some d, none]) (P := fun y => ∃ q, y = qD q ∧ (szQ 3 q ∧ absR q ≤ 2)) (fun d s hs => by
      obtain ⟨q, s', e, h, z1, z2⟩ := law_frac2 hs
      exact ⟨qD q, s', by simp [e], h, q, rfl, z1, z2⟩) (rngD 0 ((1 + k : Nat) : Int)) s3 hs3
    obtain ⟨l, rfl, ll, zl⟩ := pull_q ys p4
    rw [len_rngD] at l4
    rw [l4] at ll
    refine ⟨[(2, d)], [.val .st, .own ((ts ++ [St.mk a (b - 2) l]).map St.D), .val d, .no], s4, rfl, ?_, hs4, ts ++ [St.mk a (b - 2) l], .val d, rfl, by simp [hl], ?_⟩
    · simp [setSl, f__law_take, e1, e2, e3, ek, g2, g3, len_rngD, e4, ll, hl, g4, -lcF, -Int.natCast_add]
    · intro t h
      rcases List.mem_append.mp h with h | h
      · exact ht t h
      · rw [List.mem_singleton] at h
        subst h
        refine ⟨⟨by simp only; omega, ⟨by simp only; omega, fun q hq => (zl q hq).2, ⟨fun q hq => (zl q hq).1⟩⟩⟩, by simp only; omega, ?_⟩
        intro e
        simp only at e
        rw [e] at ll
        simp only [List.length_nil] at ll
        omega)
  obtain ⟨env', s2, e2, hs2, ts, x2, rfl, hl, ht⟩ := body [.val .st, .own (([] : List St).map St.D), .no, .no] s1 ⟨[], .no, rfl, rfl, by simp⟩ hs1
  rw [len_rngD] at hl
  refine ⟨ts, s2, ?_, hs2, by omega, ht⟩
  simp only [f__law_steps, m__law_steps]
  have e2' := e2
  simp only [List.map_nil] at e2'
  have e0 : startE 4 [.st] = [.val .st, .no, .no, .no] := rfl
  apply runDef_rt
  rw [e0]
  refine (sSeq_nx (env' := [.val .st, .own [], .no, .no]) (s' := s) (by simp)).trans ?_
  refine (sSeq_nx (env' := [.val .st, .own (ts.map St.D), x2, .no]) (s' := s2) ?_).trans ?_
  · simp [sFor, f__law_take, e1, g1, -sApp] 
    exact e2'
  · simp
end L2.Mir.W

set_option Elab.async false
set_option linter.all false
set_option maxRecDepth 100000
set_option maxHeartbeats 1000000
namespace L2.Mir.W
open PySem PySem.Spec PyProof.Rows
/-! ### _law_there -/
theorem deq_pD (p q : List Int × List Int) : deq (pD p) (pD q) = decide (p = q) := by
  obtain ⟨a, b⟩ := p
  obtain ⟨c, d⟩ := q
  by_cases h1 : a = c <;> by_cases h2 : b = d <;> simp [deqs_ints, h1, h2]
theorem okD_pD (n : Nat) (p : List Int × List Int) : okD (n + 3) (pD p) = true := by
  have h1 := okDs_ints n p.1
  have h2 := okDs_ints n p.2
  simp [okD, okDs, h1, h2]
theorem okD_iD (n : Nat) (p : List Int) : okD (n + 2) (iD p) = true := by
  have h1 := okDs_ints n p
  simp [okD, okDs, h1]
theorem oi58 (l : List Int) : okDs 58 (l.map D.int) = true := okDs_ints 57 l
theorem oi59 (l : List Int) : okDs 59 (l.map D.int) = true := okDs_ints 58 l
theorem grow_big {k M : Nat} (hk : k ≤ 12) (hM : M ≤ 20) : grow k M < 2 ^ 190 := by
  have h1 := grow_mono k hM
  have h2 : grow 12 20 < 2 ^ 190 := by decide +kernel
  have : 12 = k + (12 - k) := by omega
  rw [this, grow_add] at h2
  have := grow_le (12 - k) (grow k 20)
  omega
theorem pull_int {Q : Int → Prop} : ∀ ys : List D, (∀ y ∈ ys, ∃ q, y = D.int q ∧ Q q) → ∃ l : List Int, ys = l.map D.int ∧ l.length = ys.length ∧ ∀ q ∈ l, Q q
  | [], _ => ⟨[], rfl, rfl, by simp⟩
  | y :: ys, h => by
    obtain ⟨q, rfl, hq⟩ := h y (by simp)
    obtain ⟨l, rfl, hl, hQ⟩ := pull_int ys fun y hy => h y (by simp [hy])
    exact ⟨q :: l, rfl, by simp, fun x hx => by rcases List.mem_cons.mp hx with rfl | hx; exact hq; exact hQ x hx⟩
/-- drawn integers around nought -/
theorem draw_ints {f : D → M (Option D)} (h w : Nat) (hf : ∀ d s, StateOk s → ∃ r s', f d s = .ok (some (.int (r - (h : Int)))) s' ∧ StateOk s' ∧ 0 ≤ r ∧ r ≤ (w : Int)) (hw : w ≤ 2 * h) (ds : List D) (s : DS) (hs : StateOk s) :
    ∃ (l : List Int) (s' : DS), lcGo f ds s = .ok (l.map D.int) s' ∧ StateOk s' ∧ l.length = ds.length ∧ Bd l h := by
  obtain ⟨ys, s', e, h1, h2, h3⟩ := lcGo_draw (f := f) (P := fun y => ∃ q, y = D.int q ∧ q.natAbs ≤ h) (fun d s hs => by
    obtain ⟨r, s', e, h1, h2, h3⟩ := hf d s hs
    exact ⟨_, s', e, h1, _, rfl, by omega⟩) ds s hs
  obtain ⟨l, rfl, hl, hb⟩ := pull_int ys h3
  exact ⟨l, s', e, h1, by omega, hb⟩
theorem there_and_back {p : List Int × List Int} {ts : List St} {n M : Nat} (hp : Pr p n M) (ht : ∀ t ∈ ts, t.ok) :
    aprt ts 1 (evs (wv (aprt ts.reverse (-1) p)), ods (wv (aprt ts.reverse (-1) p))) = p := by
  have h1 := Pr.aprt (sg := -1) (.inr rfl) ts.reverse _ _ hp fun t h => ht t (List.mem_reverse.mp h)
  rw [evs_wv, ods_wv (by rw [h1.l2, h1.l1])]
  have := aprt_back (-1) ts.reverse p
  rw [List.reverse_reverse] at this
  exact this
theorem wv_bd {p : List Int × List Int} {n M : Nat} (h : Pr p n M) : Bd (wv p) M := by
  intro x hx
  unfold wv at hx
  obtain ⟨l, hl, hx⟩ := List.mem_flatten.mp hx
  obtain ⟨k, hk, rfl⟩ := List.mem_map.mp hl
  rcases List.mem_cons.mp hx with rfl | hx
  · exact h.b1.ig _
  · rw [List.mem_singleton] at hx; subst hx; exact h.b2.ig _
theorem law_there_ok {ts : List St} {l : List Int} {n : Nat} (h3 : ts.length ≤ 3) (ht : ∀ t ∈ ts, t.ok2) (hl : l.length = 2 * n) (h1 : 1 ≤ n) (h32 : n ≤ 9) (hb : Bd l 20) {s : DS} (hs : StateOk s) :
    ∃ s', f__law_there [.st, .tup (ts.map St.D), iD l] s = .ok (.bl true) s' ∧ StateOk s' := by
  have hto : ∀ t ∈ ts, t.ok := fun t h => (ht t h).ok
  have G : ∀ {k M : Nat}, k ≤ 12 → M ≤ 20 → grow k M < 2 ^ 190 := grow_big
  have p0 := pr0 hl hb
  have pa := Pr.aprt (sg := 1) (.inl rfl) ts _ _ p0 hto
  have r1 := f__law_apart_ok (sg := 1) (.inl rfl) hl h1 (by omega) hto hb (G (by omega) (by omega)) s
  have r2 := f_is_steps_ok ht (by omega) s
  have r3 := f_is_wholes_ok hl h1 (by omega) s
  have r4 := f_apart_ok hl h1 (by omega) hto hb (G (by omega) (by omega)) s
  have r5 := f_together_ok pa h1 (by omega) hto (by rw [← grow_add]; exact G (by omega) (by omega)) s
  rw [back_row hl] at r5
  have r6 := f_is_same_way_ok hl h1 (by omega) hto hb (by rw [← grow_add]; exact G (by omega) (by omega)) s
  have e1 := str_ev hl
  have e2 := str_od hl h1
  have hn : ((2 * n : Nat) : Int) / 2 = (n : Int) := by omega
  have g1 : RngOk (n : Int) := RngOk.small (by omega) (by omega)
  have g2 : LenOk n := LenOk.small (by omega)
  have gn : TakeOk n := TakeOk.small (by omega)
  generalize hdu : aprt ts 1 (evs l, ods l) = due at *
  have dd := deq_pD due due
  have dl := deqs_ints l l
  have od := okD_pD 56 due
  have ol := okD_iD 57 l
  have body := for_draw (p := .n 5) (ds := ts.map St.D) (Bd := (sSeq (sPar false 6 7 (mCons (mIf (mCmpT opEq (mBin opIxQ (mVar 5) (mC (.int 0))) (mC (.int 0))) (mStr 2 (mVar 2) (mPart (mC (.int 1)))) (mStr 2 (mVar 2) mNoP)) (mCons (mCB f__law_take (mCons (mVar 0) (mCons (mVar 4) mNil))) mNil))) (sSeq (sIf (mOrT (mCmpT (opIs true) (mCB f_is_step (mCons (mVar 5) mNil)) (mC (.bl true))) (mCmpT opNe (mCB f_told_by (mCons (mVar 5) (mCons (mVar 6) (mCons (mVar 7) mNil)))) (mCB f__law_told (mCons (mVar 5) (mCons (mVar 6) (mCons (mVar 7) mNil)))))) (sRet (mC (.bl false))) sNx) (sSeq (sSet false 8 (mTup (mCons (mStr 2 (mVar 2) mNoP) (mCons (mStr 2 (mVar 2) (mPart (mC (.int 1)))) mNil)))) (sSeq (sSet false 9 (mCB f_stepped (mCons (mVar 8) (mCons (mVar 5) (mCons (mC (.int 1)) mNil))))) (sIf (mOrT (mCmpT opNe (mVar 9) (mCB f__law_apart (mCons (mVar 2) (mCons (mTup (mCons (mVar 5) mNil)) (mCons (mC (.int 1)) mNil))))) (mCmpT opNe (mCB f_stepped (mCons (mVar 9) (mCons (mVar 5) (mCons (mNeg (mC (.int 1))) mNil)))) (mVar 8))) (sRet (mC (.bl false))) sNx))))))
    (fun i env => ∃ x5 x6 x7 x8 x9, env = [.val .st, .val (.tup (ts.map St.D)), .val (iD l), .val (pD due), .val (.int n), x5, x6, x7, x8, x9, .no]) (by
    rintro i env d s hd ⟨x5, x6, x7, x8, x9, rfl⟩ hs
    rw [List.getElem?_map] at hd
    cases h : ts[i]? with
    | none => rw [h] at hd; cases hd
    | some t =>
      rw [h] at hd
      cases hd
      have h2 := ht t (List.mem_of_getElem? h)
      obtain ⟨r, s1, e3, hs1, a1, a2⟩ := fTake_ok hs n gn
      have st := f_is_step_ok h2 s1
      haveI := h2.ok.pb.sz
      have hlen := h2.ok.pb.len
      have ev0 : evs l ≠ [] := by intro e; have := p0.l1; simp only at this; rw [e] at this; simp at this; omega
      have od0 : ods l ≠ [] := by intro e; have := p0.l2; simp only at this; rw [e] at this; simp at this; omega
      haveI z1 : IzL (evs l) 200 := p0.b1.iz (by decide)
      haveI z2 : IzL (ods l) 200 := p0.b2.iz (by decide)
      have k1 := p0.l1
      have k2 := p0.l2
      simp only at k1 k2
      have q1 := f_stepped_ok (side := t.side) (first := t.first) (sg := 1) (ps := t.ps) (a := evs l) (b := ods l) h2.ok.pb h2.ok.side (.inl rfl) p0.b1 p0.b2 (by decide) (by omega) ev0 (by omega) s1
      have pq := p0.stp h2.ok (sg := 1) (.inl rfl)
      have q2 := f__law_apart_ok (ts := [t]) (sg := 1) (.inl rfl) hl h1 (by omega) (by intro x hx; rw [List.mem_singleton] at hx; subst hx; exact h2.ok) hb (G (by simp) (by omega)) s1
      have eq2 : aprt [t] 1 (evs l, ods l) = stp t.side t.first t.ps 1 (evs l, ods l) := rfl
      rw [eq2] at q2
      generalize hq : stp t.side t.first t.ps 1 (evs l, ods l) = q at *
      obtain ⟨a, b⟩ := q
      have hl1 : a.length = n := pq.l1
      have hl2 : b.length = n := pq.l2
      have q3 := f_stepped_ok (side := t.side) (first := t.first) (sg := -1) (ps := t.ps) (a := a) (b := b) h2.ok.pb h2.ok.side (.inr rfl) pq.b1 pq.b2 (by decide) (by omega) (by intro e; rw [e] at hl1; simp at hl1; omega) (by omega) s1
      rw [← hq, stp_back, hq] at q3
      have d1 := deq_pD (a, b) (a, b)
      have d2 := deq_pD (evs l, ods l) (evs l, ods l)
      have o1 := okD_pD 56 (a, b)
      have o2 := okD_pD 56 (evs l, ods l)
      rcases h2.ok.side with c | c
      · have u1 := f_told_by_ok (side := t.side) (first := t.first) (place := r) (ps := t.ps) (row := ods l) od0 (by omega) (by omega) s1
        have u2 := f__law_told_ok (side := t.side) (first := t.first) (place := r) (ps := t.ps) (row := ods l) od0 (by omega) (by omega) s1
        refine ⟨[(5, t.D)], [.val .st, .val (.tup (ts.map St.D)), .val (iD l), .val (pD due), .val (.int n), .val t.D, .val (iD (ods l)), .val (.int r), .val (pD (evs l, ods l)), .val (pD (a, b)), .no], s1, rfl, ?_, hs1, _, _, _, _, _, rfl⟩
        obtain ⟨side, first, ps⟩ := t
        simp only at c
        subst c
        simp only [List.map_cons, List.map_nil] at q2
        simp [setSl, f__law_take, e1, e2, e3, st, u1, u2, q1, q2, q3, d1, d2, o1, o2, oi58, oi59, deqs_ints, -List.map_map]
      · have u1 := f_told_by_ok (side := t.side) (first := t.first) (place := r) (ps := t.ps) (row := evs l) ev0 (by omega) (by omega) s1
        have u2 := f__law_told_ok (side := t.side) (first := t.first) (place := r) (ps := t.ps) (row := evs l) ev0 (by omega) (by omega) s1
        refine ⟨[(5, t.D)], [.val .st, .val (.tup (ts.map St.D)), .val (iD l), .val (pD due), .val (.int n), .val t.D, .val (iD (evs l)), .val (.int r), .val (pD (evs l, ods l)), .val (pD (a, b)), .no], s1, rfl, ?_, hs1, _, _, _, _, _, rfl⟩
        obtain ⟨side, first, ps⟩ := t
        simp only at c
        subst c
        simp only [List.map_cons, List.map_nil] at q2
        simp [setSl, f__law_take, e1, e2, e3, st, u1, u2, q1, q2, q3, d1, d2, o1, o2, oi58, oi59, deqs_ints, -List.map_map])
  obtain ⟨env', s2, b1, hs2, x5, x6, x7, x8, x9, rfl⟩ := body [.val .st, .val (.tup (ts.map St.D)), .val (iD l), .val (pD due), .val (.int n), .no, .no, .no, .no, .no, .no] s ⟨.no, .no, .no, .no, .no, rfl⟩ hs
  obtain ⟨a, s3, b2, hs3, la, ba⟩ := draw_ints (f := lcF (.n 10) tsYes (mBin opSub (mCall f__law_take (mCons (mVar 0) (mCons (mC (.int 9)) mNil))) (mC (.int 4))) [some .st, some (.tup (ts.map St.D)), some (iD l), some (pD due), some (.int n), x5.hide, x6.hide, x7.hide, x8.hide, x9.hide, none]) 4 8 (fun d s hs => by
    obtain ⟨r, s', e, h, z1, z2⟩ := fTake_ok hs 9 (TakeOk.small (by omega))
    exact ⟨r, s', by simp [f__law_take, e], h, z1, by omega⟩) (by omega) (rngD 0 (n : Int)) s2 hs2
  obtain ⟨b, s4, b3, hs4, lb, bb⟩ := draw_ints (f := lcF (.n 10) tsYes (mBin opSub (mCall f__law_take (mCons (mVar 0) (mCons (mC (.int 9)) mNil))) (mC (.int 4))) [some .st, some (.tup (ts.map St.D)), some (iD l), some (pD due), some (.int n), x5.hide, x6.hide, x7.hide, x8.hide, x9.hide, none]) 4 8 (fun d s hs => by
    obtain ⟨r, s', e, h, z1, z2⟩ := fTake_ok hs 9 (TakeOk.small (by omega))
    exact ⟨r, s', by simp [f__law_take, e], h, z1, by omega⟩) (by omega) (rngD 0 (n : Int)) s3 hs3
  rw [len_rngD] at la lb
  have pp : Pr (a, b) n 4 := ⟨la, lb, ba, bb⟩
  have v1 := f_together_ok pp h1 (by omega) hto (G (by omega) (by omega)) s4
  have pr := Pr.aprt (sg := -1) (.inr rfl) ts.reverse _ _ pp fun t h => hto t (List.mem_reverse.mp h)
  have wl : (wv (aprt ts.reverse (-1) (a, b))).length = 2 * n := by rw [wv_len, pr.l1]
  rw [List.length_reverse] at pr
  have v2 := f_apart_ok wl h1 (by omega) hto (wv_bd pr) (by rw [← grow_add]; exact G (by omega) (by omega)) s4
  rw [there_and_back pp hto] at v2
  have d3 := deq_pD (a, b) (a, b)
  have o3 := okD_pD 56 (a, b)
  refine ⟨s4, ?_, hs4⟩
  apply runDef_rt
  unfold m__law_there
  generalize (sSeq (sPar false 6 7 _) _) = bd at *
  have e0 : startE 11 [.st, .tup (ts.map St.D), iD l] = [.val .st, .val (.tup (ts.map St.D)), .val (iD l), .no, .no, .no, .no, .no, .no, .no, .no] := rfl
  rw [e0]
  refine (sSeq_nx (env' := [.val .st, .val (.tup (ts.map St.D)), .val (iD l), .val (pD due), .no, .no, .no, .no, .no, .no, .no]) (s' := s) (by simp [r1, -List.map_map])).trans ?_
  refine (sSeq_nx (env' := [.val .st, .val (.tup (ts.map St.D)), .val (iD l), .val (pD due), .no, .no, .no, .no, .no, .no, .no]) (s' := s) (by simp [r2, r3, r4, r5, r6, dd, dl, od, ol, oi58, oi59, deqs_ints, -List.map_map])).trans ?_
  refine (sSeq_nx (env' := [.val .st, .val (.tup (ts.map St.D)), .val (iD l), .val (pD due), .val (.int n), .no, .no, .no, .no, .no, .no]) (s' := s) (by simp [hl, hn, -List.map_map, -Int.natCast_mul])).trans ?_
  refine (sSeq_nx (env' := [.val .st, .val (.tup (ts.map St.D)), .val (iD l), .val (pD due), .val (.int n), x5, x6, x7, x8, x9, .no]) (s' := s2) (by simp [sFor, b1, -List.map_map])).trans ?_
  have hv : ∀ d, (Sl.val d).hide = some d := fun _ => rfl
  have hno : Sl.no.hide = none := rfl
  refine (sSeq_nx (env' := [.val .st, .val (.tup (ts.map St.D)), .val (iD l), .val (pD due), .val (.int n), x5, x6, x7, .val (pD (a, b)), x9, .no]) (s' := s4) (by simp [g1, g2, len_rngD, la, lb, b2, b3, hv, hno, -Sl.hide, -lcF, -List.map_map])).trans ?_
  simp [v1, v2, d3, o3, oi58, oi59, deqs_ints, -List.map_map]
end L2.Mir.W

set_option Elab.async false
set_option linter.all false
set_option maxRecDepth 100000
set_option maxHeartbeats 1000000
namespace L2.Mir.W
open PySem PySem.Spec PyProof.Rows
theorem for_cD {β : Type} {p : Pat} {Bd : MS} {ds : List D} {env : SE} {s : DS} {f : Fl → DS → Res β} {X : Res β} (P : Nat → SE → Prop) (h0 : P 0 env)
    (step : ∀ (i : Nat) (env : SE) (d : D), ds[i]? = some d → P i env → ∃ as, p.run d = some as ∧ ∀ (g : Fl → DS → Res Prop) (Y : Res Prop), (∀ env', P (i + 1) env' → g (.nx env') s = Y) → (Bd (setSl env as) s).bind g = Y)
    (fin : ∀ env', P ds.length env' → f (.nx env') s = X) : (forGo p Bd ds env s).bind f = X :=
  for_bind P h0 (fun i env d hd hP => by
    obtain ⟨as, h1, h2⟩ := step i env d hd hP
    obtain ⟨env', e1, e2⟩ := cps_ex (P := P (i + 1)) h2
    exact ⟨as, env', h1, .inl e1, e2⟩) fin
/-! ### without rounding -/
abbrev lQ (l : List Rat) : D := .lst (l.map qD)
def ixR (l : List Rat) (z : Int) : Rat := gd l (z % (l.length : Int)).toNat
theorem atI_ixR {l : List Rat} (h : l ≠ []) (z : Int) : L2.atI (l.map qD) (z % (l.length : Int)) = some (qD (ixR l z)) := by
  have hp := List.length_pos_iff.mpr h
  have h0 : 0 ≤ z % (l.length : Int) := Int.emod_nonneg _ (by omega)
  have h1 : z % (l.length : Int) < l.length := Int.emod_lt_of_pos _ (by omega)
  have e : z % (l.length : Int) = (((z % (l.length : Int)).toNat : Nat) : Int) := by omega
  rw [e, atI_qd (ds := l.map qD) (l := l) ⟨rfl⟩ (by omega)]
  rfl
def qs (first : Int) (ps : List Rat) (o : List Rat) (k : Nat) (m : Nat) : Rat := sumTo m fun j => gd ps j * ixR o ((k : Int) + first + j)
def qbump (first : Int) (ps : List Rat) (l o : List Rat) : List Rat := (List.range l.length).map fun k => gd l k + qs first ps o k ps.length
@[simp] theorem qbump_len (first : Int) (ps : List Rat) (l o : List Rat) : (qbump first ps l o).length = l.length := by simp [qbump]
theorem gd_qbump {first : Int} {ps l o : List Rat} {k : Nat} (h : k < l.length) : gd (qbump first ps l o) k = gd l k + qs first ps o k ps.length := by unfold qbump; rw [gd_map_range _ h]
def qstp (side first : Int) (ps : List Rat) (p : List Rat × List Rat) : List Rat × List Rat := if side = 0 then (qbump first ps p.1 p.2, p.2) else (p.1, qbump first ps p.2 p.1)
def qaprt (ts : List St) (p : List Rat × List Rat) : List Rat × List Rat := ts.foldl (fun p t => qstp t.side t.first t.ps p) p
theorem qaprt_take (ts : List St) (p : List Rat × List Rat) {k : Nat} {t : St} (h : ts[k]? = some t) : qaprt (ts.take (k + 1)) p = qstp t.side t.first t.ps (qaprt (ts.take k) p) := by
  unfold qaprt
  rw [List.take_add_one, h]
  simp [List.foldl_append]
structure Qr (p : List Rat × List Rat) (n k : Nat) : Prop where
  l1 : p.1.length = n
  l2 : p.2.length = n
  s1 : SzL p.1 k
  s2 : SzL p.2 k
theorem ixR_sz {l : List Rat} {k : Nat} (h : SzL l k) (h0 : l ≠ []) (z : Int) : szQ k (ixR l z) := by
  have hp := List.length_pos_iff.mpr h0
  have e0 : 0 ≤ z % (l.length : Int) := Int.emod_nonneg _ (by omega)
  have e1 : z % (l.length : Int) < l.length := Int.emod_lt_of_pos _ (by omega)
  exact h.h _ (gd_mem (by omega))
theorem qrun_sz {first : Int} {ps l o : List Rat} {i k n : Nat} (hp : SzL ps 3) (hl : SzL l i) (ho : SzL o i) (h0 : o ≠ []) (hk : k < l.length) : ∀ m, m ≤ ps.length → szQ (i + m * (i + 4)) (gd l k + qs first ps o k m)
  | 0, _ => by
    have e : gd l k + qs first ps o k 0 = gd l k := by unfold qs; rw [sumTo_zero]; grind
    rw [e, Nat.zero_mul]
    exact hl.h _ (gd_mem hk)
  | m + 1, hm => by
    have ih := qrun_sz (first := first) (n := n) hp hl ho h0 hk m (by omega)
    have e : gd l k + qs first ps o k (m + 1) = gd l k + qs first ps o k m + gd ps m * ixR o ((k : Int) + first + m) := by unfold qs; rw [sumTo_succ]; grind
    rw [e]
    haveI : Sz (gd l k + qs first ps o k m) (i + m * (i + 4)) := ⟨ih⟩
    haveI : Sz (gd ps m) 3 := ⟨hp.h _ (gd_mem (by omega))⟩
    haveI : Sz (ixR o ((k : Int) + first + m)) i := ⟨ixR_sz ho h0 _⟩
    have e2 : (m + 1) * (i + 4) = m * (i + 4) + (i + 4) := by rw [Nat.add_mul]; omega
    exact (inferInstance : Sz (gd l k + qs first ps o k m + gd ps m * ixR o ((k : Int) + first + m)) (i + m * (i + 4) + (3 + i) + 1)).h.mono (by omega)
theorem qbump_sz {first : Int} {ps l o : List Rat} {i : Nat} (hp : SzL ps 3) (h3 : ps.length ≤ 3) (hl : SzL l i) (ho : SzL o i) (h0 : o ≠ []) : SzL (qbump first ps l o) (4 * i + 12) := ⟨fun q hq => by
  obtain ⟨k, hk, rfl⟩ := List.mem_map.mp hq
  rw [List.mem_range] at hk
  have m : ps.length * (i + 4) ≤ 3 * (i + 4) := Nat.mul_le_mul_right _ h3
  exact (qrun_sz (n := 0) hp hl ho h0 hk ps.length (Nat.le_refl _)).mono (by omega)⟩
theorem szL_up {l : List Rat} {i j : Nat} (h : SzL l i) (hj : i ≤ j) : SzL l j := ⟨fun q hq => (h.h q hq).mono hj⟩
theorem Qr.stp {p : List Rat × List Rat} {n k : Nat} {t : St} (h : Qr p n k) (hn : 1 ≤ n) (ht : t.ok) : Qr (qstp t.side t.first t.ps p) n (4 * k + 12) := by
  have a0 : p.1 ≠ [] := by intro e; have := h.l1; rw [e] at this; simp at this; omega
  have b0 : p.2 ≠ [] := by intro e; have := h.l2; rw [e] at this; simp at this; omega
  unfold qstp
  split
  · exact ⟨by simp [h.l1], h.l2, qbump_sz ht.pb.sz ht.pb.len h.s1 h.s2 b0, szL_up h.s2 (by omega)⟩
  · exact ⟨h.l1, by simp [h.l2], szL_up h.s1 (by omega), qbump_sz ht.pb.sz ht.pb.len h.s2 h.s1 a0⟩
def qgrow : Nat → Nat → Nat
  | 0, k => k
  | m + 1, k => qgrow m (4 * k + 12)
theorem qgrow_mono : ∀ (m : Nat) {M N : Nat}, M ≤ N → qgrow m M ≤ qgrow m N
  | 0, _, _, h => h
  | m + 1, M, N, h => qgrow_mono m (by omega)
theorem qgrow_le : ∀ (m k : Nat), k ≤ qgrow m k
  | 0, k => Nat.le_refl _
  | m + 1, k => Nat.le_trans (by omega) (qgrow_le m (4 * k + 12))
theorem qgrow_add : ∀ (a b M : Nat), qgrow (a + b) M = qgrow b (qgrow a M)
  | 0, b, M => by rw [Nat.zero_add]; rfl
  | a + 1, b, M => by
    have : a + 1 + b = (a + b) + 1 := by omega
    rw [this]
    exact qgrow_add a b _
theorem Qr.aprt {n : Nat} (hn : 1 ≤ n) : ∀ (ts : List St) (p : List Rat × List Rat) (k : Nat), Qr p n k → (∀ t ∈ ts, t.ok) → Qr (qaprt ts p) n (qgrow ts.length k)
  | [], p, k, h, _ => h
  | t :: ts, p, k, h, ht => Qr.aprt hn ts _ _ (h.stp hn (ht t (by simp))) fun t ht' => ht t (by simp [ht'])
theorem qgrow_big {m k : Nat} (hm : m ≤ 3) (hk : k ≤ 6) : qgrow m k ≤ 636 := by
  have h1 := qgrow_mono m hk
  have h2 : qgrow 3 6 = 636 := by decide
  have : 3 = m + (3 - m) := by omega
  rw [this, qgrow_add] at h2
  have := qgrow_le (3 - m) (qgrow m 6)
  omega
theorem qgrow_big2 {m k : Nat} (hm : m ≤ 2) (hk : k ≤ 6) : qgrow m k ≤ 156 := by
  have h1 := qgrow_mono m hk
  have h2 : qgrow 2 6 = 156 := by decide
  have : 2 = m + (2 - m) := by omega
  rw [this, qgrow_add] at h2
  have := qgrow_le (2 - m) (qgrow m 6)
  omega
def inR (l : List Int) : List Rat := l.map fun (z : Int) => (z : Rat)
theorem inR_q (l : List Int) : l.map (fun z => D.tup [.int z, .int 1]) = (inR l).map qD := by
  unfold inR
  rw [List.map_map]
  refine List.map_congr_left fun z _ => ?_
  exact qD_int z
@[simp] theorem inR_len (l : List Int) : (inR l).length = l.length := by simp [inR]
theorem gd_inR {l : List Int} {k : Nat} (h : k < l.length) : gd (inR l) k = (ig l k : Rat) := by
  simp [gd, inR, ig, List.getD, h]
theorem inR_sz {l : List Int} (h : Bd l 20) : SzL (inR l) 6 := ⟨fun q hq => by
  obtain ⟨z, hz, rfl⟩ := List.mem_map.mp hq
  have := h z hz
  haveI : Iz z 5 := ⟨by omega⟩
  exact (inferInstance : Sz (z : Rat) (5 + 1)).h.mono (by omega)⟩
theorem qr0 {l : List Int} {n : Nat} (hl : l.length = 2 * n) (hb : Bd l 20) : Qr (inR (evs l), inR (ods l)) n 6 := by
  have p := pr0 hl hb
  exact ⟨by rw [inR_len]; exact p.l1, by rw [inR_len]; exact p.l2, inR_sz p.b1, inR_sz p.b2⟩
theorem lc_inR {env : VE} {s : DS} {v : Nat} {l : List Int} (h : ∀ z, lcF (.n v) tsYes (mTup (mCons (mVar v) (mCons (mC (.int 1)) mNil))) env (.int z) s = .ok (some (.tup [.int z, .int 1])) s) : lcGo (lcF (.n v) tsYes (mTup (mCons (mVar v) (mCons (mC (.int 1)) mNil))) env) (l.map .int) s = .ok ((inR l).map qD) s := by
  rw [lcGo_mapE (e := D.int) (g := fun z => .tup [.int z, .int 1])]
  · rw [← inR_q]
  · intro z hz
    exact h z
end L2.Mir.W

set_option Elab.async false
set_option linter.all false
set_option maxRecDepth 100000
set_option maxHeartbeats 1000000
namespace L2.Mir.W
open PySem PySem.Spec PyProof.Rows
abbrev uD (p : List Rat × List Rat) : D := .tup [lQ p.1, lQ p.2]
theorem apt_q (env : SE) {l : List Rat} (h0 : l ≠ []) (h : env.all Sl.rows = true) : D.apt env (lQ l) = true := by
  cases l with
  | nil => exact absurd rfl h0
  | cons a l =>
    have fl : ∀ l : List Rat, D.flats (l.map qD) = true := fun l => by
      induction l with
      | nil => rfl
      | cons a l ih => simp [ih]
    have := fl l
    simp only [lQ, List.map_cons, qD, D.apt, D.flats, D.flat, this, h]
    rfl
theorem apt_int (env : SE) (i : Int) : D.apt env (.int i) = true := by unfold D.apt; rfl
theorem f_without_rounding_ok {l : List Int} {ts : List St} {n : Nat} (h3 : ts.length ≤ 3) (hl : l.length = 2 * n) (h1 : 1 ≤ n) (h32 : n ≤ 32) (ht : ∀ t ∈ ts, t.ok) (hb : Bd l 20) (s : DS) :
    f_without_rounding [iD l, .tup (ts.map St.D)] s = .ok (uD (qaprt ts (inR (evs l), inR (ods l)))) s := by
  have w := f_is_wholes_ok hl h1 h32 s
  have e1 := str_ev hl
  have e2 := str_od hl h1
  have q0 := qr0 hl hb
  have L1 : ∀ (env : VE) (l : List Int) (h : 12 < env.length), lcGo (lcF (.n 12) tsYes (mTup (mCons (mVar 12) (mCons (mC (.int 1)) mNil))) env) (l.map .int) s = .ok ((inR l).map qD) s := fun env l h => lc_inR fun z => by simp [h]
  have p00 := pr0 hl hb
  have ge : LenOk (evs l).length := LenOk.small (by have := p00.l1; simp only at this; omega)
  have go : LenOk (ods l).length := LenOk.small (by have := p00.l2; simp only at this; omega)
  simp [f_without_rounding, m_without_rounding, w, ge, go, e1, e2, L1, sFor, bind_assoc', -lcF, -List.map_map]
  refine for_cD (fun k env => ∃ x3 x4 x5 x6 x7 x8 x9 x10 x11, env = [.val (iD l), .val (.tup (ts.map St.D)), .own [lQ (qaprt (ts.take k) (inR (evs l), inR (ods l))).1, lQ (qaprt (ts.take k) (inR (evs l), inR (ods l))).2], x3, x4, x5, x6, x7, x8, x9, x10, x11, .no] ∧ [x3, x4, x5, x6, x7, x8, x9, x10, x11].all Sl.rows = true) ?_ ?_ ?_
  · exact ⟨.no, .no, .no, .no, .no, .no, .no, .no, .no, rfl, rfl⟩
  · rintro k env d hd ⟨x3, x4, x5, x6, x7, x8, x9, x10, x11, rfl, hr⟩
    rw [List.getElem?_map] at hd
    cases h : ts[k]? with
    | none => rw [h] at hd; cases hd
    | some t =>
      rw [h] at hd
      cases hd
      have hk : k < ts.length := (List.getElem?_eq_some_iff.mp h).1
      have ht' := ht t (List.mem_of_getElem? h)
      have pk := Qr.aprt h1 (ts.take k) _ _ q0 fun t ht'' => ht t (List.mem_of_mem_take ht'')
      have hg : qgrow (ts.take k).length 6 ≤ 156 := by
        rw [List.length_take, Nat.min_eq_left (by omega)]
        exact qgrow_big2 (by omega) (by omega)
      have et := qaprt_take ts (inR (evs l), inR (ods l)) h
      generalize hq : qaprt (ts.take k) (inR (evs l), inR (ods l)) = q at *
      generalize qgrow (ts.take k).length 6 = z at *
      obtain ⟨a, b⟩ := q
      have hl1 : a.length = n := pk.l1
      have hl2 : b.length = n := pk.l2
      have ha0 : a ≠ [] := by intro e; rw [e] at hl1; simp at hl1; omega
      have hb0 : b ≠ [] := by intro e; rw [e] at hl2; simp at hl2; omega
      have ps3 := ht'.pb.sz
      have hlen := ht'.pb.len
      haveI sa : SzL a z := pk.s1
      haveI sb : SzL b z := pk.s2
      obtain ⟨side, first, ps⟩ := t
      simp only at ps3 hlen
      haveI := ps3
      have g1 : RngOk (n : Int) := RngOk.small (by omega) (by omega)
      have g2 : RngOk (ps.length : Int) := RngOk.small (by omega) (by omega)
      have hn0 : (n : Int) ≠ 0 := by omega
      rcases ht'.side with hs0 | hs0 <;> simp only at hs0 <;> subst hs0
      · refine ⟨[(3, .int 0), (4, .int first), (5, .tup (ps.map qD))], by simp [stD, Pat.run, Pat.runs], fun g Y fin => ?_⟩
        have ap := apt_q [.val (iD l), .val (.tup (ts.map St.D)), .own [lQ a, lQ b], .val (.int 0), .val (.int first), .val (.tup (ps.map qD)), x6, x7, x8, x9, x10, x11, .no] hb0 (by simp at hr ⊢; simp [hr])
        simp [setSl, hl1, hl2, ap, apt_int, g1, sFor, bind_assoc', -List.map_map, -D.apt]
        refine for_cR (n := n) (fun k env => ∃ x9 x10 x11, env = [.val (iD l), .val (.tup (ts.map St.D)), .own [lQ a, lQ b], .val (.int 0), .val (.int first), .val (.tup (ps.map qD)), .val (lQ b), .val (.int n), .own (((List.range k).map fun k => gd a k + qs first ps b k ps.length).map qD), x9, x10, x11, .no] ∧ [x9, x10, x11].all Sl.rows = true) ?_ ?_ ?_
        · exact ⟨x9, x10, x11, rfl, by simp at hr ⊢; simp [hr]⟩
        · rintro k env hk ⟨x9, x10, x11, rfl, hr2⟩ g Y fin
          have q1 := atI_qd (ds := a.map qD) (l := a) (k := k) ⟨rfl⟩ (by omega)
          simp [q1, g2, sFor, bind_assoc', -List.map_map]
          refine for_cR (n := ps.length) (fun j env => ∃ x11, env = [.val (iD l), .val (.tup (ts.map St.D)), .own [lQ a, lQ b], .val (.int 0), .val (.int first), .val (.tup (ps.map qD)), .val (lQ b), .val (.int n), .own (((List.range k).map fun k => gd a k + qs first ps b k ps.length).map qD), .val (.int k), .val (qD (gd a k + qs first ps b k j)), x11, .no] ∧ [x11].all Sl.rows = true) ?_ ?_ ?_
          · exact ⟨x11, by have : gd a k + qs first ps b k 0 = gd a k := by unfold qs; rw [sumTo_zero]; grind
                           rw [this], by simp at hr2 ⊢; simp [hr2]⟩
          · rintro j env hj ⟨x11, rfl, hr3⟩ g Y fin
            have q2 := atI_qd (ds := ps.map qD) (l := ps) (k := j) ⟨rfl⟩ hj
            have q3 := atI_ixR hb0 ((k : Int) + first + j)
            rw [hl2] at q3
            have zz := qrun_sz (first := first) (n := 0) ps3 sa sb hb0 (k := k) (by omega) j (by omega)
            have zm : j * (z + 4) ≤ 3 * 160 := Nat.mul_le_mul (by omega) (by omega)
            haveI : Sz (gd a k + qs first ps b k j) 636 := ⟨zz.mono (by omega)⟩
            haveI : Sz (ixR b ((k : Int) + first + j)) z := ⟨ixR_sz sb hb0 _⟩
            have t1 := f_times_ok (x := qD (gd ps j)) (y := qD (ixR b ((k : Int) + first + j))) (by omega) s
            have t2 := f_plus_ok (x := qD (gd a k + qs first ps b k j)) (y := qD (gd ps j * ixR b ((k : Int) + first + j))) (by omega) s
            have hlt : (0 : Int) < (n : Int) := by omega
            have hltn : 0 < n := by omega
            simp [q2, q3, hn0, hlt, hltn, t1, t2, -List.map_map, -f_plus_ok, -f_times_ok]
            refine fin _ ⟨.val (.int j), by
              have : gd a k + qs first ps b k (j + 1) = gd a k + qs first ps b k j + gd ps j * ixR b ((k : Int) + first + j) := by unfold qs; rw [sumTo_succ]; grind
              rw [this], by simp⟩
          · rintro env ⟨x11, rfl, hr3⟩
            have gL : LenOk (k + 1) := LenOk.small (by omega)
            simp [gL, -List.map_map]
            exact fin _ ⟨_, _, _, by rw [List.range_succ, List.map_append, List.map_append]; rfl, by simp at hr3 ⊢; simp [hr3]⟩
        · rintro env ⟨x9, x10, x11, rfl, hr2⟩
          simp [ixN, -List.map_map]
          refine fin _ ⟨_, _, _, _, _, _, _, _, _, by rw [et]; simp only [qstp, qbump, hl1]; rfl, by simp at hr2 ⊢; simp [hr2]⟩
      · refine ⟨[(3, .int 1), (4, .int first), (5, .tup (ps.map qD))], by simp [stD, Pat.run, Pat.runs], fun g Y fin => ?_⟩
        have ap := apt_q [.val (iD l), .val (.tup (ts.map St.D)), .own [lQ a, lQ b], .val (.int 1), .val (.int first), .val (.tup (ps.map qD)), x6, x7, x8, x9, x10, x11, .no] ha0 (by simp at hr ⊢; simp [hr])
        simp [setSl, hl1, hl2, ap, apt_int, g1, sFor, bind_assoc', -List.map_map, -D.apt]
        refine for_cR (n := n) (fun k env => ∃ x9 x10 x11, env = [.val (iD l), .val (.tup (ts.map St.D)), .own [lQ a, lQ b], .val (.int 1), .val (.int first), .val (.tup (ps.map qD)), .val (lQ a), .val (.int n), .own (((List.range k).map fun k => gd b k + qs first ps a k ps.length).map qD), x9, x10, x11, .no] ∧ [x9, x10, x11].all Sl.rows = true) ?_ ?_ ?_
        · exact ⟨x9, x10, x11, rfl, by simp at hr ⊢; simp [hr]⟩
        · rintro k env hk ⟨x9, x10, x11, rfl, hr2⟩ g Y fin
          have q1 := atI_qd (ds := b.map qD) (l := b) (k := k) ⟨rfl⟩ (by omega)
          simp [q1, g2, sFor, bind_assoc', -List.map_map]
          refine for_cR (n := ps.length) (fun j env => ∃ x11, env = [.val (iD l), .val (.tup (ts.map St.D)), .own [lQ a, lQ b], .val (.int 1), .val (.int first), .val (.tup (ps.map qD)), .val (lQ a), .val (.int n), .own (((List.range k).map fun k => gd b k + qs first ps a k ps.length).map qD), .val (.int k), .val (qD (gd b k + qs first ps a k j)), x11, .no] ∧ [x11].all Sl.rows = true) ?_ ?_ ?_
          · exact ⟨x11, by have : gd b k + qs first ps a k 0 = gd b k := by unfold qs; rw [sumTo_zero]; grind
                           rw [this], by simp at hr2 ⊢; simp [hr2]⟩
          · rintro j env hj ⟨x11, rfl, hr3⟩ g Y fin
            have q2 := atI_qd (ds := ps.map qD) (l := ps) (k := j) ⟨rfl⟩ hj
            have q3 := atI_ixR ha0 ((k : Int) + first + j)
            rw [hl1] at q3
            have zz := qrun_sz (first := first) (n := 0) ps3 sb sa ha0 (k := k) (by omega) j (by omega)
            have zm : j * (z + 4) ≤ 3 * 160 := Nat.mul_le_mul (by omega) (by omega)
            haveI : Sz (gd b k + qs first ps a k j) 636 := ⟨zz.mono (by omega)⟩
            haveI : Sz (ixR a ((k : Int) + first + j)) z := ⟨ixR_sz sa ha0 _⟩
            have t1 := f_times_ok (x := qD (gd ps j)) (y := qD (ixR a ((k : Int) + first + j))) (by omega) s
            have t2 := f_plus_ok (x := qD (gd b k + qs first ps a k j)) (y := qD (gd ps j * ixR a ((k : Int) + first + j))) (by omega) s
            have hlt : (0 : Int) < (n : Int) := by omega
            have hltn : 0 < n := by omega
            simp [q2, q3, hn0, hlt, hltn, t1, t2, -List.map_map, -f_plus_ok, -f_times_ok]
            refine fin _ ⟨.val (.int j), by
              have : gd b k + qs first ps a k (j + 1) = gd b k + qs first ps a k j + gd ps j * ixR a ((k : Int) + first + j) := by unfold qs; rw [sumTo_succ]; grind
              rw [this], by simp⟩
          · rintro env ⟨x11, rfl, hr3⟩
            have gL : LenOk (k + 1) := LenOk.small (by omega)
            simp [gL, -List.map_map]
            exact fin _ ⟨_, _, _, by rw [List.range_succ, List.map_append, List.map_append]; rfl, by simp at hr3 ⊢; simp [hr3]⟩
        · rintro env ⟨x9, x10, x11, rfl, hr2⟩
          simp [ixN, -List.map_map]
          refine fin _ ⟨_, _, _, _, _, _, _, _, _, by rw [et]; simp only [qstp, qbump, hl2]; rfl, by simp at hr2 ⊢; simp [hr2]⟩
  · rintro env ⟨x3, x4, x5, x6, x7, x8, x9, x10, x11, rfl, hr⟩
    rw [List.length_map, List.take_length]
    simp
end L2.Mir.W

set_option Elab.async false
set_option linter.all false
set_option maxRecDepth 100000
set_option maxHeartbeats 1000000
namespace L2.Mir.W
open PySem PySem.Spec PyProof.Rows
def mx (g : Nat → Rat) (b0 : Rat) : Nat → Rat
  | 0 => b0
  | k + 1 => if mx g b0 k < g k then g k else mx g b0 k
theorem mx_sz {g : Nat → Rat} {b0 : Rat} {z : Nat} (h0 : szQ z b0) : ∀ n, (∀ k, k < n → szQ z (g k)) → szQ z (mx g b0 n)
  | 0, _ => h0
  | n + 1, h => by
    unfold mx
    split
    · exact h n (by omega)
    · exact mx_sz h0 n fun k hk => h k (by omega)
theorem mx_le {g : Nat → Rat} {b0 B : Rat} (h0 : b0 ≤ B) : ∀ n, (∀ k, k < n → g k ≤ B) → mx g b0 n ≤ B
  | 0, _ => h0
  | n + 1, h => by
    unfold mx
    split
    · exact h n (by omega)
    · exact mx_le h0 n fun k hk => h k (by omega)
def gA (told : List Int) (plain : List Rat) (k : Nat) : Rat := absR ((ig told k : Rat) - gd plain k)
def best (told : List Int × List Int) (plain : List Rat × List Rat) (n : Nat) : Rat := mx (gA told.2 plain.2) (mx (gA told.1 plain.1) 0 n) n
theorem absR_num (q : Rat) : D.tup [.int (absI q.num), .int q.den] = qD (absR q) := by
  unfold absR absI qD
  have hn : q.num < 0 ↔ q < 0 := by
    have := @Rat.num_nonneg q
    constructor
    · intro h
      by_cases c : q < 0
      · exact c
      · have : 0 ≤ q := by grind
        rw [← Rat.num_nonneg] at this; omega
    · intro h
      by_cases c : q.num < 0
      · exact c
      · have : 0 ≤ q.num := by omega
        rw [Rat.num_nonneg] at this; grind
  by_cases c : q < 0
  · rw [if_pos c, if_pos (hn.mpr c)]
    simp
  · rw [if_neg c, if_neg (fun h => c (hn.mp h))]
theorem absR_sz {q : Rat} {k : Nat} (h : szQ k q) : szQ k (absR q) := by
  unfold absR
  split
  · exact h.neg
  · exact h
theorem gA_sz {a : List Int} {p : List Rat} {n z M k : Nat} (ha : Bd a M) (hM : M < 2 ^ 200) (hp : SzL p z) (hn : p.length = n) (hk : k < n) (hz : z ≤ 700) : szQ 902 (gA a p k) := by
  haveI : Iz (ig a k) 200 := ⟨Nat.lt_of_le_of_lt (ha.ig k) hM⟩
  haveI : Sz (gd p k) z := ⟨hp.h _ (gd_mem (by omega))⟩
  exact absR_sz ((inferInstance : Sz ((ig a k : Rat) - gd p k) (200 + 1 + z + 1)).h.mono (by omega))
theorem sub_pos_num (a b : Rat) : 0 < (a - b).num ↔ b < a := by
  have h := @Rat.num_nonneg (b - a)
  have e : (b - a).num = -(a - b).num := by
    rw [← Rat.neg_num]; congr 1; grind
  constructor
  · intro c
    by_cases d : b < a
    · exact d
    · have : 0 ≤ b - a := by grind
      rw [← h] at this; omega
  · intro c
    by_cases d : 0 < (a - b).num
    · exact d
    · have : 0 ≤ (b - a).num := by omega
      rw [h] at this; grind
section
variable {p : List Int × List Int} {q : List Rat × List Rat} {n M z : Nat}
theorem best_sz1 (hp : Pr p n M) (hM : M < 2 ^ 200) (hq : Qr q n z) (hz : z ≤ 700) {k : Nat} (hk : k ≤ n) : szQ 902 (mx (gA p.1 q.1) 0 k) :=
  mx_sz (show szQ 902 0 from (inferInstance : Sz 0 1).h.mono (by omega)) k fun j hj => gA_sz hp.b1 hM hq.s1 hq.l1 (by omega) hz
theorem best_sz2 (hp : Pr p n M) (hM : M < 2 ^ 200) (hq : Qr q n z) (hz : z ≤ 700) {k : Nat} (hk : k ≤ n) : szQ 902 (mx (gA p.2 q.2) (mx (gA p.1 q.1) 0 n) k) :=
  mx_sz (best_sz1 hp hM hq hz (Nat.le_refl _)) k fun j hj => gA_sz hp.b2 hM hq.s2 hq.l2 (by omega) hz
theorem f_gap_of_ok {l : List Int} {ts : List St} (h3 : ts.length ≤ 3) (hl : l.length = 2 * n) (h1 : 1 ≤ n) (h32 : n ≤ 32) (ht : ∀ t ∈ ts, t.ok) (hb : Bd l 20) (s : DS) :
    f_gap_of [iD l, .tup (ts.map St.D)] s = .ok (qD (best (aprt ts 1 (evs l, ods l)) (qaprt ts (inR (evs l), inR (ods l))) n)) s := by
  have r1 := f_apart_ok hl h1 h32 ht hb (grow_big (by omega) (by omega)) s
  have r2 := f_without_rounding_ok h3 hl h1 h32 ht hb s
  have hp := Pr.aprt (sg := 1) (.inl rfl) ts _ _ (pr0 hl hb) ht
  have hq := Qr.aprt h1 ts _ _ (qr0 hl hb) ht
  have hM : grow ts.length 20 < 2 ^ 200 := Nat.lt_of_lt_of_le (grow_big (by omega) (by omega)) (Nat.pow_le_pow_right (by decide) (by decide))
  have hz : qgrow ts.length 6 ≤ 700 := by have := qgrow_big h3 (k := 6) (by omega); omega
  generalize aprt ts 1 (evs l, ods l) = p at *
  generalize qaprt ts (inR (evs l), inR (ods l)) = q at *
  generalize grow ts.length 20 = M at *
  generalize qgrow ts.length 6 = z at *
  have z1 := fun k (hk : k ≤ n) => best_sz1 hp hM hq hz hk
  have z2 := fun k (hk : k ≤ n) => best_sz2 hp hM hq hz hk
  have y1 := fun k (hk : k < n) => gA_sz hp.b1 hM hq.s1 hq.l1 hk hz
  have y2 := fun k (hk : k < n) => gA_sz hp.b2 hM hq.s2 hq.l2 hk hz
  obtain ⟨a, b⟩ := p
  obtain ⟨u, v⟩ := q
  have la : a.length = n := hp.l1
  have lb : b.length = n := hp.l2
  have lu : u.length = n := hq.l1
  have lv : v.length = n := hq.l2
  have sa := hp.b1
  have sb := hp.b2
  haveI su : SzL u z := hq.s1
  haveI sv : SzL v z := hq.s2
  have e0 : D.tup [.int 0, .int 1] = qD 0 := (inferInstance : QD (D.tup [.int 0, .int 1]) 0).h
  have er : rngD 0 2 = [.int 0, .int 1] := rfl
  have g1 : RngOk (n : Int) := RngOk.small (by omega) (by omega)
  simp only at z1 z2 y1 y2 sa sb
  simp [f_gap_of, m_gap_of, r1, r2, sFor, er, forGo, e0, bind_assoc', la, g1, -List.map_map]
  refine for_cR (n := n) (fun k env => ∃ x6 x7, env = [.val (iD l), .val (.tup (ts.map St.D)), .val (pD (a, b)), .val (uD (u, v)), .val (qD (mx (gA a u) 0 k)), .val (.int 0), x6, x7]) ?_ ?_ ?_
  · exact ⟨.no, .no, rfl⟩
  · rintro k env hk ⟨x6, x7, rfl⟩ g Y fin
    have q1 := atI_int (l := a) (k := k) (by omega)
    have q2 := atI_qd (ds := u.map qD) (l := u) (k := k) ⟨rfl⟩ (by omega)
    haveI : Iz (ig a k) 200 := ⟨Nat.lt_of_le_of_lt (sa.ig k) hM⟩
    have t1 := f_minus_ok (x := .tup [.int (ig a k), .int 1]) (y := qD (gd u k)) (a := (ig a k : Rat)) (b := gd u k) (by omega) s
    haveI : Sz (gA a u k) 902 := ⟨y1 k hk⟩
    haveI : Sz (mx (gA a u) 0 k) 902 := ⟨z1 k (by omega)⟩
    have t2 := f_minus_ok (x := qD (gA a u k)) (y := qD (mx (gA a u) 0 k)) (by omega) s
    have t3 := absR_num ((ig a k : Rat) - gd u k)
    have ga : absR ((ig a k : Rat) - gd u k) = gA a u k := rfl
    rw [ga] at t3
    have em : mx (gA a u) 0 (k + 1) = if mx (gA a u) 0 k < gA a u k then gA a u k else mx (gA a u) 0 k := rfl
    have sp := sub_pos_num (gA a u k) (mx (gA a u) 0 k)
    refine (congrArg (fun r => Res.bind r g) (?_ : _ = Res.ok (Fl.nx [.val (iD l), .val (.tup (ts.map St.D)), .val (pD (a, b)), .val (uD (u, v)), .val (qD (mx (gA a u) 0 (k + 1))), .val (.int 0), .val (.int k), .val (qD (gA a u k))]) s)).trans ?_
    · refine (sSeq_nx (env' := [.val (iD l), .val (.tup (ts.map St.D)), .val (pD (a, b)), .val (uD (u, v)), .val (qD (mx (gA a u) 0 k)), .val (.int 0), .val (.int k), .val (qD ((ig a k : Rat) - gd u k))]) (s' := s) (by simp [q1, q2, t1, -f_minus_ok, -List.map_map])).trans ?_
      refine (sSeq_nx (env' := [.val (iD l), .val (.tup (ts.map St.D)), .val (pD (a, b)), .val (uD (u, v)), .val (qD (mx (gA a u) 0 k)), .val (.int 0), .val (.int k), .val (qD (gA a u k))]) (s' := s) (by rw [← t3]; simp [qD, -List.map_map])).trans ?_
      rw [em]
      by_cases c : mx (gA a u) 0 k < gA a u k
      · have c2 := sp.mpr c
        have i0 : opIxQ (qD (gA a u k - mx (gA a u) 0 k)) (.int 0) s = .ok (.int (gA a u k - mx (gA a u) 0 k).num) s := by simp [qD]
        rw [if_pos c]
        simp [t2, i0, c2, -f_minus_ok, -List.map_map, -opIxQ]
      · have c2 : ¬ (0 < (gA a u k - mx (gA a u) 0 k).num) := fun h => c (sp.mp h)
        have i0 : opIxQ (qD (gA a u k - mx (gA a u) 0 k)) (.int 0) s = .ok (.int (gA a u k - mx (gA a u) 0 k).num) s := by simp [qD]
        rw [if_neg c]
        simp [t2, i0, c2, -f_minus_ok, -List.map_map, -opIxQ]
    · exact fin _ ⟨_, _, rfl⟩
  · rintro env ⟨x6, x7, rfl⟩
    simp [sFor, lb, g1, bind_assoc', -List.map_map]
    refine for_cR (n := n) (fun k env => ∃ x6 x7, env = [.val (iD l), .val (.tup (ts.map St.D)), .val (pD (a, b)), .val (uD (u, v)), .val (qD (mx (gA b v) (mx (gA a u) 0 n) k)), .val (.int 1), x6, x7]) ?_ ?_ ?_
    · exact ⟨x6, x7, rfl⟩
    · rintro k env hk ⟨x6, x7, rfl⟩ g Y fin
      have q1 := atI_int (l := b) (k := k) (by omega)
      have q2 := atI_qd (ds := v.map qD) (l := v) (k := k) ⟨rfl⟩ (by omega)
      haveI : Iz (ig b k) 200 := ⟨Nat.lt_of_le_of_lt (sb.ig k) hM⟩
      have t1 := f_minus_ok (x := .tup [.int (ig b k), .int 1]) (y := qD (gd v k)) (a := (ig b k : Rat)) (b := gd v k) (by omega) s
      haveI : Sz (gA b v k) 902 := ⟨y2 k hk⟩
      haveI : Sz (mx (gA b v) (mx (gA a u) 0 n) k) 902 := ⟨z2 k (by omega)⟩
      have t2 := f_minus_ok (x := qD (gA b v k)) (y := qD (mx (gA b v) (mx (gA a u) 0 n) k)) (by omega) s
      have t3 := absR_num ((ig b k : Rat) - gd v k)
      have ga : absR ((ig b k : Rat) - gd v k) = gA b v k := rfl
      rw [ga] at t3
      have em : mx (gA b v) (mx (gA a u) 0 n) (k + 1) = if mx (gA b v) (mx (gA a u) 0 n) k < gA b v k then gA b v k else mx (gA b v) (mx (gA a u) 0 n) k := rfl
      have sp := sub_pos_num (gA b v k) (mx (gA b v) (mx (gA a u) 0 n) k)
      refine (congrArg (fun r => Res.bind r g) (?_ : _ = Res.ok (Fl.nx [.val (iD l), .val (.tup (ts.map St.D)), .val (pD (a, b)), .val (uD (u, v)), .val (qD (mx (gA b v) (mx (gA a u) 0 n) (k + 1))), .val (.int 1), .val (.int k), .val (qD (gA b v k))]) s)).trans ?_
      · refine (sSeq_nx (env' := [.val (iD l), .val (.tup (ts.map St.D)), .val (pD (a, b)), .val (uD (u, v)), .val (qD (mx (gA b v) (mx (gA a u) 0 n) k)), .val (.int 1), .val (.int k), .val (qD ((ig b k : Rat) - gd v k))]) (s' := s) (by simp [q1, q2, t1, -f_minus_ok, -List.map_map])).trans ?_
        refine (sSeq_nx (env' := [.val (iD l), .val (.tup (ts.map St.D)), .val (pD (a, b)), .val (uD (u, v)), .val (qD (mx (gA b v) (mx (gA a u) 0 n) k)), .val (.int 1), .val (.int k), .val (qD (gA b v k))]) (s' := s) (by rw [← t3]; simp [qD, -List.map_map])).trans ?_
        rw [em]
        by_cases c : mx (gA b v) (mx (gA a u) 0 n) k < gA b v k
        · have c2 := sp.mpr c
          have i0 : opIxQ (qD (gA b v k - mx (gA b v) (mx (gA a u) 0 n) k)) (.int 0) s = .ok (.int (gA b v k - mx (gA b v) (mx (gA a u) 0 n) k).num) s := by simp [qD]
          rw [if_pos c]
          simp [t2, i0, c2, -f_minus_ok, -List.map_map, -opIxQ]
        · have c2 : ¬ (0 < (gA b v k - mx (gA b v) (mx (gA a u) 0 n) k).num) := fun h => c (sp.mp h)
          have i0 : opIxQ (qD (gA b v k - mx (gA b v) (mx (gA a u) 0 n) k)) (.int 0) s = .ok (.int (gA b v k - mx (gA b v) (mx (gA a u) 0 n) k).num) s := by simp [qD]
          rw [if_neg c]
          simp [t2, i0, c2, -f_minus_ok, -List.map_map, -opIxQ]
      · exact fin _ ⟨_, _, rfl⟩
    · rintro env ⟨x6, x7, rfl⟩
      simp [best]
end
end L2.Mir.W

set_option Elab.async false
set_option linter.all false
set_option maxRecDepth 100000
set_option maxHeartbeats 1000000
namespace L2.Mir.W
open PySem PySem.Spec PyProof.Rows
abbrev U2 (p : List Rat × List Rat) : D := .lst [lQ p.1, lQ p.2]
abbrev tlst (first : Int) (ps o : List Rat) (k : Nat) : List Rat := (List.range ps.length).map fun j => gd ps j * ixR o ((k : Int) + first + j)
theorem tl_sum (first : Int) (ps o : List Rat) (k : Nat) : sumTo (tlst first ps o k).length (gd (tlst first ps o k)) = qs first ps o k ps.length := by
  unfold qs tlst
  rw [List.length_map, List.length_range]
  exact sumTo_congr fun j hj => gd_map_range _ hj
theorem qs_sz {first : Int} {ps o : List Rat} {k z : Nat} (hp : SzL ps 3) (h3 : ps.length ≤ 3) (ho : SzL o z) (h0 : o ≠ []) : szQ (ps.length * (3 + z + 1) + 1) (qs first ps o k ps.length) := by
  refine szQ_sumTo (by omega) fun j hj => ?_
  haveI : Sz (gd ps j) 3 := ⟨hp.h _ (gd_mem hj)⟩
  haveI : Sz (ixR o ((k : Int) + first + j)) z := ⟨ixR_sz ho h0 _⟩
  exact (inferInstance : Sz (gd ps j * ixR o ((k : Int) + first + j)) (3 + z)).h
section
variable {l : List Int} {ts : List St} {n : Nat} {s : DS}
noncomputable abbrev inB : MS := (sApp false 7 (mCB f__law_add (mCons (mBin opIxQ (mBin opIxQ (mVar 2) (mVar 4)) (mVar 8)) (mCons (mCB f__law_total (mCons (mLc (.n 13) [13] (mRng1 (mCons (mCB bLen (mCons (mVar 6) mNil)) mNil)) tsYes (mCall f__law_mul (mCons (mBin opIxQ (mVar 6) (mVar 13)) (mCons (mBin opIxQ (mBin opIxQ (mVar 2) (mBin opSub (mC (.int 1)) (mVar 4))) (mBin opMod (mCB bInt (mCons (mBin opAdd (mBin opAdd (mVar 8) (mVar 5)) (mVar 13)) mNil)) (mVar 3))) mNil)))) mNil)) mNil))))
theorem inB_ok {side first : Int} {ps a b L O : List Rat} {z k : Nat} {x9 x10 x11 : Sl} (hside : (side = 0 ∧ L = a ∧ O = b) ∨ (side = 1 ∧ L = b ∧ O = a)) (hp : SzL ps 3) (h3 : ps.length ≤ 3) (sa : SzL a z) (sb : SzL b z) (hz : z ≤ 160) (la : a.length = n) (lb : b.length = n) (hk : k < n) (h32 : n ≤ 900) :
    inB [.val (.tup (ts.map St.D)), .val (iD l), .val (U2 (a, b)), .val (.int n), .val (.int side), .val (.int first), .val (.tup (ps.map qD)), .own (((List.range k).map fun k => gd L k + qs first ps O k ps.length).map qD), .val (.int k), x9, x10, x11, .no, .no] s
      = .ok (.nx [.val (.tup (ts.map St.D)), .val (iD l), .val (U2 (a, b)), .val (.int n), .val (.int side), .val (.int first), .val (.tup (ps.map qD)), .own (((List.range (k + 1)).map fun k => gd L k + qs first ps O k ps.length).map qD), .val (.int k), x9, x10, x11, .no, .no]) s := by
  have sL : SzL L z := by rcases hside with ⟨_, rfl, rfl⟩ | ⟨_, rfl, rfl⟩ <;> assumption
  have sO : SzL O z := by rcases hside with ⟨_, rfl, rfl⟩ | ⟨_, rfl, rfl⟩ <;> assumption
  have lL : L.length = n := by rcases hside with ⟨_, rfl, rfl⟩ | ⟨_, rfl, rfl⟩ <;> assumption
  have lO : O.length = n := by rcases hside with ⟨_, rfl, rfl⟩ | ⟨_, rfl, rfl⟩ <;> assumption
  have O0 : O ≠ [] := by intro e; rw [e] at lO; simp at lO; omega
  have q1 := atI_qd (ds := L.map qD) (l := L) (k := k) ⟨rfl⟩ (by omega)
  have g2 : RngOk (ps.length : Int) := RngOk.small (by omega) (by omega)
  have g3 : LenOk ps.length := LenOk.small (by omega)
  have hn0 : (n : Int) ≠ 0 := by omega
  have hlt : (0 : Int) < (n : Int) := by omega
  have hltn : 0 < n := by omega
  haveI := hp
  have q4 : ∀ j, j < ps.length → L2.atI (ps.map qD) (j : Int) = some (qD (gd ps j)) := fun j hj => atI_qd (ds := ps.map qD) (l := ps) (k := j) ⟨rfl⟩ hj
  have q3 := fun j : Nat => atI_ixR O0 ((k : Int) + first + j)
  rw [lO] at q3
  have t1 := fun (j : Nat) (hj : j < ps.length) => by
    haveI : Sz (ixR O ((k : Int) + first + j)) z := ⟨ixR_sz sO O0 _⟩
    exact f__law_mul_ok (x := qD (gd ps j)) (y := qD (ixR O ((k : Int) + first + j))) (by omega) s
  have m : ps.length * (3 + z + 1) ≤ 3 * 170 := Nat.mul_le_mul (by omega) (by omega)
  haveI : Sz (gd L k) z := ⟨sL.h _ (gd_mem (by omega))⟩
  haveI : Sz (qs first ps O k ps.length) (ps.length * (3 + z + 1) + 1) := ⟨qs_sz hp h3 sO O0⟩
  have t2 := f__law_add_ok (x := qD (gd L k)) (y := qD (qs first ps O k ps.length)) (by omega) s
  haveI : SzL (tlst first ps O k) (3 + z) := ⟨fun q hq => by
    obtain ⟨j, hj, rfl⟩ := List.mem_map.mp hq
    haveI : Sz (gd ps j) 3 := ⟨hp.h _ (gd_mem (List.mem_range.mp hj))⟩
    haveI : Sz (ixR O ((k : Int) + first + j)) z := ⟨ixR_sz sO O0 _⟩
    exact (inferInstance : Sz (gd ps j * ixR O ((k : Int) + first + j)) (3 + z)).h⟩
  haveI : Ln (tlst first ps O k) 3 := ⟨by simp [tlst]; omega⟩
  have t3 := f__law_total_ok (ds := (tlst first ps O k).map qD) (l := tlst first ps O k) (i := 3 + z) (n := 3) (by omega) s
  rw [tl_sum] at t3
  have gL : LenOk (k + 1) := LenOk.small (by omega)
  have er : ((List.range (k + 1)).map fun k => gd L k + qs first ps O k ps.length).map qD = ((List.range k).map fun k => gd L k + qs first ps O k ps.length).map qD ++ [qD (gd L k + qs first ps O k ps.length)] := by
    rw [List.range_succ, List.map_append, List.map_append]; rfl
  rw [er]
  have ec : lcGo (lcF (.n 13) tsYes (mCall f__law_mul (mCons (mBin opIxQ (mVar 6) (mVar 13)) (mCons (mBin opIxQ (mBin opIxQ (mVar 2) (mBin opSub (mC (.int 1)) (mVar 4))) (mBin opMod (mCB bInt (mCons (mBin opAdd (mBin opAdd (mVar 8) (mVar 5)) (mVar 13)) mNil)) (mVar 3))) mNil))) [some (.tup (ts.map St.D)), some (iD l), some (U2 (a, b)), some (.int n), some (.int side), some (.int first), some (.tup (ps.map qD)), none, some (.int k), x9.hide, x10.hide, x11.hide, none, none]) (rngD 0 (ps.length : Int)) s = .ok ((tlst first ps O k).map qD) s := by
    rw [comp_rng (fun j => gd ps j * ixR O ((k : Int) + first + j))]
    intro j hj
    rcases hside with ⟨rfl, rfl, rfl⟩ | ⟨rfl, rfl, rfl⟩
    · simp [q4 j hj, q3, hn0, hlt, hltn, t1 j hj, -f__law_mul_ok, -List.map_map]
    · simp [q4 j hj, q3, hn0, hlt, hltn, t1 j hj, -f__law_mul_ok, -List.map_map]
  have hv : ∀ d, (Sl.val d).hide = some d := fun _ => rfl
  have ho : ∀ d, (Sl.own d).hide = none := fun _ => rfl
  have hno : Sl.no.hide = none := rfl
  rcases hside with ⟨rfl, rfl, rfl⟩ | ⟨rfl, rfl, rfl⟩
  · simp [q1, g2, g3, len_rngD, ec, t2, t3, gL, hv, ho, hno, -Sl.hide, -f__law_add_ok, -f__law_total_ok, -lcF, -List.map_map]
  · simp [q1, g2, g3, len_rngD, ec, t2, t3, gL, hv, ho, hno, -Sl.hide, -f__law_add_ok, -f__law_total_ok, -lcF, -List.map_map]
noncomputable abbrev outB : MS := (sSeq (sSetO false 7 (mLst mNil)) (sSeq (sFor (.n 8) (mRng1 (mCons (mVar 3) mNil)) inB) (sFrz 7 (sSet false 2 (mIf (mCmpT opEq (mVar 4) (mC (.int 0))) (mLst (mCons (mVar 7) (mCons (mBin opIxQ (mVar 2) (mC (.int 1))) mNil))) (mLst (mCons (mBin opIxQ (mVar 2) (mC (.int 0))) (mCons (mVar 7) mNil))))))))
theorem outB_ok {t : St} {q : List Rat × List Rat} {z : Nat} {x7 x8 x9 x10 x11 : Sl} (ht : t.ok) (hq : Qr q n z) (hz : z ≤ 160) (h1 : 1 ≤ n) (h32 : n ≤ 900) :
    ∃ y7 y8, outB [.val (.tup (ts.map St.D)), .val (iD l), .val (U2 q), .val (.int n), .val (.int t.side), .val (.int t.first), .val (.tup (t.ps.map qD)), x7, x8, x9, x10, x11, .no, .no] s
      = .ok (.nx [.val (.tup (ts.map St.D)), .val (iD l), .val (U2 (qstp t.side t.first t.ps q)), .val (.int n), .val (.int t.side), .val (.int t.first), .val (.tup (t.ps.map qD)), y7, y8, x9, x10, x11, .no, .no]) s := by
  obtain ⟨side, first, ps⟩ := t
  obtain ⟨a, b⟩ := q
  have la : a.length = n := hq.l1
  have lb : b.length = n := hq.l2
  have ps3 := ht.pb.sz
  have hlen := ht.pb.len
  have hsd := ht.side
  simp only at ps3 hlen hsd
  have g1 : RngOk (n : Int) := RngOk.small (by omega) (by omega)
  have loop : ∀ (L O : List Rat), ((side = 0 ∧ L = a ∧ O = b) ∨ (side = 1 ∧ L = b ∧ O = a)) → ∀ x8, ∃ y8, forGo (.n 8) inB (rngD 0 (n : Int)) [.val (.tup (ts.map St.D)), .val (iD l), .val (U2 (a, b)), .val (.int n), .val (.int side), .val (.int first), .val (.tup (ps.map qD)), .own [], x8, x9, x10, x11, .no, .no] s
      = .ok (.nx [.val (.tup (ts.map St.D)), .val (iD l), .val (U2 (a, b)), .val (.int n), .val (.int side), .val (.int first), .val (.tup (ps.map qD)), .own (((List.range n).map fun k => gd L k + qs first ps O k ps.length).map qD), y8, x9, x10, x11, .no, .no]) s := by
    intro L O hs x8
    have := cps_ex (Bd := fun env s => forGo (.n 8) inB (rngD 0 (n : Int)) env s) (env := [.val (.tup (ts.map St.D)), .val (iD l), .val (U2 (a, b)), .val (.int n), .val (.int side), .val (.int first), .val (.tup (ps.map qD)), .own [], x8, x9, x10, x11, .no, .no]) (s := s) (P := fun env => ∃ y8, env = [.val (.tup (ts.map St.D)), .val (iD l), .val (U2 (a, b)), .val (.int n), .val (.int side), .val (.int first), .val (.tup (ps.map qD)), .own (((List.range n).map fun k => gd L k + qs first ps O k ps.length).map qD), y8, x9, x10, x11, .no, .no]) (fun g Y fin => by
      refine for_cR (n := n) (fun k env => ∃ y8, env = [.val (.tup (ts.map St.D)), .val (iD l), .val (U2 (a, b)), .val (.int n), .val (.int side), .val (.int first), .val (.tup (ps.map qD)), .own (((List.range k).map fun k => gd L k + qs first ps O k ps.length).map qD), y8, x9, x10, x11, .no, .no]) ?_ ?_ fin
      · exact ⟨x8, rfl⟩
      · rintro k env hk ⟨y8, rfl⟩ g Y fin
        have := inB_ok (l := l) (ts := ts) (s := s) (x9 := x9) (x10 := x10) (x11 := x11) (first := first) hs ps3 hlen hq.s1 hq.s2 hz la lb hk h32
        simp only [List.set_cons_succ, List.set_cons_zero]
        rw [this, bind_ok]
        exact fin _ ⟨_, rfl⟩)
    obtain ⟨env', e, y8, rfl⟩ := this
    exact ⟨y8, e⟩
  rcases hsd with rfl | rfl
  · obtain ⟨y8, e⟩ := loop a b (.inl ⟨rfl, rfl, rfl⟩) x8
    refine ⟨.val (lQ ((List.range n).map fun k => gd a k + qs first ps b k ps.length)), y8, (sSeq_nx (env' := [.val (.tup (ts.map St.D)), .val (iD l), .val (U2 (a, b)), .val (.int n), .val (.int 0), .val (.int first), .val (.tup (ps.map qD)), .own [], x8, x9, x10, x11, .no, .no]) (s' := s) (by simp)).trans ((sSeq_nx (by simp [sFor, g1]; exact e)).trans ?_)⟩
    · simp [qstp, qbump, la, -List.map_map]
  · obtain ⟨y8, e⟩ := loop b a (.inr ⟨rfl, rfl, rfl⟩) x8
    refine ⟨.val (lQ ((List.range n).map fun k => gd b k + qs first ps a k ps.length)), y8, (sSeq_nx (env' := [.val (.tup (ts.map St.D)), .val (iD l), .val (U2 (a, b)), .val (.int n), .val (.int 1), .val (.int first), .val (.tup (ps.map qD)), .own [], x8, x9, x10, x11, .no, .no]) (s' := s) (by simp)).trans ((sSeq_nx (by simp [sFor, g1]; exact e)).trans ?_)⟩
    · simp [qstp, qbump, lb, -List.map_map]
end
end L2.Mir.W

set_option Elab.async false
set_option linter.all false
set_option maxRecDepth 100000
set_option maxHeartbeats 1000000
namespace L2.Mir.W
open PySem PySem.Spec PyProof.Rows
theorem le_half {b : Rat} (h : b ≤ 1 / 2) : 2 * b.num ≤ (b.den : Int) := by
  have hd : (0 : Rat) < (b.den : Rat) := by exact_mod_cast b.den_pos
  have e : b * (b.den : Rat) = (b.num : Rat) := frac_t b
  have h2 : (0 : Rat) ≤ (1 / 2 - b) * (b.den : Rat) := Rat.mul_nonneg (by grind) (Rat.le_of_lt hd)
  have h3 : (2 : Rat) * (b.num : Rat) ≤ (b.den : Rat) := by grind
  exact_mod_cast h3
theorem round_half {first : Int} {ps : List Rat} {o : List Int} (k : Nat) (h0 : o ≠ []) : absR ((tb first ps o k : Rat) - qs first ps (inR o) k ps.length) ≤ 1 / 2 := by
  have e : tsum first ps o k ps.length = 1 / 2 + qs first ps (inR o) k ps.length := by
    unfold tsum qs
    congr 1
    refine sumTo_congr fun j hj => ?_
    congr 1
    unfold ixR ix
    rw [inR_len]
    have hp := List.length_pos_iff.mpr h0
    have a0 : 0 ≤ ((k : Int) + first + (j : Int)) % (o.length : Int) := Int.emod_nonneg _ (by omega)
    have a1 : ((k : Int) + first + (j : Int)) % (o.length : Int) < o.length := Int.emod_lt_of_pos _ (by omega)
    rw [gd_inR (by omega)]
  have b := flo_bounds (tsum first ps o k ps.length)
  unfold tb
  rw [e] at b ⊢
  generalize (flo (1 / 2 + qs first ps (inR o) k ps.length) : Rat) = f at *
  generalize qs first ps (inR o) k ps.length = q at *
  unfold absR
  split <;> grind
section
variable {l : List Int} {ts : List St} {n : Nat} {s : DS}
theorem one_half {t : St} (hl : l.length = 2 * n) (h1 : 1 ≤ n) (ht : t.ok) (hb : Bd l 20) : best (aprt [t] 1 (evs l, ods l)) (qaprt [t] (inR (evs l), inR (ods l))) n ≤ 1 / 2 := by
  have p := pr0 hl hb
  have la := p.l1
  have lb := p.l2
  simp only at la lb
  have a0 : evs l ≠ [] := by intro e; rw [e] at la; simp at la; omega
  have b0 : ods l ≠ [] := by intro e; rw [e] at lb; simp at lb; omega
  have z : (0 : Rat) ≤ 1 / 2 := by decide +kernel
  show best (stp t.side t.first t.ps 1 (evs l, ods l)) (qstp t.side t.first t.ps (inR (evs l), inR (ods l))) n ≤ 1 / 2
  have same : ∀ (m : List Int) (k : Nat), k < m.length → gA m (inR m) k ≤ 1 / 2 := fun m k hk => by
    unfold gA
    rw [gd_inR hk]
    have : (ig m k : Rat) - (ig m k : Rat) = 0 := by grind
    rw [this]
    exact z
  have moved : ∀ (m o : List Int) (k : Nat), k < m.length → o ≠ [] → gA (bump t.first t.ps 1 m o) (qbump t.first t.ps (inR m) (inR o)) k ≤ 1 / 2 := fun m o k hk h0 => by
    unfold gA
    rw [ig_bump hk, gd_qbump (by rw [inR_len]; exact hk), gd_inR hk]
    have e : (((ig m k + 1 * tb t.first t.ps o k : Int)) : Rat) - ((ig m k : Rat) + qs t.first t.ps (inR o) k t.ps.length) = (tb t.first t.ps o k : Rat) - qs t.first t.ps (inR o) k t.ps.length := by
      rw [Int.one_mul, Rat.intCast_add]; grind
    rw [e]
    exact round_half k h0
  unfold best stp qstp
  split
  · exact mx_le (mx_le z n fun k hk => moved _ _ k (by show k < (evs l).length; omega) b0) n fun k hk => same _ k (by show k < (ods l).length; omega)
  · exact mx_le (mx_le z n fun k hk => same _ k (by show k < (evs l).length; omega)) n fun k hk => moved _ _ k (by show k < (ods l).length; omega) a0
noncomputable abbrev gapB : MS := (sSeq (sSet false 11 (mCB f__law_add (mCons (mTup (mCons (mBin opIxQ (mBin opIxQ (mVar 9) (mVar 4)) (mVar 8)) (mCons (mC (.int 1)) mNil))) (mCons (mCB f__law_neg (mCons (mBin opIxQ (mBin opIxQ (mVar 2) (mVar 4)) (mVar 8)) mNil)) mNil)))) (sSeq (sSet false 11 (mTup (mCons (mCB bAbs (mCons (mBin opIxQ (mVar 11) (mC (.int 0))) mNil)) (mCons (mBin opIxQ (mVar 11) (mC (.int 1))) mNil)))) (sSet false 10 (mIf (mCmpT (opCmp pGt) (mBin opMulT (mBin opIxQ (mVar 11) (mC (.int 0))) (mBin opIxQ (mVar 10) (mC (.int 1)))) (mBin opMulT (mBin opIxQ (mVar 10) (mC (.int 0))) (mBin opIxQ (mVar 11) (mC (.int 1))))) (mVar 11) (mVar 10)))))
theorem gapB_ok {side : Int} {a b T : List Int} {u v Q : List Rat} {B : Rat} {k z M : Nat} {x5 x6 x7 x11 : Sl} (hside : (side = 0 ∧ T = a ∧ Q = u) ∨ (side = 1 ∧ T = b ∧ Q = v)) (hT : T.length = n) (hQ : Q.length = n) (hk : k < n) (bT : Bd T M) (hM : M < 2 ^ 200) (sQ : SzL Q z) (hz : z ≤ 700) (sB : szQ 902 B) :
    gapB [.val (.tup (ts.map St.D)), .val (iD l), .val (U2 (u, v)), .val (.int n), .val (.int side), x5, x6, x7, .val (.int k), .val (pD (a, b)), .val (qD B), x11, .no, .no] s
      = .ok (.nx [.val (.tup (ts.map St.D)), .val (iD l), .val (U2 (u, v)), .val (.int n), .val (.int side), x5, x6, x7, .val (.int k), .val (pD (a, b)), .val (qD (if B < gA T Q k then gA T Q k else B)), .val (qD (gA T Q k)), .no, .no]) s := by
  have q1 := atI_int (l := T) (k := k) (by omega)
  have q2 := atI_qd (ds := Q.map qD) (l := Q) (k := k) ⟨rfl⟩ (by omega)
  haveI : Iz (ig T k) 200 := ⟨Nat.lt_of_le_of_lt (bT.ig k) hM⟩
  haveI : Sz (gd Q k) z := ⟨sQ.h _ (gd_mem (by omega))⟩
  have t0 := f__law_neg_ok (x := qD (gd Q k)) s
  have t1 := f__law_add_ok (x := .tup [.int (ig T k), .int 1]) (y := qD (-gd Q k)) (a := (ig T k : Rat)) (b := -gd Q k) (by omega) s
  have e1 : (ig T k : Rat) + -gd Q k = (ig T k : Rat) - gd Q k := by grind
  rw [e1] at t1
  have y := gA_sz (n := n) bT hM sQ hQ hk hz
  have t3 := absR_num ((ig T k : Rat) - gd Q k)
  have ga : absR ((ig T k : Rat) - gd Q k) = gA T Q k := rfl
  rw [ga] at t3
  haveI : Sz (gA T Q k) 902 := ⟨y⟩
  haveI : Sz B 902 := ⟨sB⟩
  refine (sSeq_nx (env' := [.val (.tup (ts.map St.D)), .val (iD l), .val (U2 (u, v)), .val (.int n), .val (.int side), x5, x6, x7, .val (.int k), .val (pD (a, b)), .val (qD B), .val (qD ((ig T k : Rat) - gd Q k)), .no, .no]) (s' := s) ?_).trans ?_
  · rcases hside with ⟨rfl, rfl, rfl⟩ | ⟨rfl, rfl, rfl⟩ <;> simp [q1, q2, t0, t1, -f__law_add_ok, -f__law_neg_ok, -List.map_map]
  refine (sSeq_nx (env' := [.val (.tup (ts.map St.D)), .val (iD l), .val (U2 (u, v)), .val (.int n), .val (.int side), x5, x6, x7, .val (.int k), .val (pD (a, b)), .val (qD B), .val (qD (gA T Q k)), .no, .no]) (s' := s) (by rw [← t3]; simp [qD, -List.map_map])).trans ?_
  have m1 := mulOk_iz (i := (gA T Q k).num) (j := (B.den : Int)) (by omega)
  have m2 := mulOk_iz (i := B.num) (j := ((gA T Q k).den : Int)) (by omega)
  have lt := Rat.lt_iff B (gA T Q k)
  generalize gA T Q k = G at *
  have i0 : ∀ q : Rat, opIxQ (qD q) (.int 0) s = .ok (.int q.num) s := fun q => by simp [qD]
  have i1 : ∀ q : Rat, opIxQ (qD q) (.int 1) s = .ok (.int q.den) s := fun q => by simp [qD]
  by_cases c : B < G
  · have c2 := lt.mp c
    rw [if_pos c]
    simp [i0, i1, m1, m2, c2, -List.map_map]
  · have c2 : ¬ (B.num * (G.den : Int) < G.num * (B.den : Int)) := fun h => c (lt.mpr h)
    rw [if_neg c]
    simp [i0, i1, m1, m2, c2, -List.map_map]
end
end L2.Mir.W

set_option Elab.async false
set_option linter.all false
set_option maxRecDepth 100000
set_option maxHeartbeats 1000000
namespace L2.Mir.W
open PySem PySem.Spec PyProof.Rows
section
variable {l : List Int} {ts : List St} {n : Nat} {s : DS}
theorem runs_st (t : St) : Pat.run (.t [(.n 4), (.n 5), (.n 6)]) t.D = some [(4, .int t.side), (5, .int t.first), (6, .tup (t.ps.map qD))] := by simp [St.D, stD, Pat.run, Pat.runs]
theorem law_plain_ok (h3 : ts.length ≤ 3) (hl : l.length = 2 * n) (h1 : 1 ≤ n) (h32 : n ≤ 32) (ht : ∀ t ∈ ts, t.ok) (hb : Bd l 20) : f__law_plain [.tup (ts.map St.D), iD l] s = .ok (.bl true) s := by
  have e1 := str_ev hl
  have e2 := str_od hl h1
  have q0 := qr0 hl hb
  have p0 := pr0 hl hb
  have r0 := f__law_apart_ok (sg := 1) (.inl rfl) hl h1 (by omega) ht hb (grow_big (by omega) (by omega)) s
  have r1 := f_without_rounding_ok h3 hl h1 h32 ht hb s
  have r2 := f_gap_of_ok h3 hl h1 h32 ht hb s
  have hp := Pr.aprt (sg := 1) (.inl rfl) ts _ _ p0 ht
  have hq := Qr.aprt h1 ts _ _ q0 ht
  have hM : grow ts.length 20 < 2 ^ 200 := Nat.lt_of_lt_of_le (grow_big (by omega) (by omega)) (Nat.pow_le_pow_right (by decide) (by decide))
  have hz : qgrow ts.length 6 ≤ 700 := by have := qgrow_big h3 (k := 6) (by omega); omega
  have ge : LenOk (evs l).length := LenOk.small (by have := p0.l1; simp only at this; omega)
  have go : LenOk (ods l).length := LenOk.small (by have := p0.l2; simp only at this; omega)
  have hn : ((2 * n : Nat) : Int) / 2 = (n : Int) := by omega
  have g1 : RngOk (n : Int) := RngOk.small (by omega) (by omega)
  have half : ts.length = 1 → best (aprt ts 1 (evs l, ods l)) (qaprt ts (inR (evs l), inR (ods l))) n ≤ 1 / 2 := fun h => by
    match ts, h with
    | [t], _ => exact one_half hl h1 (ht t (by simp)) hb
  have steps : ∃ x4 x5 x6 x7 x8, forGo (.t [(.n 4), (.n 5), (.n 6)]) outB (ts.map St.D) [.val (.tup (ts.map St.D)), .val (iD l), .val (U2 (inR (evs l), inR (ods l))), .val (.int n), .no, .no, .no, .no, .no, .no, .no, .no, .no, .no] s
      = .ok (.nx [.val (.tup (ts.map St.D)), .val (iD l), .val (U2 (qaprt ts (inR (evs l), inR (ods l)))), .val (.int n), x4, x5, x6, x7, x8, .no, .no, .no, .no, .no]) s := by
    have := cps_ex (Bd := fun env s => forGo (.t [(.n 4), (.n 5), (.n 6)]) outB (ts.map St.D) env s) (env := [.val (.tup (ts.map St.D)), .val (iD l), .val (U2 (inR (evs l), inR (ods l))), .val (.int n), .no, .no, .no, .no, .no, .no, .no, .no, .no, .no]) (s := s) (P := fun env => ∃ x4 x5 x6 x7 x8, env = [.val (.tup (ts.map St.D)), .val (iD l), .val (U2 (qaprt ts (inR (evs l), inR (ods l)))), .val (.int n), x4, x5, x6, x7, x8, .no, .no, .no, .no, .no]) (fun g Y fin => by
      refine for_bind (fun k env => ∃ x4 x5 x6 x7 x8, env = [.val (.tup (ts.map St.D)), .val (iD l), .val (U2 (qaprt (ts.take k) (inR (evs l), inR (ods l)))), .val (.int n), x4, x5, x6, x7, x8, .no, .no, .no, .no, .no]) ?_ ?_ ?_
      · exact ⟨.no, .no, .no, .no, .no, rfl⟩
      · rintro k env d hd ⟨x4, x5, x6, x7, x8, rfl⟩
        rw [List.getElem?_map] at hd
        cases h : ts[k]? with
        | none => rw [h] at hd; cases hd
        | some t =>
          rw [h] at hd
          cases hd
          have hk : k < ts.length := (List.getElem?_eq_some_iff.mp h).1
          have pk := Qr.aprt h1 (ts.take k) _ _ q0 fun t ht'' => ht t (List.mem_of_mem_take ht'')
          have hg : qgrow (ts.take k).length 6 ≤ 160 := by
            rw [List.length_take, Nat.min_eq_left (by omega)]
            have := qgrow_big2 (m := k) (k := 6) (by omega) (by omega)
            omega
          obtain ⟨y7, y8, e⟩ := outB_ok (l := l) (ts := ts) (s := s) (x7 := x7) (x8 := x8) (x9 := .no) (x10 := .no) (x11 := .no) (ht t (List.mem_of_getElem? h)) pk hg h1 (by omega)
          exact ⟨_, _, runs_st t, .inl e, .val (.int t.side), .val (.int t.first), .val (.tup (t.ps.map qD)), y7, y8, by rw [qaprt_take ts _ h]⟩
      · intro env' h
        rw [List.length_map, List.take_length] at h
        exact fin env' h)
    obtain ⟨env', e, x4, x5, x6, x7, x8, rfl⟩ := this
    exact ⟨x4, x5, x6, x7, x8, e⟩
  obtain ⟨x4, x5, x6, x7, x8, steps⟩ := steps
  have el : ts.map St.D = ts.map St.D := rfl
  apply runDef_rt
  unfold m__law_plain
  have e0 : startE 14 [.tup (ts.map St.D), iD l] = [.val (.tup (ts.map St.D)), .val (iD l), .no, .no, .no, .no, .no, .no, .no, .no, .no, .no, .no, .no] := rfl
  rw [e0]
  have L1 : ∀ (env : VE) (l : List Int) (h : 12 < env.length), lcGo (lcF (.n 12) tsYes (mTup (mCons (mVar 12) (mCons (mC (.int 1)) mNil))) env) (l.map .int) s = .ok ((inR l).map qD) s := fun env l h => lc_inR fun z => by simp [h]
  refine (sSeq_nx (env' := [.val (.tup (ts.map St.D)), .val (iD l), .val (U2 (inR (evs l), inR (ods l))), .no, .no, .no, .no, .no, .no, .no, .no, .no, .no, .no]) (s' := s) (by simp [e1, e2, ge, go, L1, -lcF, -List.map_map])).trans ?_
  refine (sSeq_nx (env' := [.val (.tup (ts.map St.D)), .val (iD l), .val (U2 (inR (evs l), inR (ods l))), .val (.int n), .no, .no, .no, .no, .no, .no, .no, .no, .no, .no]) (s' := s) (by simp [hl, hn, -List.map_map, -Int.natCast_mul])).trans ?_
  refine (sSeq_nx (env' := [.val (.tup (ts.map St.D)), .val (iD l), .val (U2 (qaprt ts (inR (evs l), inR (ods l)))), .val (.int n), x4, x5, x6, x7, x8, .no, .no, .no, .no, .no]) (s' := s) (by simp only [sFor, mSeq]; simp [-List.map_map, -sApp, -sFrz, -sSetO, -sSet, -sFor, -sSeq]; exact steps)).trans ?_
  generalize aprt ts 1 (evs l, ods l) = p at *
  generalize hqq : qaprt ts (inR (evs l), inR (ods l)) = q at *
  generalize grow ts.length 20 = M at *
  generalize qgrow ts.length 6 = z at *
  refine (sSeq_nx (env' := [.val (.tup (ts.map St.D)), .val (iD l), .val (U2 q), .val (.int n), x4, x5, x6, x7, x8, .val (pD p), .val (qD 0), .no, .no, .no]) (s' := s) ?_).trans ?_
  · have z0 : D.tup [.int 0, .int 1] = qD 0 := (inferInstance : QD (D.tup [.int 0, .int 1]) 0).h
    have hv : ∀ d, (Sl.val d).hide = some d := fun _ => rfl
    simp [r0, z0, -List.map_map]
  have loop : ∀ (side : Int) (T : List Int) (Q : List Rat) (B : Rat) (x8 x11 : Sl), (side = 0 ∧ T = p.1 ∧ Q = q.1) ∨ (side = 1 ∧ T = p.2 ∧ Q = q.2) → szQ 902 B → (∀ k, k ≤ n → szQ 902 (mx (gA T Q) B k)) → ∃ y8 y11, forGo (.n 8) gapB (rngD 0 (n : Int)) [.val (.tup (ts.map St.D)), .val (iD l), .val (U2 q), .val (.int n), .val (.int side), x5, x6, x7, x8, .val (pD p), .val (qD B), x11, .no, .no] s
      = .ok (.nx [.val (.tup (ts.map St.D)), .val (iD l), .val (U2 q), .val (.int n), .val (.int side), x5, x6, x7, y8, .val (pD p), .val (qD (mx (gA T Q) B n)), y11, .no, .no]) s := by
    intro side T Q B x8 x11 hs sB sA
    obtain ⟨a, b⟩ := p
    obtain ⟨u, v⟩ := q
    have la : a.length = n := hp.l1
    have lb : b.length = n := hp.l2
    have lu : u.length = n := hq.l1
    have lv : v.length = n := hq.l2
    have su : SzL u z := hq.s1
    have sv : SzL v z := hq.s2
    have ba : Bd a M := hp.b1
    have bb : Bd b M := hp.b2
    simp only at hs
    have lT : T.length = n := by rcases hs with ⟨_, rfl, rfl⟩ | ⟨_, rfl, rfl⟩ <;> assumption
    have lQ' : Q.length = n := by rcases hs with ⟨_, rfl, rfl⟩ | ⟨_, rfl, rfl⟩ <;> assumption
    have sQ : SzL Q z := by rcases hs with ⟨_, rfl, rfl⟩ | ⟨_, rfl, rfl⟩ <;> assumption
    have bT : Bd T M := by rcases hs with ⟨_, rfl, rfl⟩ | ⟨_, rfl, rfl⟩ <;> assumption
    have := cps_ex (Bd := fun env s => forGo (.n 8) gapB (rngD 0 (n : Int)) env s) (env := [.val (.tup (ts.map St.D)), .val (iD l), .val (U2 (u, v)), .val (.int n), .val (.int side), x5, x6, x7, x8, .val (pD (a, b)), .val (qD B), x11, .no, .no]) (s := s) (P := fun env => ∃ y8 y11, env = [.val (.tup (ts.map St.D)), .val (iD l), .val (U2 (u, v)), .val (.int n), .val (.int side), x5, x6, x7, y8, .val (pD (a, b)), .val (qD (mx (gA T Q) B n)), y11, .no, .no]) (fun g Y fin => by
      refine for_cR (n := n) (fun k env => ∃ y8 y11, env = [.val (.tup (ts.map St.D)), .val (iD l), .val (U2 (u, v)), .val (.int n), .val (.int side), x5, x6, x7, y8, .val (pD (a, b)), .val (qD (mx (gA T Q) B k)), y11, .no, .no]) ?_ ?_ fin
      · exact ⟨x8, x11, rfl⟩
      · rintro k env hk ⟨y8, y11, rfl⟩ g Y fin
        have := gapB_ok (l := l) (ts := ts) (s := s) (x5 := x5) (x6 := x6) (x7 := x7) (x11 := y11) hs lT lQ' hk bT hM sQ hz (sA k (by omega))
        simp only [List.set_cons_succ, List.set_cons_zero]
        rw [this, bind_ok]
        exact fin _ ⟨_, _, rfl⟩)
    obtain ⟨env', e, y8, y11, rfl⟩ := this
    exact ⟨y8, y11, e⟩
  have z0 : szQ 902 0 := (inferInstance : Sz 0 1).h.mono (by omega)
  obtain ⟨y8, y11, k1⟩ := loop 0 p.1 q.1 0 x8 .no (.inl ⟨rfl, rfl, rfl⟩) z0 fun k hk => best_sz1 hp hM hq hz hk
  obtain ⟨w8, w11, k2⟩ := loop 1 p.2 q.2 _ y8 y11 (.inr ⟨rfl, rfl, rfl⟩) (best_sz1 hp hM hq hz (Nat.le_refl _)) fun k hk => best_sz2 hp hM hq hz hk
  have er : rngD 0 2 = [.int 0, .int 1] := rfl
  have hbest : mx (gA p.2 q.2) (mx (gA p.1 q.1) 0 n) n = best p q n := rfl
  rw [hbest] at k2
  refine (sSeq_nx (env' := [.val (.tup (ts.map St.D)), .val (iD l), .val (U2 q), .val (.int n), .val (.int 1), x5, x6, x7, w8, .val (pD p), .val (qD (best p q n)), w11, .no, .no]) (s' := s) ?_).trans ?_
  · have f1 : sFor (.n 8) (mRng1 (mCons (mVar 3) mNil)) gapB [.val (.tup (ts.map St.D)), .val (iD l), .val (U2 q), .val (.int n), .val (.int 0), x5, x6, x7, x8, .val (pD p), .val (qD 0), .no, .no, .no] s = .ok (.nx [.val (.tup (ts.map St.D)), .val (iD l), .val (U2 q), .val (.int n), .val (.int 0), x5, x6, x7, y8, .val (pD p), .val (qD (mx (gA p.1 q.1) 0 n)), y11, .no, .no]) s := by
      unfold sFor
      simp [g1, -List.map_map, -sFor, -sSeq, -sSet]
      exact k1
    have f2 : sFor (.n 8) (mRng1 (mCons (mVar 3) mNil)) gapB [.val (.tup (ts.map St.D)), .val (iD l), .val (U2 q), .val (.int n), .val (.int 1), x5, x6, x7, y8, .val (pD p), .val (qD (mx (gA p.1 q.1) 0 n)), y11, .no, .no] s = .ok (.nx [.val (.tup (ts.map St.D)), .val (iD l), .val (U2 q), .val (.int n), .val (.int 1), x5, x6, x7, w8, .val (pD p), .val (qD (best p q n)), w11, .no, .no]) s := by
      unfold sFor
      simp [g1, -List.map_map, -sFor, -sSeq, -sSet]
      exact k2
    generalize hg : sFor (.n 8) (mRng1 (mCons (mVar 3) mNil)) gapB = G at *
    simp [er, forGo, f1, f2, -List.map_map]
  · have hbz := best_sz2 hp hM hq hz (Nat.le_refl n)
    rw [hbest] at hbz
    haveI : Sz (best p q n) 902 := ⟨hbz⟩
    have m1 := mulOk_iz (i := (2 : Int)) (j := (best p q n).num) (by omega)
    have i0 : ∀ q : Rat, opIxQ (qD q) (.int 0) s = .ok (.int q.num) s := fun q => by simp [qD]
    have i1 : ∀ q : Rat, opIxQ (qD q) (.int 1) s = .ok (.int q.den) s := fun q => by simp [qD]
    have o1 : ∀ u : List Rat, okDs 58 (u.map qD) = true := okDs_map 57
    have dq : ∀ u : List Rat, deqs (u.map qD) (u.map qD) = true := fun u => by rw [deqs_map]; simp
    by_cases c : ts.length = 1
    · have hh := le_half (half c)
      simp [r1, r2, hqq, i0, i1, m1, c, hh, o1, dq, -List.map_map]
    · have c2 : ¬ ((ts.length : Int) = 1) := by omega
      simp [r1, r2, hqq, i0, i1, m1, c, c2, o1, dq, -List.map_map]
end
end L2.Mir.W

set_option Elab.async false
set_option linter.all false
set_option maxRecDepth 100000
set_option maxHeartbeats 1000000
namespace L2.Mir.W
open PySem PySem.Spec PyProof.Rows
/-- a loop that ends in an exception -/
theorem for_exc {p : Pat} {Bd : MS} {ds : List D} {s : DS} {x : Xc} {K : Nat} (P : Nat → SE → Prop)
    (step : ∀ (i : Nat) (env : SE) (d : D), i < K → ds[i]? = some d → P i env → ∃ as env', p.run d = some as ∧ Bd (setSl env as) s = .ok (.nx env') s ∧ P (i + 1) env')
    (exc : ∀ (env : SE) (d : D), ds[K]? = some d → P K env → ∃ as, p.run d = some as ∧ Bd (setSl env as) s = .exc x s) (hK : K < ds.length) (env : SE) (h0 : P 0 env) : forGo p Bd ds env s = .exc x s := by
  have key : ∀ (m i : Nat) (env : SE), i + m = K → P i env → forGo p Bd (ds.drop i) env s = .exc x s := by
    intro m
    induction m with
    | zero =>
      intro i env hi hP
      have hi' : i = K := by omega
      subst hi'
      rw [List.drop_eq_getElem_cons hK]
      obtain ⟨as, h1, h2⟩ := exc env ds[i] (List.getElem?_eq_getElem hK) hP
      unfold forGo
      rw [h1]
      simp only [h2]
      rfl
    | succ m ih =>
      intro i env hi hP
      have hlt : i < ds.length := by omega
      rw [List.drop_eq_getElem_cons hlt]
      obtain ⟨as, env', h1, h2, h3⟩ := step i env ds[i] (by omega) (List.getElem?_eq_getElem hlt) hP
      unfold forGo
      rw [h1]
      simp only [h2, bind_ok]
      exact ih (i + 1) env' (by omega) h3
  have := key K 0 env (by omega) h0
  rwa [List.drop_zero] at this
abbrev longE : Xc := ⟨0, [.str (PySem.Str.ofString "long")]⟩
section
variable {l : List Int} {ts : List St} {s : DS}
theorem wholes_one (x : Int) : f_is_wholes [.lst [.int x]] s = .ok (.bl false) s := by
  simp [f_is_wholes, m_is_wholes]
theorem apart_one (x : Int) (d : D) : f_apart [.lst [.int x], d] s = .exc longE s := by
  have w := wholes_one (s := s) x
  simp [f_apart, m_apart, w]
theorem f_pyramid_long {K m M : Nat} (hl : l.length = 2 ^ K) (hK : K ≤ 4) (hm : K < m) (hm9 : m ≤ 20) (ht : ∀ t ∈ ts, t.ok) (hb : Bd l M) (hM : grow (K * ts.length) M < 2 ^ 190) :
    f_pyramid [iD l, .tup (ts.map St.D), .int m] s = .exc longE s := by
  have g1 : RngOk (m : Int) := RngOk.small (by omega) (by omega)
  have key : forGo (.n 5) (sSeq (sAsg false (.t [(.n 3), (.n 6)]) (mCB f_apart (mCons (mVar 3) (mCons (mVar 1) mNil)))) (sApp false 4 (mVar 6))) (rngD 0 (m : Int)) [.val (iD l), .val (.tup (ts.map St.D)), .val (.int m), .val (iD l), .own [], .no, .no] s = .exc longE s := by
    refine for_exc (K := K) (fun k env => ∃ x5 x6, env = [.val (iD l), .val (.tup (ts.map St.D)), .val (.int m), .val (iD (lo ts l k)), .own ((List.range k).map fun k => iD (hi ts l k)), x5, x6]) ?_ ?_ ?_ _ ?_
    · rintro k env d hk hd ⟨x5, x6, rfl⟩
      obtain ⟨f1, f2⟩ := lo_facts (c := 1) ht hb k (K - k) (by rw [hl, Nat.mul_one]; congr 1; omega)
      have e : K - k = (K - k - 1) + 1 := by omega
      have f3 : (lo ts l k).length = 2 * (2 ^ (K - k - 1)) := by rw [f1, e, Nat.pow_succ]; simp; grind
      have hpos : 1 ≤ 2 ^ (K - k - 1) := Nat.pow_pos (by decide)
      have hle : 2 ^ (K - k) ≤ 2 ^ 4 := Nat.pow_le_pow_right (by decide) (by omega)
      have h16 : (2 : Nat) ^ 4 = 16 := by decide
      have hg : grow ts.length (grow (k * ts.length) M) < 2 ^ 190 := by
        rw [← grow_add]
        have e2 : K * ts.length = k * ts.length + ts.length + (K - k - 1) * ts.length := by
          have : K = k + 1 + (K - k - 1) := by omega
          conv => lhs; rw [this]
          rw [Nat.add_mul, Nat.add_mul, Nat.one_mul]
        rw [e2, grow_add] at hM
        exact Nat.lt_of_le_of_lt (grow_le _ _) hM
      have r := f_apart_ok f3 hpos (by rw [f1] at f3; omega) ht f2 hg s
      have gL : LenOk (k + 1) := LenOk.small (by omega)
      refine ⟨[(5, d)], [.val (iD l), .val (.tup (ts.map St.D)), .val (.int m), .val (iD (lo ts l (k + 1))), .own ((List.range (k + 1)).map fun k => iD (hi ts l k)), .val d, .val (iD (hi ts l k))], rfl, ?_, _, _, rfl⟩
      rw [List.range_succ, List.map_append]
      simp [setSl, r, gL, -List.map_map]
      exact ⟨rfl, rfl⟩
    · rintro env d hd ⟨x5, x6, rfl⟩
      obtain ⟨f1, f2⟩ := lo_facts (c := 1) ht hb K 0 (by rw [hl, Nat.mul_one]; congr 1)
      have f3 : (lo ts l K).length = 1 := by rw [f1]
      obtain ⟨x, hx⟩ := List.length_eq_one_iff.mp f3
      have r : f_apart [iD [x], .tup (ts.map St.D)] s = .exc longE s := apart_one x _
      refine ⟨[(5, d)], rfl, ?_⟩
      simp [setSl, hx, r, -List.map_map]
    · rw [len_rngD]; exact hm
    · exact ⟨.no, .no, by simp [lo]⟩
  simp only [f_pyramid, m_pyramid]
  generalize (sSeq (sAsg false (.t [(.n 3), (.n 6)]) (mCB f_apart (mCons (mVar 3) (mCons (mVar 1) mNil)))) (sApp false 4 (mVar 6))) = bd at *
  simp [g1, sFor, bind_assoc', key, -List.map_map]
noncomputable abbrev pTab : Tab := [("pyramid", f_pyramid)]
theorem tab_pyr : Tab.get pTab "pyramid" = some f_pyramid := by rw [Tab.get_cons, if_pos rfl]
theorem word3 {x : Str} {fm : List D → M D} {a b : D} {i : Int} {s : DS} {w : Str} (ht : Tab.get pTab x = some fm) (h : fm [a, b, .int i] s = .exc ⟨0, [.str w]⟩ s) : f__law_word [.fn x, a, b, .int i] s = .ok (.str w) s := by
  simp [f__law_word, m__law_word, ht, h, -Tab.get_cons]
theorem so_long : PyData.strOk (PySem.Str.ofString "long") = true := by decide +kernel
theorem law_pyramids_ok (h3 : ts.length ≤ 3) (ht : ∀ t ∈ ts, t.ok) (hs : StateOk s) : ∃ s', f__law_pyramids [.st, .tup (ts.map St.D)] s = .ok (.bl true) s' ∧ StateOk s' := by
  obtain ⟨r, s1, e1, hs1, a1, a2⟩ := fTake_ok hs 3 (TakeOk.small (by omega))
  obtain ⟨c, s2, e2, hs2, b1, b2⟩ := fTake_ok hs1 2 (TakeOk.small (by omega))
  obtain ⟨m, hm⟩ : ∃ m : Nat, 1 + r = m := ⟨(1 + r).toNat, by omega⟩
  obtain ⟨d, hd⟩ : ∃ d : Nat, 1 + c = d := ⟨(1 + c).toNat, by omega⟩
  have hm2 : 1 ≤ m ∧ m ≤ 3 := by omega
  have hd2 : d = 1 ∨ d = 2 := by omega
  have hle : 2 ^ m * d ≤ 8 * 2 := Nat.mul_le_mul (Nat.pow_le_pow_right (by decide) hm2.2 : 2 ^ m ≤ 2 ^ 3) (by omega)
  have hpw : (1 : Int) * 2 ^ ((m : Int)).toNat * (d : Int) = ((2 ^ m * d : Nat) : Int) := by
    rw [Int.toNat_natCast, Int.one_mul, Int.natCast_mul, Int.natCast_pow]; rfl
  have g0 : RngOk ((2 ^ m * d : Nat) : Int) := RngOk.small (by omega) (by omega)
  have g1 : LenOk (2 ^ m * d) := LenOk.small (by omega)
  obtain ⟨l, s3, e3, hs3, ll, bl⟩ := draw_ints (f := lcF (.n 9) tsYes (mBin opSub (mCall f__law_take (mCons (mVar 0) (mCons (mC (.int 21)) mNil))) (mC (.int 10))) [some .st, some (.tup (ts.map St.D)), some (.int m), none, none, none, none, none, none, none]) 10 20 (fun d s hs => by
    obtain ⟨r, s', e, h, z1, z2⟩ := fTake_ok hs 21 (TakeOk.small (by omega))
    exact ⟨r, s', by simp [f__law_take, e], h, z1, by omega⟩) (by omega) (rngD 0 ((2 ^ m * d : Nat) : Int)) s2 hs2
  rw [len_rngD] at ll
  have hM : ∀ k, k ≤ 4 → grow (k * ts.length) 10 < 2 ^ 190 := fun k hk => grow_big (Nat.le_trans (Nat.mul_le_mul hk h3) (by omega)) (by omega)
  have r1 := f_pyramid_ok ll (by omega) (by omega) ht bl (hM m (by omega)) s3
  have r2 := f_back_ok ll (by omega) (by omega) ht bl (hM (m + 1) (by omega)) s3
  have r3 : f_pyramid [iD l, .tup (ts.map St.D), .int ((m + 4 : Nat) : Int)] s3 = .exc longE s3 := by
    rcases hd2 with rfl | rfl
    · exact f_pyramid_long (K := m) (by rw [ll, Nat.mul_one]) (by omega) (by omega) (by omega) ht bl (hM m (by omega))
    · exact f_pyramid_long (K := m + 1) (by rw [ll, Nat.pow_succ]) (by omega) (by omega) (by omega) ht bl (hM (m + 1) (by omega))
  have r4 := word3 (x := "pyramid") tab_pyr r3
  have em : (m : Int) + 4 = ((m + 4 : Nat) : Int) := by omega
  rw [← em] at r4
  refine ⟨s3, ?_, hs3⟩
  apply runDef_rt
  unfold m__law_pyramids
  have e0 : startE 10 [.st, .tup (ts.map St.D)] = [.val .st, .val (.tup (ts.map St.D)), .no, .no, .no, .no, .no, .no, .no, .no] := rfl
  rw [e0]
  refine (sSeq_nx (env' := [.val .st, .val (.tup (ts.map St.D)), .val (.int m), .no, .no, .no, .no, .no, .no, .no]) (s' := s1) (by simp [f__law_take, e1, hm, -List.map_map])).trans ?_
  have gm : (0 : Int) ≤ (m : Int) ∧ (m : Int) ≤ 1000000 := by omega
  have mo : mulOk (1 * 2 ^ ((m : Int)).toNat) (d : Int) = true := by
    haveI : Iz (1 * 2 ^ ((m : Int)).toNat : Int) 10 := ⟨by
      rw [Int.toNat_natCast, Int.one_mul, Int.natAbs_pow]
      exact Nat.lt_of_le_of_lt (Nat.pow_le_pow_right (by decide) hm2.2) (by decide)⟩
    haveI : Iz (d : Int) 10 := ⟨by omega⟩
    exact mulOk_iz (i := (1 * 2 ^ ((m : Int)).toNat : Int)) (j := (d : Int)) (by omega)
  refine (sSeq_nx (env' := [.val .st, .val (.tup (ts.map St.D)), .val (.int m), .val (iD l), .no, .no, .no, .no, .no, .no]) (s' := s3) ?_).trans ?_
  · have e2' : f__law_take [.st, .int 2] s1 = .ok (.int c) s2 := e2
    simp [e2', hd, gm, mo, -lcF, -List.map_map, -Int.toNat_natCast, -Int.one_mul]
    simp only [hpw, bind_ok]
    simp [g0, g1, len_rngD, e3, -lcF, -List.map_map, -Int.natCast_mul]
  have gl : LenOk l.length := LenOk.small (by omega)
  refine (sSeq_nx (env' := [.val .st, .val (.tup (ts.map St.D)), .val (.int m), .val (iD l), .val (iD l), .own [], .no, .no, .no, .no]) (s' := s3) (by simp [gl, -List.map_map])).trans ?_
  have gR : RngOk (m : Int) := RngOk.small (by omega) (by omega)
  simp only [sSeq, sFor]
  simp [gR, bind_assoc', -List.map_map]
  refine for_cR (n := m) (fun k env => ∃ x6 x7, env = [.val .st, .val (.tup (ts.map St.D)), .val (.int m), .val (iD l), .val (iD (lo ts l k)), .own ((List.range k).map fun k => iD (hi ts l k)), x6, x7, .no, .no]) ?_ ?_ ?_
  · exact ⟨.no, .no, by simp [lo]⟩
  · rintro k env hk ⟨x6, x7, rfl⟩ g Y fin
    obtain ⟨f1, f2⟩ := lo_facts ht bl k (m - k) (by rw [ll]; congr 2; omega)
    have e : m - k = (m - k - 1) + 1 := by omega
    have f3 : (lo ts l k).length = 2 * (2 ^ (m - k - 1) * d) := by rw [f1, e, Nat.pow_succ]; simp; grind
    have hpos : 1 ≤ 2 ^ (m - k - 1) * d := Nat.mul_pos (Nat.pow_pos (by decide)) (by omega)
    have hle2 : 2 ^ (m - k) * d ≤ 2 ^ m * d := Nat.mul_le_mul_right _ (Nat.pow_le_pow_right (by decide) (by omega))
    have hg : grow ts.length (grow (k * ts.length) 10) < 2 ^ 190 := by
      rw [← grow_add]
      have e2 : k * ts.length + ts.length = (k + 1) * ts.length := by rw [Nat.add_mul, Nat.one_mul]
      rw [e2]
      exact hM (k + 1) (by omega)
    have r := f__law_apart_ok (sg := 1) (.inl rfl) f3 hpos (by rw [f1] at f3; omega) ht f2 hg s3
    have gL : LenOk (k + 1) := LenOk.small (by omega)
    simp [r, gL, -List.map_map]
    exact fin _ ⟨.val (.int k), .val (pD (aprt ts 1 (evs (lo ts l k), ods (lo ts l k)))), by rw [List.range_succ, List.map_append]; rfl⟩
  · rintro env ⟨x6, x7, rfl⟩
    have dq : ∀ u : List Int, deqs (u.map D.int) (u.map D.int) = true := fun u => by rw [deqs_ints]; simp
    have dq2 : ∀ us : List (List Int), deqs (us.map iD) (us.map iD) = true := fun us => by
      induction us with
      | nil => simp
      | cons u us ih => simp [dq, ih]
    have ok2 : ∀ us : List (List Int), okDs 58 (us.map iD) = true := fun us => by
      induction us with
      | nil => simp
      | cons u us ih => have := okDs_ints 56 u; simp [this, ih]
    have eh : (List.range m).map (fun k => iD (hi ts l k)) = ((List.range m).map fun k => hi ts l k).map iD := by rw [List.map_map]; rfl
    rw [eh] at r1 r2 ⊢
    simp [r1, r2, r4, dq, dq2, ok2, oi58, oi59, so_long, -List.map_map]
end
end L2.Mir.W

set_option Elab.async false
set_option linter.all false
set_option maxRecDepth 100000
set_option maxHeartbeats 1000000
namespace L2.Mir.W
open PySem PySem.Spec PyProof.Rows
/-! ### the told steps -/
theorem flo_1 {q : Rat} {a : Int} (h : q = a + 1 / 2) : flo q = a := by
  obtain ⟨h1, h2⟩ := flo_bounds q
  rw [h] at h1 h2
  rw [h]
  generalize flo (↑a + 1 / 2) = f at *
  have k1 : (f : Rat) < ((a + 1 : Int) : Rat) := by rw [Rat.intCast_add]; have : ((1 : Int) : Rat) = 1 := rfl; rw [this]; grind
  have k2 : (a : Rat) < ((f + 1 : Int) : Rat) := by rw [Rat.intCast_add]; have : ((1 : Int) : Rat) = 1 := rfl; rw [this]; grind
  have k1 : f < a + 1 := by exact_mod_cast k1
  have k2 : a < f + 1 := by exact_mod_cast k2
  omega
theorem flo_2 {q : Rat} {a : Int} (h : q * 2 = a) : flo q = a / 2 := by
  obtain ⟨h1, h2⟩ := flo_bounds q
  generalize flo q = f at *
  have k1 : ((f * 2 : Int) : Rat) ≤ (a : Rat) := by rw [Rat.intCast_mul]; have : ((2 : Int) : Rat) = 2 := rfl; rw [this, ← h]; grind
  have k2 : (a : Rat) < (((f + 1) * 2 : Int) : Rat) := by rw [Rat.intCast_mul, Rat.intCast_add]; have : ((2 : Int) : Rat) = 2 := rfl; have t : ((1 : Int) : Rat) = 1 := rfl; rw [this, t, ← h]; grind
  have k1 : f * 2 ≤ a := by exact_mod_cast k1
  have k2 : a < (f + 1) * 2 := by exact_mod_cast k2
  omega
theorem flo_4 {q : Rat} {a : Int} (h : q * 4 = a) : flo q = a / 4 := by
  obtain ⟨h1, h2⟩ := flo_bounds q
  generalize flo q = f at *
  have k1 : ((f * 4 : Int) : Rat) ≤ (a : Rat) := by rw [Rat.intCast_mul]; have : ((4 : Int) : Rat) = 4 := rfl; rw [this, ← h]; grind
  have k2 : (a : Rat) < (((f + 1) * 4 : Int) : Rat) := by rw [Rat.intCast_mul, Rat.intCast_add]; have : ((4 : Int) : Rat) = 4 := rfl; have t : ((1 : Int) : Rat) = 1 := rfl; rw [this, t, ← h]; grind
  have k1 : f * 4 ≤ a := by exact_mod_cast k1
  have k2 : a < (f + 1) * 4 := by exact_mod_cast k2
  omega
theorem tb_one (f : Int) (p : Rat) (row : List Int) (z : Int) : tb f [p] row z = flo (1 / 2 + p * (ix row (z + f) : Rat)) := by
  unfold tb
  congr 1
  show tsum f [p] row z 1 = _
  rw [tsum_succ, tsum_zero]
  have : z + f + ((0 : Nat) : Int) = z + f := by omega
  rw [this]
  rfl
theorem tb_two (f : Int) (p q : Rat) (row : List Int) (z : Int) : tb f [p, q] row z = flo (1 / 2 + p * (ix row (z + f) : Rat) + q * (ix row (z + f + 1) : Rat)) := by
  unfold tb
  congr 1
  show tsum f [p, q] row z 2 = _
  rw [tsum_succ, tsum_succ, tsum_zero]
  have : z + f + ((0 : Nat) : Int) = z + f := by omega
  rw [this]
  rfl
def tMG : List St := [⟨1, 0, [-1]⟩, ⟨0, 0, [1 / 2]⟩]
def tNM : List St := [⟨1, 0, [-1 / 2, -1 / 2]⟩, ⟨0, -1, [1 / 4, 1 / 4]⟩]
def pbB (ps : List Rat) : Bool := decide (ps.length ≤ 3) && ps.all fun p => decide (absR p ≤ 2) && decide (p.num.natAbs < 2 ^ 3) && decide (p.den < 2 ^ 3)
theorem pb_of {ps : List Rat} (h : pbB ps = true) : Pb ps := by
  unfold pbB at h
  rw [Bool.and_eq_true, decide_eq_true_eq, List.all_eq_true] at h
  obtain ⟨h1, h2⟩ := h
  refine ⟨h1, fun p hp => ?_, ⟨fun p hp => ?_⟩⟩
  · have := h2 p hp
    simp only [Bool.and_eq_true, decide_eq_true_eq] at this
    exact this.1.1
  · have := h2 p hp
    simp only [Bool.and_eq_true, decide_eq_true_eq] at this
    exact ⟨this.1.2, this.2⟩
theorem tMG_ok : ∀ t ∈ tMG, t.ok := by
  intro t ht
  simp only [tMG, List.mem_cons, List.not_mem_nil, or_false] at ht
  rcases ht with rfl | rfl
  · exact ⟨.inr rfl, pb_of (by decide +kernel)⟩
  · exact ⟨.inl rfl, pb_of (by decide +kernel)⟩
theorem tNM_ok : ∀ t ∈ tNM, t.ok := by
  intro t ht
  simp only [tNM, List.mem_cons, List.not_mem_nil, or_false] at ht
  rcases ht with rfl | rfl
  · exact ⟨.inr rfl, pb_of (by decide +kernel)⟩
  · exact ⟨.inl rfl, pb_of (by decide +kernel)⟩
theorem f_means_ok (s : DS) : f_means_and_gaps [] s = .ok (.tup (tMG.map St.D)) s := by
  have e1 : (-1 : Rat).num = -1 ∧ (-1 : Rat).den = 1 ∧ (1 / 2 : Rat).num = 1 ∧ (1 / 2 : Rat).den = 2 := by decide +kernel
  obtain ⟨a, b, c, d⟩ := e1
  simp only [tMG, List.map_cons, List.map_nil, St.D, stD, qD, a, b, c, d]
  simp [f_means_and_gaps, m_means_and_gaps]
theorem f_near_ok (s : DS) : f_near_means [] s = .ok (.tup (tNM.map St.D)) s := by
  have e1 : (-1 / 2 : Rat).num = -1 ∧ (-1 / 2 : Rat).den = 2 ∧ (1 / 4 : Rat).num = 1 ∧ (1 / 4 : Rat).den = 4 := by decide +kernel
  obtain ⟨a, b, c, d⟩ := e1
  simp only [tNM, List.map_cons, List.map_nil, St.D, stD, qD, a, b, c, d]
  simp [f_near_means, m_near_means]
theorem ig_evs {l : List Int} {k : Nat} (h : k < l.length / 2) : ig (evs l) k = ig l (2 * k) := by
  unfold evs
  conv => lhs; unfold ig
  simp [List.getD, h]
  rfl
theorem ig_ods {l : List Int} {k : Nat} (h : k < l.length / 2) : ig (ods l) k = ig l (2 * k + 1) := by
  unfold ods
  conv => lhs; unfold ig
  simp [List.getD, h]
  rfl
theorem ix_nat {l : List Int} {z : Int} {k : Nat} (h : z % (l.length : Int) = k) : ix l z = ig l k := by
  unfold ix; rw [h]; rfl
theorem mg_facts {l : List Int} (hl : l.length = 8) : ∃ m g : List Int, aprt tMG 1 (evs l, ods l) = (m, g) ∧ m.length = 4 ∧ g.length = 4 ∧ ∀ k, k < 4 → ig g k = ig l (2 * k + 1) - ig l (2 * k) ∧ ig m k = (ig l (2 * k) + ig l (2 * k + 1) + 1) / 2 := by
  have l1 : (evs l).length = 4 := by simp [evs, hl]
  have l2 : (ods l).length = 4 := by simp [ods, hl]
  refine ⟨bump 0 [1 / 2] 1 (evs l) (bump 0 [-1] 1 (ods l) (evs l)), bump 0 [-1] 1 (ods l) (evs l), rfl, by simp [l1], by simp [l2], ?_⟩
  have hg : ∀ k, k < 4 → ig (bump 0 [-1] 1 (ods l) (evs l)) k = ig l (2 * k + 1) - ig l (2 * k) := fun k hk => by
    rw [ig_bump (by omega), tb_one, ig_ods (by omega), ix_nat (k := k) (by rw [l1]; omega), ig_evs (by omega), flo_1 (a := -ig l (2 * k)) (by rw [Rat.intCast_neg]; grind)]
    omega
  intro k hk
  refine ⟨hg k hk, ?_⟩
  rw [ig_bump (by omega), tb_one, ig_evs (by omega), ix_nat (k := k) (by rw [bump_len, l2]; omega), hg k hk, flo_2 (a := ig l (2 * k + 1) - ig l (2 * k) + 1) (by rw [Rat.intCast_add, Rat.intCast_sub]; have : ((1 : Int) : Rat) = 1 := rfl; rw [this]; grind)]
  omega
theorem nm_facts {l : List Int} (hl : l.length = 8) : ∃ m g : List Int, aprt tNM 1 (evs l, ods l) = (m, g) ∧ m.length = 4 ∧ g.length = 4 ∧ ∀ k, k < 4 → ig g k = (2 * ig l (2 * k + 1) - ig l (2 * k) - ig l ((2 * k + 2) % 8) + 1) / 2 ∧ ig m k = ig l (2 * k) + (ig g ((k + 3) % 4) + ig g k + 2) / 4 := by
  have l1 : (evs l).length = 4 := by simp [evs, hl]
  have l2 : (ods l).length = 4 := by simp [ods, hl]
  refine ⟨bump (-1) [1 / 4, 1 / 4] 1 (evs l) (bump 0 [-1 / 2, -1 / 2] 1 (ods l) (evs l)), bump 0 [-1 / 2, -1 / 2] 1 (ods l) (evs l), rfl, by simp [l1], by simp [l2], ?_⟩
  intro k hk
  constructor
  · have e8 : (2 * k + 2) % 8 = 2 * ((k + 1) % 4) := by omega
    rw [e8, ig_bump (by omega), tb_two, ig_ods (by omega), ix_nat (k := k) (by rw [l1]; omega), ix_nat (k := (k + 1) % 4) (by rw [l1]; omega), ig_evs (by omega), ig_evs (by omega),
      flo_2 (a := 1 - ig l (2 * k) - ig l (2 * ((k + 1) % 4))) (by rw [Rat.intCast_sub, Rat.intCast_sub]; have : ((1 : Int) : Rat) = 1 := rfl; rw [this]; grind)]
    omega
  · generalize hb : bump 0 [-1 / 2, -1 / 2] 1 (ods l) (evs l) = g
    have lg : g.length = 4 := by rw [← hb]; simp [l2]
    rw [ig_bump (by omega), tb_two, ig_evs (by omega), ix_nat (k := (k + 3) % 4) (by rw [lg]; omega), ix_nat (k := k) (by rw [lg]; omega),
      flo_4 (a := 2 + ig g ((k + 3) % 4) + ig g k) (by rw [Rat.intCast_add, Rat.intCast_add]; have : ((2 : Int) : Rat) = 2 := rfl; rw [this]; grind)]
    omega
end L2.Mir.W

set_option Elab.async false
set_option linter.all false
set_option maxRecDepth 100000
set_option maxHeartbeats 1000000
namespace L2.Mir.W
open PySem PySem.Spec PyProof.Rows
/-! ### zigzag, cost -/
def uz (n : Int) : Int := if n % 2 = 0 then n / 2 else 0 - (n + 1) / 2
theorem f_unzigzag_ok (n : Int) (s : DS) : f_unzigzag [.int n] s = .ok (.int (uz n)) s := by
  by_cases c : n % 2 = 0
  · simp [f_unzigzag, m_unzigzag, uz, c]
  · simp [f_unzigzag, m_unzigzag, uz, c]
/-- halvings until nought -/
def hv (n : Nat) : Nat := if h : n = 0 then 0 else 1 + hv (n / 2)
theorem hv_zero : hv 0 = 0 := by unfold hv; rfl
theorem hv_pos {n : Nat} (h : 0 < n) : hv n = 1 + hv (n / 2) := by conv => lhs; unfold hv; rw [dif_neg (by omega)]
/-- digits -/
def dgt (z : Int) : Int := 1 + (hv ((zz z).toNat / 2) : Int)
def sI (f : Int → Int) (l : List Int) : Nat → Int
  | 0 => 0
  | k + 1 => sI f l k + f (ig l k)
theorem zz_nn (z : Int) : 0 ≤ zz z := by unfold zz; split <;> omega
theorem zz_lt {z : Int} (h : z.natAbs ≤ 15) : zz z < 32 := by unfold zz; split <;> omega
section
variable {l : List Int} {s : DS}
theorem f_cost_ok (hb : Bd l 15) : f_cost [iD l] s = .ok (.int (sI dgt l l.length)) s := by
  simp [f_cost, m_cost, sFor, bind_assoc', -List.map_map]
  refine for_cD (fun k env => ∃ x2 x3 x4, env = [.val (iD l), .val (.int (sI dgt l k)), x2, x3, x4]) ?_ ?_ ?_
  · exact ⟨.no, .no, .no, rfl⟩
  · rintro k env d hd ⟨x2, x3, x4, rfl⟩
    rw [List.getElem?_map] at hd
    cases h : l[k]? with
    | none => rw [h] at hd; cases hd
    | some z =>
      rw [h] at hd
      cases hd
      have ez : ig l k = z := by simp [ig, List.getD, h]
      have hz := hb z (List.mem_of_getElem? h)
      haveI : Iz z 4 := ⟨by omega⟩
      have t := f_zigzag_ok (z := z) (k := 4) (by omega) s
      have n0 := zz_nn z
      have n1 := zz_lt hz
      obtain ⟨n, hn⟩ : ∃ n : Nat, zz z = n := ⟨(zz z).toNat, by omega⟩
      refine ⟨[(2, .int z)], rfl, fun g Y fin => ?_⟩
      have hdiv : zz z / 2 = ((n / 2 : Nat) : Int) := by omega
      simp [setSl, t, hdiv, sWhile, bind_assoc', -List.map_map, -Int.natCast_ediv]
      refine while_c (m := n / 2) (fun q env => env = [.val (iD l), .val (.int (sI dgt l k)), .val (.int z), .val (.int (q : Nat)), .val (.int (1 + ((hv (n / 2) - hv q : Nat) : Int)))] ∧ hv q ≤ hv (n / 2)) (fun env => env = [.val (iD l), .val (.int (sI dgt l k)), .val (.int z), .val (.int 0), .val (.int (dgt z))]) ?_ ?_ ?_ ?_
      · refine ⟨?_, Nat.le_refl _⟩
        simp
      · unfold measE
        simp [dMeas]
        omega
      · rintro q env ⟨rfl, hq⟩
        by_cases c : q = 0
        · subst c
          refine .inl ⟨by simp, ?_⟩
          have : dgt z = 1 + ((hv (n / 2) - hv 0 : Nat) : Int) := by unfold dgt; rw [hn, hv_zero]; simp
          rw [this]; rfl
        · have hp : 0 < q := by omega
          have hh := hv_pos hp
          refine .inr ⟨by simp [hp], q / 2, by omega, fun g Y fin => ?_⟩
          have e1 : (q : Int) / 2 = ((q / 2 : Nat) : Int) := by omega
          simp [e1, -Int.natCast_ediv]
          refine fin _ ⟨?_, by omega⟩
          have e2 : (1 : Int) + ((hv (n / 2) - hv q : Nat) : Int) + 1 = 1 + ((hv (n / 2) - hv (q / 2) : Nat) : Int) := by omega
          rw [← e2]
      · rintro env rfl
        simp [-List.map_map]
        exact fin _ ⟨_, _, _, by rw [← ez]; rfl⟩
  · rintro env ⟨x2, x3, x4, rfl⟩
    rw [List.length_map]
    simp
end
end L2.Mir.W

set_option Elab.async false
set_option linter.all false
set_option maxRecDepth 100000
set_option maxHeartbeats 1000000
namespace L2.Mir.W
open PySem PySem.Spec PyProof.Rows
section
variable {l m g p q : List Int} {s : DS}
theorem mo2 {k : Nat} (h : k < 100) : mulOk 2 (k : Int) = true := by
  haveI : Iz (k : Int) 10 := ⟨by omega⟩
  exact mulOk_iz (i := (2 : Int)) (j := (k : Int)) (by omega)
theorem kn3 {x4 x5 x6 x7 x8 x9 x10 x11 x12 x13 : Sl} (hl : l.length = 8) (lm : m.length = 4) (lg : g.length = 4) (hf : ∀ k, k < 4 → ig g k = ig l (2 * k + 1) - ig l (2 * k) ∧ ig m k = (ig l (2 * k) + ig l (2 * k + 1) + 1) / 2) :
    ∃ y4 y5 y6, q__law_known_3 [.val .st, .val (iD l), .val (iD m), .val (iD g), x4, x5, x6, x7, x8, x9, x10, x11, x12, x13] s = .ok (.nx [.val .st, .val (iD l), .val (iD m), .val (iD g), y4, y5, y6, x7, x8, x9, x10, x11, x12, x13]) s := by
  have g1 : RngOk 4 := RngOk.small (by omega) (by omega)
  have := cps_ex (Bd := q__law_known_3) (env := [.val .st, .val (iD l), .val (iD m), .val (iD g), x4, x5, x6, x7, x8, x9, x10, x11, x12, x13]) (s := s) (P := fun env => ∃ y4 y5 y6, env = [.val .st, .val (iD l), .val (iD m), .val (iD g), y4, y5, y6, x7, x8, x9, x10, x11, x12, x13]) (fun gg Y fin => by
    simp [q__law_known_3, sFor, bind_assoc', g1, -List.map_map]
    refine for_cR (n := 4) (fun k env => ∃ y4 y5 y6, env = [.val .st, .val (iD l), .val (iD m), .val (iD g), y4, y5, y6, x7, x8, x9, x10, x11, x12, x13]) ?_ ?_ fin
    · exact ⟨x4, x5, x6, rfl⟩
    · rintro k env hk ⟨y4, y5, y6, rfl⟩ gg Y fin
      have e1 := atI_int (l := l) (k := 2 * k) (by omega)
      have e2 := atI_int (l := l) (k := 2 * k + 1) (by omega)
      have e3 := atI_int (l := m) (k := k) (by omega)
      have e4 := atI_int (l := g) (k := k) (by omega)
      obtain ⟨h1, h2⟩ := hf k hk
      rw [h1] at e4
      rw [h2] at e3
      have c1 : ((2 * k : Nat) : Int) = 2 * (k : Int) := by omega
      have c2 : ((2 * k + 1 : Nat) : Int) = 2 * (k : Int) + 1 := by omega
      rw [c1] at e1
      rw [c2] at e2
      have m2 := mo2 (k := k) (by omega)
      simp [e1, e2, e3, e4, m2, -List.map_map]
      exact fin _ ⟨_, _, _, rfl⟩)
  obtain ⟨env', e, y4, y5, y6, rfl⟩ := this
  exact ⟨y4, y5, y6, e⟩
theorem kn5 {x4 x5 x6 x8 x9 x10 x11 x12 x13 : Sl} (hl : l.length = 8) (lp : p.length = 4) (lq : q.length = 4) (hf : ∀ k, k < 4 → ig q k = (2 * ig l (2 * k + 1) - ig l (2 * k) - ig l ((2 * k + 2) % 8) + 1) / 2) (hb : Bd l 15) :
    ∃ y4 y8, q__law_known_5 [.val .st, .val (iD l), .val (iD m), .val (iD g), x4, x5, x6, .val (pD (p, q)), x8, x9, x10, x11, x12, x13] s = .ok (.nx [.val .st, .val (iD l), .val (iD m), .val (iD g), y4, x5, x6, .val (pD (p, q)), y8, x9, x10, x11, x12, x13]) s := by
  have g1 : RngOk 4 := RngOk.small (by omega) (by omega)
  have := cps_ex (Bd := q__law_known_5) (env := [.val .st, .val (iD l), .val (iD m), .val (iD g), x4, x5, x6, .val (pD (p, q)), x8, x9, x10, x11, x12, x13]) (s := s) (P := fun env => ∃ y4 y8, env = [.val .st, .val (iD l), .val (iD m), .val (iD g), y4, x5, x6, .val (pD (p, q)), y8, x9, x10, x11, x12, x13]) (fun gg Y fin => by
    simp [q__law_known_5, sFor, bind_assoc', g1, -List.map_map]
    refine for_cR (n := 4) (fun k env => ∃ y4 y8, env = [.val .st, .val (iD l), .val (iD m), .val (iD g), y4, x5, x6, .val (pD (p, q)), y8, x9, x10, x11, x12, x13]) ?_ ?_ fin
    · exact ⟨x4, x8, rfl⟩
    · rintro k env hk ⟨y4, y8, rfl⟩ gg Y fin
      have e1 := atI_int (l := l) (k := 2 * k) (by omega)
      have e2 := atI_int (l := l) (k := 2 * k + 1) (by omega)
      have e3 := atI_int (l := l) (k := (2 * k + 2) % 8) (by omega)
      have e4 := atI_int (l := q) (k := k) (by omega)
      rw [hf k hk] at e4
      have c1 : ((2 * k : Nat) : Int) = 2 * (k : Int) := by omega
      have c2 : ((2 * k + 1 : Nat) : Int) = 2 * (k : Int) + 1 := by omega
      have c3 : (((2 * k + 2) % 8 : Nat) : Int) = (2 * (k : Int) + 2) % 8 := by omega
      rw [c1] at e1
      rw [c2] at e2
      rw [c3] at e3
      have m2 := mo2 (k := k) (by omega)
      haveI : Iz (ig l (2 * k + 1)) 5 := ⟨by have := hb.ig (2 * k + 1); omega⟩
      have m3 := mulOk_iz (i := (2 : Int)) (j := ig l (2 * k + 1)) (by omega)
      simp [e1, e2, e3, e4, m2, m3, -List.map_map]
      exact fin _ ⟨_, _, rfl⟩)
  obtain ⟨env', e, y4, y8, rfl⟩ := this
  exact ⟨y4, y8, e⟩
theorem kn6 {x4 x5 x6 x8 x9 x10 x11 x12 x13 : Sl} (hl : l.length = 8) (lp : p.length = 4) (lq : q.length = 4) (hf : ∀ k, k < 4 → ig p k = ig l (2 * k) + (ig q ((k + 3) % 4) + ig q k + 2) / 4) :
    ∃ y4, q__law_known_6 [.val .st, .val (iD l), .val (iD m), .val (iD g), x4, x5, x6, .val (pD (p, q)), x8, x9, x10, x11, x12, x13] s = .ok (.nx [.val .st, .val (iD l), .val (iD m), .val (iD g), y4, x5, x6, .val (pD (p, q)), x8, x9, x10, x11, x12, x13]) s := by
  have g1 : RngOk 4 := RngOk.small (by omega) (by omega)
  have := cps_ex (Bd := q__law_known_6) (env := [.val .st, .val (iD l), .val (iD m), .val (iD g), x4, x5, x6, .val (pD (p, q)), x8, x9, x10, x11, x12, x13]) (s := s) (P := fun env => ∃ y4, env = [.val .st, .val (iD l), .val (iD m), .val (iD g), y4, x5, x6, .val (pD (p, q)), x8, x9, x10, x11, x12, x13]) (fun gg Y fin => by
    simp [q__law_known_6, sFor, bind_assoc', g1, -List.map_map]
    refine for_cR (n := 4) (fun k env => ∃ y4, env = [.val .st, .val (iD l), .val (iD m), .val (iD g), y4, x5, x6, .val (pD (p, q)), x8, x9, x10, x11, x12, x13]) ?_ ?_ fin
    · exact ⟨x4, rfl⟩
    · rintro k env hk ⟨y4, rfl⟩ gg Y fin
      have e1 := atI_int (l := l) (k := 2 * k) (by omega)
      have e2 := atI_int (l := q) (k := (k + 3) % 4) (by omega)
      have e3 := atI_int (l := q) (k := k) (by omega)
      have e4 := atI_int (l := p) (k := k) (by omega)
      rw [hf k hk] at e4
      have c1 : ((2 * k : Nat) : Int) = 2 * (k : Int) := by omega
      have c3 : (((k + 3) % 4 : Nat) : Int) = ((k : Int) - 1) % 4 := by omega
      rw [c1] at e1
      rw [c3] at e2
      have m2 := mo2 (k := k) (by omega)
      simp [e1, e2, e3, e4, m2, -List.map_map]
      exact fin _ ⟨_, rfl⟩)
  obtain ⟨env', e, y4, rfl⟩ := this
  exact ⟨y4, e⟩
theorem kn10 {x2 x3 x4 x5 x6 x7 x8 x9 x11 x12 x13 : Sl} (hb : Bd l 15) :
    ∃ y11 y12 y13, q__law_known_10 [.val .st, .val (iD l), x2, x3, x4, x5, x6, x7, x8, x9, .val (.int 0), x11, x12, x13] s = .ok (.nx [.val .st, .val (iD l), x2, x3, x4, x5, x6, x7, x8, x9, .val (.int (sI dgt l l.length)), y11, y12, y13]) s := by
  have := cps_ex (Bd := q__law_known_10) (env := [.val .st, .val (iD l), x2, x3, x4, x5, x6, x7, x8, x9, .val (.int 0), x11, x12, x13]) (s := s) (P := fun env => ∃ y11 y12 y13, env = [.val .st, .val (iD l), x2, x3, x4, x5, x6, x7, x8, x9, .val (.int (sI dgt l l.length)), y11, y12, y13]) (fun gg Y fin => by
    simp [q__law_known_10, sFor, bind_assoc', -List.map_map]
    refine for_cD (fun k env => ∃ y11 y12 y13, env = [.val .st, .val (iD l), x2, x3, x4, x5, x6, x7, x8, x9, .val (.int (sI dgt l k)), y11, y12, y13]) ?_ ?_ ?_
    · exact ⟨x11, x12, x13, rfl⟩
    · rintro k env d hd ⟨y11, y12, y13, rfl⟩
      rw [List.getElem?_map] at hd
      cases h : l[k]? with
      | none => rw [h] at hd; cases hd
      | some z =>
        rw [h] at hd
        cases hd
        have ez : ig l k = z := by simp [ig, List.getD, h]
        have hz := hb z (List.mem_of_getElem? h)
        haveI : Iz z 4 := ⟨by omega⟩
        have t := f_zigzag_ok (z := z) (k := 4) (by omega) s
        have n0 := zz_nn z
        have n1 := zz_lt hz
        obtain ⟨n, hn⟩ : ∃ n : Nat, zz z = n := ⟨(zz z).toNat, by omega⟩
        rw [hn] at t
        refine ⟨[(11, .int z)], rfl, fun g Y fin => ?_⟩
        simp [setSl, t, sWhile, bind_assoc', -List.map_map, -Int.natCast_ediv]
        refine while_c (m := n) (fun q env => env = [.val .st, .val (iD l), x2, x3, x4, x5, x6, x7, x8, x9, .val (.int (sI dgt l k)), .val (.int z), .val (.int (q : Nat)), .val (.int (1 + ((hv (n / 2) - hv (q / 2) : Nat) : Int)))] ∧ hv (q / 2) ≤ hv (n / 2)) (fun env => ∃ y12, env = [.val .st, .val (iD l), x2, x3, x4, x5, x6, x7, x8, x9, .val (.int (sI dgt l k)), .val (.int z), y12, .val (.int (dgt z))]) ?_ ?_ ?_ ?_
        · refine ⟨?_, Nat.le_refl _⟩
          simp
        · unfold measE
          simp [dMeas]
          omega
        · rintro q env ⟨rfl, hq⟩
          by_cases c : q ≤ 1
          · have q0 : q / 2 = 0 := by omega
            rw [q0]
            have c2 : (q : Int) ≤ 1 := by omega
            refine .inl ⟨by simp [c2], .val (.int q), ?_⟩
            have : dgt z = 1 + ((hv (n / 2) - hv 0 : Nat) : Int) := by unfold dgt; rw [hn, hv_zero]; simp
            rw [this]
          · have hp : 1 < q := by omega
            have hh := hv_pos (n := q / 2) (by omega)
            have hp2 : (1 : Int) < (q : Int) := by omega
            refine .inr ⟨by simp [hp2], q / 2, by omega, fun g Y fin => ?_⟩
            have e1 : (q : Int) / 2 = ((q / 2 : Nat) : Int) := by omega
            simp [e1, -Int.natCast_ediv]
            refine fin _ ⟨?_, by omega⟩
            have e2 : (1 : Int) + ((hv (n / 2) - hv (q / 2) : Nat) : Int) + 1 = 1 + ((hv (n / 2) - hv (q / 2 / 2) : Nat) : Int) := by omega
            rw [← e2]
        · rintro env ⟨y12, rfl⟩
          simp [-List.map_map]
          exact fin _ ⟨_, _, _, by rw [← ez]; rfl⟩
    · rintro env h
      rw [List.length_map] at h
      exact fin env h)
  obtain ⟨env', e, y11, y12, y13, rfl⟩ := this
  exact ⟨y11, y12, y13, e⟩
def zL : List Int := [-9, -8, -7, -6, -5, -4, -3, -2, -1, 0, 1, 2, 3, 4, 5, 6, 7, 8, 9]
theorem zz_iz {z : Int} (h : z.natAbs < 2 ^ 5) : f_zigzag [.int z] s = .ok (.int (zz z)) s := by
  haveI : Iz z 5 := ⟨h⟩
  exact f_zigzag_ok (k := 5) (by omega) s
theorem law_known_ok (hs : StateOk s) : ∃ s', f__law_known [.st] s = .ok (.bl true) s' ∧ StateOk s' := by
  have g8 : RngOk 8 := RngOk.small (by omega) (by omega)
  have gl8 : LenOk 8 := LenOk.small (by omega)
  obtain ⟨l, s1, e1, hs1, ll, bl⟩ := draw_ints (f := lcF (.n 4) tsYes (mBin opSub (mCall f__law_take (mCons (mVar 0) (mCons (mC (.int 31)) mNil))) (mC (.int 15))) [some .st, none, none, none, none, none, none, none, none, none, none, none, none, none]) 15 30 (fun d s hs => by
    obtain ⟨r, s', e, h, z1, z2⟩ := fTake_ok hs 31 (TakeOk.small (by omega))
    exact ⟨r, s', by simp [f__law_take, e], h, z1, by omega⟩) (by omega) (rngD 0 8) s hs
  have e8 : (rngD 0 8).length = 8 := rfl
  rw [e8] at ll
  refine ⟨s1, ?_, hs1⟩
  obtain ⟨m, g, a1, lm, lg, fmg⟩ := mg_facts ll
  obtain ⟨p, q, a2, lp, lq, fpq⟩ := nm_facts ll
  have r1 := f_apart_ok (l := l) (n := 4) (M := 15) ll (by omega) (by omega) tMG_ok bl (grow_big (by decide) (by omega)) s1
  have r2 := f_apart_ok (l := l) (n := 4) (M := 15) ll (by omega) (by omega) tNM_ok bl (grow_big (by decide) (by omega)) s1
  rw [a1] at r1
  rw [a2] at r2
  have t1 := f_means_ok s1
  have t2 := f_near_ok s1
  have c1 := f_cost_ok bl (s := s1)
  have c2 := f_cost_ok (l := []) (s := s1) (by intro x hx; cases hx)
  apply runDef_rt
  unfold m__law_known
  have e0 : startE 14 [.st] = [.val .st, .no, .no, .no, .no, .no, .no, .no, .no, .no, .no, .no, .no, .no] := rfl
  rw [e0]
  refine (sSeq_nx (env' := [.val .st, .val (iD l), .no, .no, .no, .no, .no, .no, .no, .no, .no, .no, .no, .no]) (s' := s1) (by simp [q__law_known_1, g8, gl8, e8, e1, -lcF, -List.map_map])).trans ?_
  refine (sSeq_nx (env' := [.val .st, .val (iD l), .val (iD m), .val (iD g), .no, .no, .no, .no, .no, .no, .no, .no, .no, .no]) (s' := s1) (by simp [q__law_known_2, t1, r1, setSl, -List.map_map])).trans ?_
  obtain ⟨y4, y5, y6, k3⟩ := kn3 (s := s1) (x4 := .no) (x5 := .no) (x6 := .no) (x7 := .no) (x8 := .no) (x9 := .no) (x10 := .no) (x11 := .no) (x12 := .no) (x13 := .no) ll lm lg fmg
  refine (sSeq_nx k3).trans ?_
  refine (sSeq_nx (env' := [.val .st, .val (iD l), .val (iD m), .val (iD g), y4, y5, y6, .val (pD (p, q)), .no, .no, .no, .no, .no, .no]) (s' := s1) (by simp [q__law_known_4, t2, r2, -List.map_map])).trans ?_
  obtain ⟨z4, z8, k5⟩ := kn5 (m := m) (g := g) (s := s1) (x4 := y4) (x5 := y5) (x6 := y6) (x8 := .no) (x9 := .no) (x10 := .no) (x11 := .no) (x12 := .no) (x13 := .no) ll lp lq (fun k hk => (fpq k hk).1) bl
  refine (sSeq_nx k5).trans ?_
  obtain ⟨w4, k6⟩ := kn6 (m := m) (g := g) (s := s1) (x4 := z4) (x5 := y5) (x6 := y6) (x8 := z8) (x9 := .no) (x10 := .no) (x11 := .no) (x12 := .no) (x13 := .no) ll lp lq (fun k hk => (fpq k hk).2)
  refine (sSeq_nx k6).trans ?_
  have g7 : RgOk (-9) 10 := RgOk.small' (by omega) (by omega) (by omega) (by omega)
  have er : rngD (-9) 10 = zL.map D.int := rfl
  have lz : ((zL.map zz).map D.int).length = 19 := rfl
  have gL : LenOk 19 := LenOk.small (by omega)
  have eS : srtI (zL.map zz) = [0, 1, 2, 3, 4, 5, 6, 7, 8, 9, 10, 11, 12, 13, 14, 15, 16, 17, 18] := by decide +kernel
  have eR : rngD 0 19 = (srtI (zL.map zz)).map D.int := by rw [eS]; rfl
  have eU : (zL.map zz).map uz = zL := by decide +kernel
  have hv : ∀ d, (Sl.val d).hide = some d := fun _ => rfl
  have hno : Sl.no.hide = none := rfl
  refine (sSeq_nx (env' := [.val .st, .val (iD l), .val (iD m), .val (iD g), w4, y5, y6, .val (pD (p, q)), z8, .val (iD (zL.map zz)), .no, .no, .no, .no]) (s' := s1) ?_).trans ?_
  · have ec : lcGo (lcF (.n 4) tsYes (mCall f_zigzag (mCons (mVar 4) mNil)) [some .st, some (iD l), some (iD m), some (iD g), none, y5.hide, y6.hide, some (pD (p, q)), z8.hide, none, none, none, none, none]) (zL.map D.int) s1 = .ok ((zL.map zz).map D.int) s1 := by
      rw [lcGo_mapE (e := D.int) (g := fun z => D.int (zz z))]
      · rw [List.map_map]; rfl
      · intro z hz
        have hz5 : z.natAbs < 2 ^ 5 := by
          have : zL.all fun z => decide (z.natAbs < 2 ^ 5) := by decide +kernel
          exact of_decide_eq_true (List.all_eq_true.mp this z hz)
        simp [zz_iz hz5]
    have gz : LenOk (zL.map D.int).length := LenOk.small (by decide)
    simp [q__law_known_7, g7, er, gz, ec, hv, hno, -Sl.hide, -lcF, -List.map_map, -List.length_map]
  have W5 : ∀ z : Int, z ∈ ([0, -1, 1, -2, 2] : List Int) → f_zigzag [.int z] s1 = .ok (.int (zz z)) s1 := fun z hz => zz_iz (by
    have : ([0, -1, 1, -2, 2] : List Int).all fun z => decide (z.natAbs < 2 ^ 5) := by decide +kernel
    exact of_decide_eq_true (List.all_eq_true.mp this z hz))
  have w0 := W5 0 (by simp)
  have w1 := W5 (-1) (by simp)
  have w2 := W5 1 (by simp)
  have w3 := W5 (-2) (by simp)
  have w5 := W5 2 (by simp)
  have v0 : zz 0 = 0 ∧ zz (-1) = 1 ∧ zz 1 = 2 ∧ zz (-2) = 3 ∧ zz 2 = 4 := by decide +kernel
  obtain ⟨v0, v1, v2, v3, v4⟩ := v0
  rw [v0] at w0
  rw [v1] at w1
  rw [v2] at w2
  rw [v3] at w3
  rw [v4] at w5
  refine (sSeq_nx (env' := [.val .st, .val (iD l), .val (iD m), .val (iD g), w4, y5, y6, .val (pD (p, q)), z8, .val (iD (zL.map zz)), .no, .no, .no, .no]) (s' := s1) ?_).trans ?_
  · have eu : ∀ (env : VE), 11 < env.length → lcGo (lcF (.n 11) tsYes (mCall f_unzigzag (mCons (mVar 11) mNil)) env) ((zL.map zz).map D.int) s1 = .ok (zL.map D.int) s1 := fun env he => by
      rw [lcGo_mapE (e := D.int) (g := fun z => D.int (uz z))]
      · have h : (zL.map zz).map (fun z => D.int (uz z)) = ((zL.map zz).map uz).map D.int := by rw [List.map_map (f := uz)]; rfl
        rw [h, eU]
      · intro z hz
        simp [he, f_unzigzag_ok]
    have gz : LenOk ((zL.map zz).map D.int).length := LenOk.small (by decide)
    have g19 : RngOk 19 := RngOk.small (by omega) (by omega)
    have g5 : LenOk 5 := LenOk.small (by omega)
    have dI : dInts ((zL.map zz).map D.int) = some (zL.map zz) := by decide +kernel
    generalize zL.map zz = Z at *
    simp [q__law_known_8, dI, gz, g7, g19, g5, eR, er, eu, lcGo, lcF, w0, w1, w2, w3, w5, deqs_ints, oi59, -List.map_map, -List.length_map]
  refine (sSeq_nx (env' := [.val .st, .val (iD l), .val (iD m), .val (iD g), w4, y5, y6, .val (pD (p, q)), z8, .val (iD (zL.map zz)), .val (.int 0), .no, .no, .no]) (s' := s1) (by simp [q__law_known_9, -List.map_map])).trans ?_
  obtain ⟨u11, u12, u13, k10⟩ := kn10 (s := s1) (x2 := .val (iD m)) (x3 := .val (iD g)) (x4 := w4) (x5 := y5) (x6 := y6) (x7 := .val (pD (p, q))) (x8 := z8) (x9 := .val (iD (zL.map zz))) (x11 := .no) (x12 := .no) (x13 := .no) bl
  refine (sSeq_nx k10).trans ?_
  have c2' : f_cost [.lst []] s1 = .ok (.int 0) s1 := c2
  simp [q__law_known_11, c1, c2', -List.map_map]
end
end L2.Mir.W

set_option Elab.async false
set_option linter.all false
set_option maxRecDepth 100000
set_option maxHeartbeats 1000000
namespace L2.Mir.W
open PySem PySem.Spec PyProof.Rows
section
variable {s : DS}
abbrev hfD : D := .tup [.int 1, .int 2]
abbrev s0D : D := .tup [.int 0, .int 0, .tup [hfD]]
theorem os_1 : f_is_steps [.non] s = .ok (.bl false) s := by simp [f_is_steps, m_is_steps]
theorem os_2 (d : D) : f_is_steps [.lst [d]] s = .ok (.bl false) s := by simp [f_is_steps, m_is_steps]
theorem os_3 (d : D) : f_is_steps [.tup [d, d, d, d, d, d, d]] s = .ok (.bl false) s := by simp [f_is_steps, m_is_steps]
theorem os_of {d : D} (h : f_is_step [d] s = .ok (.bl false) s) : f_is_steps [.tup [d]] s = .ok (.bl false) s := by
  have g : LenOk 1 := LenOk.small (by omega)
  simp [f_is_steps, m_is_steps, h, g, lcGo, lcF]
theorem st_4 : f_is_step [.non] s = .ok (.bl false) s := by simp [f_is_step, m_is_step]
theorem cu3 (a b c : D) : cutD [a, b, c] none (some 2) = [a, b] := rfl
theorem sx3 : ¬ (HT.sIx 3 0 none = 0 ∧ HT.sIx 3 3 (some 2) = 3) := by decide
theorem st_in (a b : D) (ps : List D) : lcGo (lcF (.n 2) tsYes (mAnd (mIsi "int" (mVar 2)) (mNot (mIsi "bool" (mVar 2)))) [some (.tup [a, b, .tup ps]), none, none]) [a, b] s = lcGo (lcF (.n 2) tsYes (mAnd (mIsi "int" (mVar 2)) (mNot (mIsi "bool" (mVar 2)))) [some (.tup [a, b, .tup ps]), none, none]) [a, b] s := rfl
theorem st_5 (ps : List D) : f_is_step [.tup [.int 2, .int 0, .tup ps]] s = .ok (.bl false) s := by
  have g : LenOk 2 := LenOk.small (by omega)
  simp [f_is_step, m_is_step, sx3, cu3, g, lcGo, lcF, inD]
theorem st_6 (ps : List D) : f_is_step [.tup [.int 0, .int 9, .tup ps]] s = .ok (.bl false) s := by
  have g : LenOk 2 := LenOk.small (by omega)
  simp [f_is_step, m_is_step, sx3, cu3, g, lcGo, lcF, inD, absI]
theorem st_7 : f_is_step [.tup [.int 0, .int 0, .tup []]] s = .ok (.bl false) s := by
  have g : LenOk 2 := LenOk.small (by omega)
  simp [f_is_step, m_is_step, sx3, cu3, g, lcGo, lcF, inD, absI]
theorem st_8 (h : D) : f_is_step [.tup [.int 0, .int 0, .tup [h, h, h, h, h, h, h, h, h]]] s = .ok (.bl false) s := by
  have g : LenOk 2 := LenOk.small (by omega)
  simp [f_is_step, m_is_step, sx3, cu3, g, lcGo, lcF, inD, absI]
theorem st_9 (ps : List D) : f_is_step [.tup [.bl true, .int 0, .tup ps]] s = .ok (.bl false) s := by
  have g : LenOk 2 := LenOk.small (by omega)
  simp [f_is_step, m_is_step, sx3, cu3, g, lcGo, lcF, inD, absI]
theorem st_10 (ps : List D) : f_is_step [.tup [.int 0, .int 0, .lst ps]] s = .ok (.bl false) s := by
  simp [f_is_step, m_is_step]
theorem os_0 : f_is_steps [.tup []] s = .ok (.bl true) s := by
  have g : LenOk 0 := LenOk.small (by omega)
  simp [f_is_steps, m_is_steps, lcGo, g]
theorem ow_1 : f_is_wholes [.non] s = .ok (.bl false) s := by simp [f_is_wholes, m_is_wholes]
theorem ow_2 : f_is_wholes [.lst []] s = .ok (.bl false) s := by simp [f_is_wholes, m_is_wholes]
theorem ow_3 (a : D) : f_is_wholes [.lst [a]] s = .ok (.bl false) s := by simp [f_is_wholes, m_is_wholes]
theorem ow_4 (a b c : D) : f_is_wholes [.lst [a, b, c]] s = .ok (.bl false) s := by simp [f_is_wholes, m_is_wholes]
theorem ow_5 (a : List D) : f_is_wholes [.tup a] s = .ok (.bl false) s := by simp [f_is_wholes, m_is_wholes]
theorem ow_6 : f_is_wholes [.lst [.int 1, .bl true]] s = .ok (.bl false) s := by
  have g : LenOk 2 := LenOk.small (by omega)
  simp [f_is_wholes, m_is_wholes, lcGo, lcF, g]
theorem ow_7 (x : Str) : f_is_wholes [.lst [.int 1, .str x]] s = .ok (.bl false) s := by
  have g : LenOk 2 := LenOk.small (by omega)
  simp [f_is_wholes, m_is_wholes, lcGo, lcF, g]
theorem ow_8 {ds : List D} (h : ds.length = 66) : f_is_wholes [.lst ds] s = .ok (.bl false) s := by simp [f_is_wholes, m_is_wholes, h]
noncomputable abbrev nTab : Tab := [("without_rounding", f_without_rounding), ("together", f_together), ("apart", f_apart)]
theorem tab_wr : Tab.get nTab "without_rounding" = some f_without_rounding := by rw [Tab.get_cons, if_pos rfl]
theorem tab_to : Tab.get nTab "together" = some f_together := by rw [Tab.get_cons, if_neg (by decide), Tab.get_cons, if_pos rfl]
theorem tab_ap : Tab.get nTab "apart" = some f_apart := by rw [Tab.get_cons, if_neg (by decide), Tab.get_cons, if_neg (by decide), Tab.get_cons, if_pos rfl]
theorem wordn {x : Str} {fm : List D → M D} {a b : D} {s : DS} {w : Str} (ht : Tab.get nTab x = some fm) (h : fm [a, b] s = .exc ⟨0, [.str w]⟩ s) : f__law_word [.fn x, a, b, .non] s = .ok (.str w) s := by
  simp [f__law_word, m__law_word, ht, h, -Tab.get_cons]
theorem ap_of {a b : D} (h : f_is_wholes [a] s = .ok (.bl false) s) : f_apart [a, b] s = .exc longE s := by simp [f_apart, m_apart, h]
theorem wr_of {a b : D} (h : f_is_wholes [a] s = .ok (.bl false) s) : f_without_rounding [a, b] s = .exc longE s := by simp [f_without_rounding, m_without_rounding, h]
theorem to_1 (b : D) : f_together [.tup [.lst [], .lst []], b] s = .exc longE s := by simp [f_together, m_together]
theorem to_2 (x y z b : D) : f_together [.tup [.lst [x], .lst [y, z]], b] s = .exc longE s := by simp [f_together, m_together]
theorem law_odd_ok : f__law_odd [] s = .ok (.bl true) s := by
  have b1 := os_1 (s := s)
  have b2 := os_2 (s := s) s0D
  have b3 := os_3 (s := s) s0D
  have b4 := os_of (st_4 (s := s))
  have b5 := os_of (st_5 (s := s) [hfD])
  have b6 := os_of (st_6 (s := s) [hfD])
  have b7 := os_of (st_7 (s := s))
  have b8 := os_of (st_8 (s := s) hfD)
  have b9 := os_of (st_9 (s := s) [hfD])
  have b10 := os_of (st_10 (s := s) [hfD])
  have b0 := os_0 (s := s)
  have l66 : (List.replicate 66 [D.int 0]).flatten.length = 66 := rfl
  have w1 := ow_1 (s := s)
  have w2 := ow_2 (s := s)
  have w3 := ow_3 (s := s) (.int 1)
  have w4 := ow_4 (s := s) (.int 1) (.int 2) (.int 3)
  have w5 := ow_5 (s := s) [.int 1, .int 2]
  have w6 := ow_6 (s := s)
  have w7 := ow_7 (s := s) (PySem.Str.ofString "a")
  have w8 := ow_8 (s := s) l66
  have x1 := wordn (x := "apart") tab_ap (ap_of (b := .tup []) w2)
  have x2 := wordn (x := "apart") tab_ap (ap_of (b := .tup []) w4)
  have x3 := wordn (x := "apart") tab_ap (ap_of (b := .tup []) w8)
  have x4 := wordn (x := "without_rounding") tab_wr (wr_of (b := .tup []) w3)
  have x5 := wordn (x := "together") tab_to (to_1 (s := s) (.tup []))
  have x6 := wordn (x := "together") tab_to (to_2 (s := s) (.int 1) (.int 1) (.int 2) (.tup []))
  have g7 : LenOk 7 := LenOk.small (by omega)
  have g2 : LenOk 2 := LenOk.small (by omega)
  have g3 : LenOk 3 := LenOk.small (by omega)
  have g8 : LenOk 8 := LenOk.small (by omega)
  have g9 : LenOk 9 := LenOk.small (by omega)
  have g10 : LenOk 10 := LenOk.small (by omega)
  have g66 : LenOk 66 := LenOk.small (by omega)
  have r7 : ∀ d : D, (List.replicate 7 [d]).flatten = [d, d, d, d, d, d, d] := fun _ => rfl
  have r9 : ∀ d : D, (List.replicate 9 [d]).flatten = [d, d, d, d, d, d, d, d, d] := fun _ => rfl
  have r10 : ∀ d : D, (List.replicate 10 [d]).flatten = [d, d, d, d, d, d, d, d, d, d] := fun _ => rfl
  have r8 : ∀ d : D, (List.replicate 8 [d]).flatten = [d, d, d, d, d, d, d, d] := fun _ => rfl
  have r3 : ∀ d : D, (List.replicate 3 [d]).flatten = [d, d, d] := fun _ => rfl
  have r2 : ∀ d : D, (List.replicate 2 [d]).flatten = [d, d] := fun _ => rfl
  generalize hZ : (List.replicate 66 [D.int 0]).flatten = Z at *
  simp at hZ
  apply runDef_rt
  unfold m__law_odd
  have e0 : startE 5 [] = [.no, .no, .no, .no, .no] := rfl
  rw [e0]
  refine (sSeq_nx (env' := [.val s0D, .no, .no, .no, .no]) (s' := s) (by simp)).trans ?_
  refine (sSeq_nx (env' := [.val s0D, .val (.lst [.non, .lst [s0D], .tup [s0D, s0D, s0D, s0D, s0D, s0D, s0D], .tup [.non], .tup [.tup [.int 2, .int 0, .tup [hfD]]], .tup [.tup [.int 0, .int 9, .tup [hfD]]], .tup [.tup [.int 0, .int 0, .tup []]], .tup [.tup [.int 0, .int 0, .tup [hfD, hfD, hfD, hfD, hfD, hfD, hfD, hfD, hfD]]], .tup [.tup [.bl true, .int 0, .tup [hfD]]], .tup [.tup [.int 0, .int 0, .lst [hfD]]]]), .no, .no, .no]) (s' := s) (by simp [g7, g9, r7, r9])).trans ?_
  refine (sSeq_nx (env' := [.val s0D, .val (.lst [.non, .lst [s0D], .tup [s0D, s0D, s0D, s0D, s0D, s0D, s0D], .tup [.non], .tup [.tup [.int 2, .int 0, .tup [hfD]]], .tup [.tup [.int 0, .int 9, .tup [hfD]]], .tup [.tup [.int 0, .int 0, .tup []]], .tup [.tup [.int 0, .int 0, .tup [hfD, hfD, hfD, hfD, hfD, hfD, hfD, hfD, hfD]]], .tup [.tup [.bl true, .int 0, .tup [hfD]]], .tup [.tup [.int 0, .int 0, .lst [hfD]]]]), .no, .no, .no]) (s' := s) (by simp [b0, b1, b2, b3, b4, b5, b6, b7, b8, b9, b10, g10, r10, lcGo, lcF])).trans ?_
  generalize Sl.val (.lst [.non, .lst [s0D], _, _, _, _, _, _, _, _]) = xx
  refine (sSeq_nx (env' := [.val s0D, xx, .val (.lst [.non, .lst [], .lst [.int 1], .lst [.int 1, .int 2, .int 3], .tup [.int 1, .int 2], .lst [.int 1, .bl true], .lst [.int 1, .str (PySem.Str.ofString "a")], .lst Z]), .no, .no]) (s' := s) (by simp [g66, hZ])).trans ?_
  refine (sSeq_nx (env' := [.val s0D, xx, .val (.lst [.non, .lst [], .lst [.int 1], .lst [.int 1, .int 2, .int 3], .tup [.int 1, .int 2], .lst [.int 1, .bl true], .lst [.int 1, .str (PySem.Str.ofString "a")], .lst Z]), .no, .no]) (s' := s) (by simp [w1, w2, w3, w4, w5, w6, w7, w8, g8, r8, lcGo, lcF])).trans ?_
  refine (sSeq_nx (env' := [.val s0D, xx, .val (.lst [.non, .lst [], .lst [.int 1], .lst [.int 1, .int 2, .int 3], .tup [.int 1, .int 2], .lst [.int 1, .bl true], .lst [.int 1, .str (PySem.Str.ofString "a")], .lst Z]), .no, .no]) (s' := s) (by simp [x1, x2, x3, x4, g66, g3, r3, hZ, lcGo, lcF, so_long])).trans ?_
  simp [x5, x6, g2, r2, lcGo, lcF, so_long]
theorem law_ok : lawOk 6 1 m_law := by
  intro ns _
  have hs := stateOk_st ns
  have e0 : (List.replicate 6 Sl.no).set 1 (.val .st) = [.no, .val .st, .no, .no, .no, .no] := rfl
  rw [e0]
  generalize (some (0, stCells ns) : DS) = s at *
  have turn : ∀ (x0 x2 x3 x4 : Sl) (s : DS), StateOk s → ∃ y3 y4 s', (sSeq (sPar false 3 4 (mCons (mCall f__law_steps (mCons (mVar 1) mNil)) (mCons (mLc (.n 5) [5] (mRng1 (mCons (mBin opAdd (mC (.int 2)) (mBin opMulT (mC (.int 2)) (mCall f__law_take (mCons (mVar 1) (mCons (mC (.int 8)) mNil))))) mNil)) tsYes (mBin opSub (mCall f__law_take (mCons (mVar 1) (mCons (mC (.int 41)) mNil))) (mC (.int 20)))) mNil))) (sIf (mOrT (mNotT (mTru (mCall f__law_there (mCons (mVar 1) (mCons (mVar 3) (mCons (mVar 4) mNil)))))) (mOrT (mNotT (mTru (mCall f__law_plain (mCons (mVar 3) (mCons (mVar 4) mNil))))) (mNotT (mTru (mCall f__law_pyramids (mCons (mVar 1) (mCons (mVar 3) mNil))))))) (sRet (mC (.bl false))) sNx)) [x0, .val .st, x2, x3, x4, .no] s = .ok (.nx [x0, .val .st, x2, y3, y4, .no]) s' ∧ StateOk s' := fun x0 x2 x3 x4 s hs => by
    obtain ⟨ts, s1, e1, hs1, h3, ht⟩ := law_steps_ok hs
    obtain ⟨r, s2, e2, hs2, a1, a2⟩ := fTake_ok hs1 8 (TakeOk.small (by omega))
    obtain ⟨n, hn⟩ : ∃ n : Nat, 1 + r = n := ⟨(1 + r).toNat, by omega⟩
    have e2n : (2 : Int) + 2 * r = ((2 * n : Nat) : Int) := by omega
    have g0 : RngOk ((2 * n : Nat) : Int) := RngOk.small (by omega) (by omega)
    have g1 : LenOk (2 * n) := LenOk.small (by omega)
    haveI : Iz r 10 := ⟨by omega⟩
    have mo := mulOk_iz (i := (2 : Int)) (j := r) (by omega)
    have hv : ∀ d, (Sl.val d).hide = some d := fun _ => rfl
    have hno : Sl.no.hide = none := rfl
    obtain ⟨l, s3, e3, hs3, ll, bl⟩ := draw_ints (f := lcF (.n 5) tsYes (mBin opSub (mCall f__law_take (mCons (mVar 1) (mCons (mC (.int 41)) mNil))) (mC (.int 20))) [x0.hide, some .st, x2.hide, x3.hide, x4.hide, none]) 20 40 (fun d s hs => by
      obtain ⟨r, s', e, h, z1, z2⟩ := fTake_ok hs 41 (TakeOk.small (by omega))
      exact ⟨r, s', by simp [f__law_take, e], h, z1, by omega⟩) (by omega) (rngD 0 ((2 * n : Nat) : Int)) s2 hs2
    rw [len_rngD] at ll
    have e2' : f__law_take [.st, .int 8] s1 = .ok (.int r) s2 := e2
    obtain ⟨s4, e4, hs4⟩ := law_there_ok h3 ht ll (by omega) (by omega) bl hs3
    have hto : ∀ t ∈ ts, t.ok := fun t h => (ht t h).ok
    have e5 := law_plain_ok (s := s4) h3 ll (by omega) (by omega) hto bl
    obtain ⟨s6, e6, hs6⟩ := law_pyramids_ok h3 hto hs4
    refine ⟨.val (.tup (ts.map St.D)), .val (iD l), s6, ?_, hs6⟩
    refine (sSeq_nx (env' := [x0, .val .st, x2, .val (.tup (ts.map St.D)), .val (iD l), .no]) (s' := s3) ?_).trans ?_
    · simp [e1, e2', mo, e2n, g0, g1, len_rngD, e3, hv, hno, -Sl.hide, -lcF, -List.map_map, -Int.natCast_mul]
    · simp [e4, e5, e6, hv, hno, -Sl.hide, -List.map_map]
  have el : l_1 = sFor (.n 2) (mRng1 (mCons (mC (.int 3)) mNil)) (sSeq (sPar false 3 4 (mCons (mCall f__law_steps (mCons (mVar 1) mNil)) (mCons (mLc (.n 5) [5] (mRng1 (mCons (mBin opAdd (mC (.int 2)) (mBin opMulT (mC (.int 2)) (mCall f__law_take (mCons (mVar 1) (mCons (mC (.int 8)) mNil))))) mNil)) tsYes (mBin opSub (mCall f__law_take (mCons (mVar 1) (mCons (mC (.int 41)) mNil))) (mC (.int 20)))) mNil))) (sIf (mOrT (mNotT (mTru (mCall f__law_there (mCons (mVar 1) (mCons (mVar 3) (mCons (mVar 4) mNil)))))) (mOrT (mNotT (mTru (mCall f__law_plain (mCons (mVar 3) (mCons (mVar 4) mNil))))) (mNotT (mTru (mCall f__law_pyramids (mCons (mVar 1) (mCons (mVar 3) mNil))))))) (sRet (mC (.bl false))) sNx)) := rfl
  generalize (sSeq (sPar false 3 4 _) (sIf _ (sRet (mC (.bl false))) sNx)) = bd at *
  obtain ⟨y3, y4, s1, e1, h1⟩ := turn .no (.val (.int 0)) .no .no s hs
  obtain ⟨z3, z4, s2, e2, h2⟩ := turn .no (.val (.int 1)) y3 y4 s1 h1
  obtain ⟨w3, w4, s3, e3, h3⟩ := turn .no (.val (.int 2)) z3 z4 s2 h2
  obtain ⟨s4, e4, h4⟩ := law_known_ok h3
  refine ⟨s4, ?_⟩
  have er : rngD 0 3 = [.int 0, .int 1, .int 2] := rfl
  have f1 : l_1 [.no, .val .st, .no, .no, .no, .no] s = .ok (.nx [.no, .val .st, .val (.int 2), w3, w4, .no]) s3 := by
    rw [el]
    simp [er, forGo, e1, e2, e3]
  unfold m_law
  rw [sSeq_nx f1]
  simp [l_2, e4, law_odd_ok]
end
end L2.Mir.W

set_option Elab.async false
set_option linter.all false
set_option maxRecDepth 100000
set_option maxHeartbeats 4000000
open PySem PySem.W PyProof.Rows
set_option maxHeartbeats 0 in
theorem PySem.Challenge.cw_bendwright_k29_whole_rounded_steps_holds : PySem.Challenge.rw_bendwright_k29_whole_rounded_steps.Holds := by
  w_on; o_law; k_head; (case hw => w_witness2)
  k_fill
  refine L2.walk_of (l := PySem.Challenge.rw_bendwright_k29_whole_rounded_steps) (n := 63) (k := 10) (x := "script") (CX := fun _ => L2.CX0) (sp := fun w => L2.Mir.spLaw _) rfl (by decide) rfl ⟨rfl, by decide, by decide⟩ (fun w h Y => PySem.W.kIn_of Y) ?F (fun _ _ a ns hl _ hS => ⟨a, ns, rfl, hS, hl, fun _ => rfl⟩) (fun _ _ _ _ _ h => h)
  case F =>
    intro w mg fa h KX G hmg
    refine' L2.Mir.W.all_mk KX G hmg ?a0 ?l0 ?c0 ?k0 ?a1 ?l1 ?c1 ?k1 ?a2 ?l2 ?c2 ?k2 ?a3 ?l3 ?c3 ?k3 ?a4 ?l4 ?c4 ?k4 ?a5 ?l5 ?c5 ?k5 ?a6 ?l6 ?c6 ?k6 ?a7 ?l7 ?c7 ?k7 ?a8 ?l8 ?c8 ?k8 ?a9 ?l9 ?c9 ?k9 ?a10 ?l10 ?c10 ?k10 ?a11 ?l11 ?c11 ?k11 ?a12 ?l12 ?c12 ?k12 ?a13 ?l13 ?c13 ?k13 ?a14 ?l14 ?c14 ?k14 ?a15 ?l15 ?c15 ?k15 ?a16 ?l16 ?c16 ?k16 ?a17 ?l17 ?c17 ?k17 ?a18 ?l18 ?c18 ?k18 ?a19 ?l19 ?c19 ?k19 ?a20 ?l20 ?c20 ?k20 ?a21 ?l21 ?c21 ?k21 ?a22 ?l22 ?c22 ?k22 ?a23 ?l23 ?c23 ?k23 ?a24 ?l24 ?c24 ?k24 ?a25 ?l25 ?c25 ?k25 ?a26 ?l26 ?c26 ?k26 ?a27 ?l27 ?c27 ?k27 ?a28 ?l28 ?c28 ?k28 ?a29 ?l29 ?c29 ?k29 ?a30 ?l30 ?c30 ?k30 ?a31 ?l31 ?c31 ?k31 ?a32 ?l32 ?c32 ?k32 ?a33 ?l33 ?c33 ?k33 ?a34 ?l34 ?c34 ?k34 ?a35 ?l35 ?c35 ?k35 ?a36 ?l36 ?c36 ?k36 ?a37 ?l37 ?c37 ?k37 ?a38 ?l38 ?c38 ?k38 ?a39 ?l39 ?c39 ?k39 ?a40 ?l40 ?c40 ?k40 ?a41 ?l41 ?c41 ?k41 ?a42 ?l42 ?c42 ?k42 ?z_abs ?z_all ?z_bool ?z_int ?z_isinstance ?z_len ?z_list ?z_range ?z_sorted ?z_tuple ?c_MOST_LONG ?c_MOST_STEPS ?gC0 ?xLC0 ?hbC0 ?saC0 ?gaC0 ?ggC0 ?nbC0 ?a1C0 ?t1C0 ?l1C0 ?c1C0 ?lDC0 ?iFC0 ?iMC0 ?lXC0 ?spC0 ?veC0 ?meC0 ?tpC0 ?topC0 ?kCC0 ?eCC0 ?tCC0 ?hCC0 ?iCC0 ?sCC0 ?z_super L2.Mir.W.law_ok
    (case a0 => k_is); (case l0 => k_is); (case c0 => k_is); (case k0 => k_is); (case a1 => k_is); (case l1 => k_is); (case c1 => k_is); (case k1 => k_is); (case a2 => k_is); (case l2 => k_is); (case c2 => k_is); (case k2 => k_is); (case a3 => k_is); (case l3 => k_is); (case c3 => k_is); (case k3 => k_is); (case a4 => k_is); (case l4 => k_is); (case c4 => k_is); (case k4 => k_is); (case a5 => k_is); (case l5 => k_is); (case c5 => k_is); (case k5 => k_is); (case a6 => k_is); (case l6 => k_is); (case c6 => k_is); (case k6 => k_is); (case a7 => k_is); (case l7 => k_is); (case c7 => k_is); (case k7 => k_is); (case a8 => k_is); (case l8 => k_is); (case c8 => k_is); (case k8 => k_is); (case a9 => k_is); (case l9 => k_is); (case c9 => k_is); (case k9 => k_is); (case a10 => k_is); (case l10 => k_is); (case c10 => k_is); (case k10 => k_is); (case a11 => k_is); (case l11 => k_is); (case c11 => k_is); (case k11 => k_is); (case a12 => k_is); (case l12 => k_is); (case c12 => k_is); (case k12 => k_is); (case a13 => k_is); (case l13 => k_is); (case c13 => k_is); (case k13 => k_is); (case a14 => k_is); (case l14 => k_is); (case c14 => k_is); (case k14 => k_is); (case a15 => k_is); (case l15 => k_is); (case c15 => k_is); (case k15 => k_is); (case a16 => k_is); (case l16 => k_is); (case c16 => k_is); (case k16 => k_is); (case a17 => k_is); (case l17 => k_is); (case c17 => k_is); (case k17 => k_is); (case a18 => k_is); (case l18 => k_is); (case c18 => k_is); (case k18 => k_is); (case a19 => k_is); (case l19 => k_is); (case c19 => k_is); (case k19 => k_is); (case a20 => k_is); (case l20 => k_is); (case c20 => k_is); (case k20 => k_is); (case a21 => k_is); (case l21 => k_is); (case c21 => k_is); (case k21 => k_is); (case a22 => k_is); (case l22 => k_is); (case c22 => k_is); (case k22 => k_is); (case a23 => k_is); (case l23 => k_is); (case c23 => k_is); (case k23 => k_is); (case a24 => k_is); (case l24 => k_is); (case c24 => k_is); (case k24 => k_is); (case a25 => k_is); (case l25 => k_is); (case c25 => k_is); (case k25 => k_is); (case a26 => k_is); (case l26 => k_is); (case c26 => k_is); (case k26 => k_is); (case a27 => k_is); (case l27 => k_is); (case c27 => k_is); (case k27 => k_is); (case a28 => k_is); (case l28 => k_is); (case c28 => k_is); (case k28 => k_is); (case a29 => k_is); (case l29 => k_is); (case c29 => k_is); (case k29 => k_is); (case a30 => k_is); (case l30 => k_is); (case c30 => k_is); (case k30 => k_is); (case a31 => k_is); (case l31 => k_is); (case c31 => k_is); (case k31 => k_is); (case a32 => k_is); (case l32 => k_is); (case c32 => k_is); (case k32 => k_is); (case a33 => k_is); (case l33 => k_is); (case c33 => k_is); (case k33 => k_is); (case a34 => k_is); (case l34 => k_is); (case c34 => k_is); (case k34 => k_is); (case a35 => k_is); (case l35 => k_is); (case c35 => k_is); (case k35 => k_is); (case a36 => k_is); (case l36 => k_is); (case c36 => k_is); (case k36 => k_is); (case a37 => k_is); (case l37 => k_is); (case c37 => k_is); (case k37 => k_is); (case a38 => k_is); (case l38 => k_is); (case c38 => k_is); (case k38 => k_is); (case a39 => k_is); (case l39 => k_is); (case c39 => k_is); (case k39 => k_is); (case a40 => k_is); (case l40 => k_is); (case c40 => k_is); (case k40 => k_is); (case a41 => k_is); (case l41 => k_is); (case c41 => k_is); (case k41 => k_is); (case a42 => k_is); (case l42 => k_is); (case c42 => k_is); (case k42 => k_is); (case z_abs => k_is); (case z_all => k_is); (case z_bool => k_is); (case z_int => k_is); (case z_isinstance => k_is); (case z_len => k_is); (case z_list => k_is); (case z_range => k_is); (case z_sorted => k_is); (case z_tuple => k_is); (case c_MOST_LONG => k_is); (case c_MOST_STEPS => k_is); (case gC0 => k_is); (case xLC0 => k_is); (case hbC0 => exact rfl); (case saC0 => k_is); (case gaC0 => k_is); (case ggC0 => k_is); (case nbC0 => k_is); (case a1C0 => k_is); (case t1C0 => k_is); (case l1C0 => k_is); (case c1C0 => k_is); (case lDC0 => k_is); (case iFC0 => exact rfl); (case iMC0 => first | exact rfl | decide +kernel); (case lXC0 => k_is); (case spC0 => ks_is); (case veC0 => k_is); (case meC0 => k_is); (case tpC0 => k_is); (case topC0 => first | exact rfl | decide +kernel); (case kCC0 => k_is); (case eCC0 => k_is); (case tCC0 => k_is); (case hCC0 => k_is); (case iCC0 => k_is); (case sCC0 => k_is); (case z_super => k_is)

