import PyProof.Rows.All
import Wide.All
import OpenK.AllK
import Wide.FinOn
import HandS.ForMost
import HandS.Wide
import HandS.Gcd
import HandS.Style
import HandS.IsInst
import PySem.Challenge.RW_stayshown_k45_ruler_far_out
set_option Elab.async false
set_option linter.all false
set_option maxRecDepth 100000
set_option maxRecDepth 100000
/-! Sy: symbolic execution over plain data, above the hand layer -/
namespace Sy
open PySem PySem.Spec PyProof.Rows L2

/-! ### plain data -/
inductive D where
  | non | bl (b : Bool) | int (i : Int) | str (s : Str) | tup (xs : List D) | lst (xs : List D) | loc (a : Addr) | ty (n : String)
inductive DO where
  | lst (xs : List D)
abbrev Sto := Addr → Option DO
def up (m : Sto) (a : Addr) (o : DO) : Sto := fun b => if b = a then some o else m b
theorem up_same {m : Sto} {a : Addr} {o : DO} : up m a o a = some o := by unfold up; rw [if_pos rfl]
theorem up_ne {m : Sto} {a b : Addr} {o : DO} (h : b ≠ a) : up m a o b = m b := by unfold up; rw [if_neg h]
theorem up_up {m : Sto} {a : Addr} {o u : DO} : up (up m a o) a u = up m a u := by
  funext b; unfold up; split <;> rfl

/-- a list by value: read at its address, or the module's own -/
def LsM (K : PySem.W.Frag) (H : Hp) (m : Sto) (a : Addr) (vs : List V) : Prop := (Rd H a (.lst vs) ∧ m a = none) ∨
  ∃ (o : Obj) (its : Array Value) (n : Nat), K.lookup a = some o ∧ o.cls = .type "list" ∧ o.dict = none ∧ o.data = .seq its n ∧ its.size ≤ sizeLine ∧ Vals vs its.toList
theorem LsM.sq {K : PySem.W.Frag} {H : Hp} {m : Sto} {a : Addr} {vs : List V} (h : LsM K H m a vs) : SqL K H a vs := h.elim (fun h => .inl h.1) .inr
mutual
inductive Den (K : PySem.W.Frag) (H : Hp) (m : Sto) : V → D → Prop
  | non : Den K H m .non .non
  | bl (b : Bool) : Den K H m (.bl b) (.bl b)
  | int (i : Int) : Den K H m (.int i) (.int i)
  | str (s : Str) : Den K H m (.str s) (.str s)
  | tup {a : Addr} {vs : List V} {ds : List D} : SqT K H a vs → DenL K H m vs ds → Den K H m (.ref a) (.tup ds)
  | lst {a : Addr} {vs : List V} {ds : List D} : LsM K H m a vs → DenL K H m vs ds → Den K H m (.ref a) (.lst ds)
  | loc (a : Addr) : Den K H m (.ref a) (.loc a)
  | ty (n : String) : Den K H m (.ty n) (.ty n)
inductive DenL (K : PySem.W.Frag) (H : Hp) (m : Sto) : List V → List D → Prop
  | nil : DenL K H m [] []
  | cons {v : V} {d : D} {vs : List V} {ds : List D} : Den K H m v d → DenL K H m vs ds → DenL K H m (v :: vs) (d :: ds)
end
def StoRel (K : PySem.W.Frag) (H : Hp) (m : Sto) : Prop := ∀ a o, m a = some o → match o with
  | .lst ds => ∃ vs, H a = some (.lst vs) ∧ DenL K H m vs ds
def Ext (m : Sto) (H H' : Hp) : Prop := ∀ a o, H a = some o → m a = none → H' a = some o
def Dom (m : Sto) (H : Hp) (m' : Sto) : Prop := ∀ a, m' a ≠ none → m a ≠ none ∨ H a = none

section
variable {K : PySem.W.Frag} {H H' H'' : Hp} {m m' m'' : Sto}
theorem Ext.refl : Ext m H H := fun _ _ h _ => h
theorem Dom.refl : Dom m H m := fun _ h => .inl h
theorem dom_none (d : Dom m H m') {a : Addr} {o : HO} (h : H a = some o) (hm : m a = none) : m' a = none := by
  cases q : m' a with
  | none => rfl
  | some x =>
    rcases d a (by rw [q]; exact fun z => nomatch z) with z | z
    · exact absurd hm z
    · rw [h] at z; cases z
theorem Ext.trans (e1 : Ext m H H') (d1 : Dom m H m') (e2 : Ext m' H' H'') : Ext m H H'' := fun a o h hm => e2 a o (e1 a o h hm) (dom_none d1 h hm)
theorem Dom.trans (e1 : Ext m H H') (d1 : Dom m H m') (d2 : Dom m' H' m'') : Dom m H m'' := fun a h => by
  rcases d2 a h with z | z
  · exact d1 a z
  · cases q : H a with
    | none => exact .inr rfl
    | some o =>
      by_cases hm : m a = none
      · rw [e1 a o q hm] at z; cases z
      · exact .inl hm
theorem sto_lst (s : StoRel K H m) {a : Addr} {o : HO} (h : H a = some o) (n : ∀ vs, o ≠ .lst vs) : m a = none := by
  cases q : m a with
  | none => rfl
  | some x =>
    cases x with
    | lst ds =>
      obtain ⟨vs, hv, _⟩ := s a _ q
      rw [h] at hv
      exact absurd (Option.some.inj hv) (n vs)
theorem sqt_ext (s : StoRel K H m) (e : Ext m H H') {a : Addr} {vs : List V} (h : SqT K H a vs) : SqT K H' a vs := by
  rcases h with (h | ⟨o, h⟩) | h
  · exact .inl (.inl (e a _ h (sto_lst s h fun _ z => nomatch z)))
  · exact .inl (.inr ⟨o, e a _ h (sto_lst s h fun _ z => nomatch z)⟩)
  · exact .inr h
mutual
theorem Den.ext (s : StoRel K H m) (e : Ext m H H') (d : Dom m H m') : ∀ {v : V} {x : D}, Den K H m v x → Den K H' m' v x
  | _, _, .non => .non
  | _, _, .bl b => .bl b
  | _, _, .int i => .int i
  | _, _, .str i => .str i
  | _, _, .tup h l => .tup (sqt_ext s e h) (DenL.ext s e d l)
  | _, _, .lst (a := a) h l => by
    rcases h with ⟨h | ⟨o, h⟩, hm⟩ | h
    · exact .lst (.inl ⟨.inl (e a _ h hm), dom_none d h hm⟩) (DenL.ext s e d l)
    · exact .lst (.inl ⟨.inr ⟨o, e a _ h hm⟩, dom_none d h hm⟩) (DenL.ext s e d l)
    · exact .lst (.inr h) (DenL.ext s e d l)
  | _, _, .loc a => .loc a
  | _, _, .ty n => .ty n
theorem DenL.ext (s : StoRel K H m) (e : Ext m H H') (d : Dom m H m') : ∀ {vs : List V} {xs : List D}, DenL K H m vs xs → DenL K H' m' vs xs
  | _, _, .nil => .nil
  | _, _, .cons h l => .cons (Den.ext s e d h) (DenL.ext s e d l)
end
/-- fewer mutable lists -/
def Sub (m' m : Sto) : Prop := ∀ a o, m' a = some o → m a = some o
mutual
theorem Den.sub (u : Sub m' m) : ∀ {v : V} {x : D}, Den K H m v x → Den K H m' v x
  | _, _, .non => .non
  | _, _, .bl b => .bl b
  | _, _, .int i => .int i
  | _, _, .str i => .str i
  | _, _, .tup h l => .tup h (DenL.sub u l)
  | _, _, .lst (a := a) h l => .lst (h.imp (fun ⟨h, hm⟩ => ⟨h, by
      cases q : m' a with
      | none => rfl
      | some o => rw [u a o q] at hm; cases hm⟩) id) (DenL.sub u l)
  | _, _, .loc a => .loc a
  | _, _, .ty n => .ty n
theorem DenL.sub (u : Sub m' m) : ∀ {vs : List V} {xs : List D}, DenL K H m vs xs → DenL K H m' vs xs
  | _, _, .nil => .nil
  | _, _, .cons h l => .cons (Den.sub u h) (DenL.sub u l)
end
theorem StoRel.sub (u : Sub m' m) (s : StoRel K H m) : StoRel K H m' := fun a o h => by
  have q := s a o (u a o h)
  cases o with
  | lst ds =>
    obtain ⟨vs, h1, h2⟩ := q
    exact ⟨vs, h1, h2.sub u⟩
theorem DenL.length : ∀ {vs : List V} {xs : List D}, DenL K H m vs xs → vs.length = xs.length
  | _, _, .nil => rfl
  | _, _, .cons _ l => by rw [List.length_cons, List.length_cons, DenL.length l]
theorem DenL.get : ∀ {vs : List V} {xs : List D} {i : Nat} {x : D}, DenL K H m vs xs → xs[i]? = some x → ∃ v, vs[i]? = some v ∧ Den K H m v x
  | _, _, _, _, .nil, e => by simp at e
  | _, _, 0, _, .cons h _, e => by
    simp at e; subst e; exact ⟨_, rfl, h⟩
  | _, _, i + 1, x, .cons _ l, e => by
    obtain ⟨v, h1, h2⟩ := DenL.get (i := i) (x := x) l (by simpa using e)
    exact ⟨v, by simpa using h1, h2⟩
theorem DenL.get' : ∀ {vs : List V} {xs : List D} {i : Nat} {v : V}, DenL K H m vs xs → vs[i]? = some v → ∃ x, xs[i]? = some x ∧ Den K H m v x
  | _, _, _, _, .nil, e => by simp at e
  | _, _, 0, _, .cons h _, e => by
    simp at e; subst e; exact ⟨_, rfl, h⟩
  | _, _, i + 1, x, .cons _ l, e => by
    obtain ⟨v, h1, h2⟩ := DenL.get' (i := i) (v := x) l (by simpa using e)
    exact ⟨v, by simpa using h1, h2⟩
theorem DenL.append : ∀ {vs ws : List V} {xs ys : List D}, DenL K H m vs xs → DenL K H m ws ys → DenL K H m (vs ++ ws) (xs ++ ys)
  | _, _, _, _, .nil, r => r
  | _, _, _, _, .cons h l, r => .cons h (DenL.append l r)
theorem DenL.take : ∀ {vs : List V} {xs : List D} (n : Nat), DenL K H m vs xs → DenL K H m (vs.take n) (xs.take n)
  | _, _, 0, _ => .nil
  | _, _, _ + 1, .nil => .nil
  | _, _, n + 1, .cons h l => .cons h (DenL.take n l)
theorem DenL.drop : ∀ {vs : List V} {xs : List D} (n : Nat), DenL K H m vs xs → DenL K H m (vs.drop n) (xs.drop n)
  | _, _, 0, r => r
  | _, _, _ + 1, .nil => .nil
  | _, _, n + 1, .cons _ l => DenL.drop n l
theorem DenL.set : ∀ {vs : List V} {xs : List D} {v : V} {x : D} (n : Nat), DenL K H m vs xs → Den K H m v x → DenL K H m (vs.set n v) (xs.set n x)
  | _, _, _, _, _, .nil, _ => .nil
  | _, _, _, _, 0, .cons _ l, h => .cons h l
  | _, _, _, _, n + 1, .cons q l, h => .cons q (DenL.set n l h)
theorem DenL.eraseIdx : ∀ {vs : List V} {xs : List D} (n : Nat), DenL K H m vs xs → DenL K H m (vs.eraseIdx n) (xs.eraseIdx n)
  | _, _, _, .nil => .nil
  | _, _, 0, .cons _ l => l
  | _, _, n + 1, .cons q l => .cons q (DenL.eraseIdx n l)
/-- a new object -/
theorem ext_new {p : Addr} {o : HO} (h : H p = none) : Ext m H (upd H p o) := fun a u e _ => by
  rw [upd_ne (ne_of_none e h)]; exact e
/-- a new mutable list -/
theorem sto_new {p : Addr} {vs : List V} {ds : List D} (s : StoRel K H m) (h : H p = none) (r : DenL K H m vs ds) : StoRel K (upd H p (.lst vs)) (up m p (.lst ds)) := by
  have e : Ext m H (upd H p (.lst vs)) := ext_new h
  have d : Dom m H (up m p (.lst ds)) := fun a q => by
    by_cases z : a = p
    · subst z; exact .inr h
    · rw [up_ne z] at q; exact .inl q
  intro a o q
  by_cases z : a = p
  · subst z
    rw [up_same] at q; cases q
    exact ⟨vs, upd_same, r.ext s e d⟩
  · rw [up_ne z] at q
    cases o with
    | lst ds' =>
      obtain ⟨vs', h1, h2⟩ := s a _ q
      exact ⟨vs', by rw [upd_ne z]; exact h1, h2.ext s e d⟩
theorem dom_new {p : Addr} {o : DO} (h : H p = none) : Dom m H (up m p o) := fun a q => by
  by_cases z : a = p
  · subst z; exact .inr h
  · rw [up_ne z] at q; exact .inl q
theorem sto_free (s : StoRel K H m) {p : Addr} (h : H p = none) : m p = none := by
  cases q : m p with
  | none => rfl
  | some x =>
    cases x with
    | lst ds =>
      obtain ⟨vs, hv, _⟩ := s p _ q
      rw [h] at hv; cases hv
/-- an immutable new object: the store stands -/
theorem sto_ext (s : StoRel K H m) (e : Ext m H H') (k : ∀ a, m a ≠ none → H' a = H a) : StoRel K H' m := fun a o q => by
  have u := s a o q
  cases o with
  | lst ds =>
    obtain ⟨vs, h1, h2⟩ := u
    exact ⟨vs, by rw [k a (by rw [q]; exact fun z => nomatch z)]; exact h1, h2.ext s e .refl⟩
theorem sto_push {p : Addr} {o : HO} (s : StoRel K H m) (h : H p = none) : StoRel K (upd H p o) m := sto_ext s (ext_new h) fun a q => by
  rw [upd_ne]
  intro z
  subst z
  exact q (sto_free s h)
/-- a mutable list is changed -/
theorem ext_set {p : Addr} {o : HO} (h : m p ≠ none) : Ext m H (upd H p o) := fun a u e hm => by
  rw [upd_ne]
  · exact e
  · intro z; subst z; exact h hm
theorem dom_set {p : Addr} {o : DO} (h : m p ≠ none) : Dom m H (up m p o) := fun a q => by
  by_cases z : a = p
  · subst z; exact .inl h
  · rw [up_ne z] at q; exact .inl q
theorem sto_set {p : Addr} {vs : List V} {ds : List D} (s : StoRel K H m) (h : m p ≠ none) (r : DenL K H m vs ds) : StoRel K (upd H p (.lst vs)) (up m p (.lst ds)) := by
  have e : Ext m H (upd H p (.lst vs)) := ext_set h
  have d : Dom m H (up m p (.lst ds)) := dom_set h
  intro a o q
  by_cases z : a = p
  · subst z
    rw [up_same] at q; cases q
    exact ⟨vs, upd_same, r.ext s e d⟩
  · rw [up_ne z] at q
    cases o with
    | lst ds' =>
      obtain ⟨vs', h1, h2⟩ := s a _ q
      exact ⟨vs', by rw [upd_ne z]; exact h1, h2.ext s e d⟩
end

/-! ### the state -/
/-- where a def was entered -/
structure Ctx where
  H : Hp
  m : Sto
abbrev Slo := List (Option D)
structure Base (K : PySem.W.Frag) (C : Ctx) (m : Sto) (H : Hp) : Prop where
  sto : StoRel K H m
  ext : Ext C.m C.H H
  dom : Dom C.m C.H m
structure Rel (K : PySem.W.Frag) (C : Ctx) (r : Slo) (m : Sto) (τ : List (V × D)) (σ : L2.St) (H : Hp) : Prop extends Base K C m H where
  slots : ∀ (i : Nat) (d : D), r[i]? = some (some d) → ∃ v, σ[i]? = some (some v) ∧ Den K H m v d
  len : r.length = σ.length
  tmp : ∀ p ∈ τ, Den K H m p.1 p.2
section
variable {K : PySem.W.Frag} {C : Ctx} {r : Slo} {m m' : Sto} {τ : List (V × D)} {σ : L2.St} {H H' : Hp}
theorem Base.step (R : Base K C m H) (e : Ext m H H') (d : Dom m H m') (s : StoRel K H' m') : Base K C m' H' :=
  ⟨s, R.ext.trans R.dom e, Dom.trans R.ext R.dom d⟩
theorem Rel.step (R : Rel K C r m τ σ H) (e : Ext m H H') (d : Dom m H m') (s : StoRel K H' m') : Rel K C r m' τ σ H' :=
  ⟨R.toBase.step e d s, fun i x q => let ⟨v, h1, h2⟩ := R.slots i x q; ⟨v, h1, h2.ext R.sto e d⟩, R.len, fun p hp => (R.tmp p hp).ext R.sto e d⟩
theorem Rel.push {v : V} {d : D} (R : Rel K C r m τ σ H) (h : Den K H m v d) : Rel K C r m ((v, d) :: τ) σ H :=
  ⟨R.toBase, R.slots, R.len, fun p hp => by
      rcases List.mem_cons.mp hp with rfl | hp
      · exact h
      · exact R.tmp p hp⟩
theorem Rel.pop {p : V × D} (R : Rel K C r m (p :: τ) σ H) : Rel K C r m τ σ H :=
  ⟨R.toBase, R.slots, R.len, fun p hp => R.tmp p (List.mem_cons_of_mem _ hp)⟩
theorem Rel.top {v : V} {d : D} (R : Rel K C r m ((v, d) :: τ) σ H) : Den K H m v d := R.tmp (v, d) List.mem_cons_self
theorem Rel.sub (R : Rel K C r m τ σ H) (u : Sub m' m) : Rel K C r m' τ σ H :=
  ⟨⟨R.sto.sub u, R.ext, fun a h => R.dom a (by
      cases q : m' a with
      | none => exact absurd q h
      | some o => rw [u a o q]; exact fun z => nomatch z)⟩,
    fun i x q => let ⟨v, h1, h2⟩ := R.slots i x q; ⟨v, h1, h2.sub u⟩, R.len, fun p hp => (R.tmp p hp).sub u⟩
theorem Rel.noTmp (R : Rel K C r m τ σ H) : Rel K C r m [] σ H := ⟨R.toBase, R.slots, R.len, fun _ h => nomatch h⟩
end

/-! ### what a piece of syntax does, as a reading of itself -/
def WE (X : Cx) (e : Expr) : TE := fun σ H Q => ∀ (pins : List (Addr × Obj)) (s : Shared), Inv X pins σ H s → wpAny (model X.prog X.w) X.A (eval e X.env) (EP X pins σ Q) X.xe s
def WT (X : Cx) (e : Expr) : TT := fun σ H Q => ∀ (pins : List (Addr × Obj)) (s : Shared), Inv X pins σ H s → wpAny (model X.prog X.w) X.A (isTrue e X.env (eval e X.env)) (TP X pins σ Q) X.xe s
def WA (X : Cx) (es : List Expr) : TA := fun σ H Q => ∀ (pos : Pos) (pins : List (Addr × Obj)) (s : Shared), Inv X pins σ H s → wpAny (model X.prog X.w) X.A (spliced (backTo pos (starEach es X.env))) (AP X pins σ Q) X.xe s
def WS (X : Cx) (ss : List Stmt) : TS := fun D σ H => ∀ (pins : List (Addr × Obj)) (s : Shared), Inv X pins σ H s → wpAny (model X.prog X.w) X.A (execs ss X.env) (SP X pins D) X.xe s
def W1 (X : Cx) (st : Stmt) : TS := fun D σ H => ∀ (pins : List (Addr × Obj)) (s : Shared), Inv X pins σ H s → wpAny (model X.prog X.w) X.A (exec st X.env) (SP X pins D) X.xe s
section
variable {X : Cx} {e : Expr} {es : List Expr} {ss : List Stmt} {st : Stmt}
theorem we_pe : PE X e (WE X e) := ⟨fun pins s σ H Q I h => h pins s I⟩
theorem wt_pt : PT X e (WT X e) := ⟨fun pins s σ H Q I h => h pins s I⟩
theorem wa_pa : PA X es (WA X es) := ⟨fun pos pins s σ H Q I h => h pos pins s I⟩
theorem ws_ps : PSs X ss (WS X ss) := ⟨fun pins s σ H D I h => h pins s I⟩
theorem w1_ps : PS X st (W1 X st) := ⟨fun pins s σ H D I h => h pins s I⟩
theorem we_of {t : TE} (h : PE X e t) {σ : L2.St} {H : Hp} {Q : VK} (q : t σ H Q) : WE X e σ H Q := fun pins s I => h.run pins s σ H Q I q
theorem wt_of {t : TT} (h : PT X e t) {σ : L2.St} {H : Hp} {Q : Bool → Hp → Prop} (q : t σ H Q) : WT X e σ H Q := fun pins s I => h.run pins s σ H Q I q
theorem wa_of {t : TA} (h : PA X es t) {σ : L2.St} {H : Hp} {Q : List V → Hp → Prop} (q : t σ H Q) : WA X es σ H Q := fun pos pins s I => h.run pos pins s σ H Q I q
theorem ws_of {t : TS} (h : PSs X ss t) {σ : L2.St} {H : Hp} {D : Ends} (q : t D σ H) : WS X ss D σ H := fun pins s I => h.run pins s σ H D I q
theorem w1_of {t : TS} (h : PS X st t) {σ : L2.St} {H : Hp} {D : Ends} (q : t D σ H) : W1 X st D σ H := fun pins s I => h.run pins s σ H D I q
theorem WE.mono {σ : L2.St} {H : Hp} {Q Q' : VK} (h : WE X e σ H Q) (k : ∀ v H', Q v H' → Q' v H') : WE X e σ H Q' := fun pins s I =>
  thn (h pins s I) fun _ _ ⟨v, H', I', r, q⟩ => ⟨v, H', I', r, k v H' q⟩
theorem WT.mono {σ : L2.St} {H : Hp} {Q Q' : Bool → Hp → Prop} (h : WT X e σ H Q) (k : ∀ v H', Q v H' → Q' v H') : WT X e σ H Q' := fun pins s I =>
  thn (h pins s I) fun _ _ ⟨H', I', q⟩ => ⟨H', I', k _ H' q⟩
theorem WA.mono {σ : L2.St} {H : Hp} {Q Q' : List V → Hp → Prop} (h : WA X es σ H Q) (k : ∀ v H', Q v H' → Q' v H') : WA X es σ H Q' := fun pos pins s I =>
  thn (h pos pins s I) fun _ _ ⟨v, H', I', r, q⟩ => ⟨v, H', I', r, k v H' q⟩
end

/-! ### the judgements -/
structure DE (X : Cx) (C : Ctx) (r : Slo) (m : Sto) (e : Expr) (Φ : D → Sto → Prop) : Prop where
  run : ∀ τ σ H, Rel X.K C r m τ σ H → WE X e σ H fun v H' => ∃ d m', Rel X.K C r m' ((v, d) :: τ) σ H' ∧ Φ d m'
instance {X : Cx} {C : Ctx} {r : Slo} {m : Sto} {e : Expr} {Φ : D → Sto → Prop} : CoeFun (DE X C r m e Φ) (fun _ => ∀ τ σ H, Rel X.K C r m τ σ H → WE X e σ H fun v H' => ∃ d m', Rel X.K C r m' ((v, d) :: τ) σ H' ∧ Φ d m') := ⟨fun h => h.run⟩
structure DT (X : Cx) (C : Ctx) (r : Slo) (m : Sto) (e : Expr) (Φ : Bool → Sto → Prop) : Prop where
  run : ∀ τ σ H, Rel X.K C r m τ σ H → WT X e σ H fun b H' => ∃ m', Rel X.K C r m' τ σ H' ∧ Φ b m'
instance {X : Cx} {C : Ctx} {r : Slo} {m : Sto} {e : Expr} {Φ : Bool → Sto → Prop} : CoeFun (DT X C r m e Φ) (fun _ => ∀ τ σ H, Rel X.K C r m τ σ H → WT X e σ H fun b H' => ∃ m', Rel X.K C r m' τ σ H' ∧ Φ b m') := ⟨fun h => h.run⟩
/-- arguments, from the left -/
structure DA (X : Cx) (C : Ctx) (r : Slo) (m : Sto) (es : List Expr) (Φ : List D → Sto → Prop) : Prop where
  run : ∀ τ σ H, Rel X.K C r m τ σ H → WA X es σ H fun vs H' => ∃ ds m', Rel X.K C r m' τ σ H' ∧ DenL X.K H' m' vs ds ∧ Φ ds m'
instance {X : Cx} {C : Ctx} {r : Slo} {m : Sto} {es : List Expr} {Φ : List D → Sto → Prop} : CoeFun (DA X C r m es Φ) (fun _ => ∀ τ σ H, Rel X.K C r m τ σ H → WA X es σ H fun vs H' => ∃ ds m', Rel X.K C r m' τ σ H' ∧ DenL X.K H' m' vs ds ∧ Φ ds m') := ⟨fun h => h.run⟩
structure Kk where
  nx : Slo → Sto → Prop
  rt : D → Sto → Prop
  bk : Slo → Sto → Prop := fun _ _ => False
  ct : Slo → Sto → Prop := fun _ _ => False
/-- the ends of a block in the layer's words -/
def kE (X : Cx) (C : Ctx) (τ : List (V × D)) (k : Kk) : Ends where
  nx := fun σ H => ∃ r m, Rel X.K C r m τ σ H ∧ k.nx r m
  rt := fun v H => ∃ d m, Base X.K C m H ∧ Den X.K H m v d ∧ k.rt d m
  bk := fun σ H => ∃ r m, Rel X.K C r m τ σ H ∧ k.bk r m
  ct := fun σ H => ∃ r m, Rel X.K C r m τ σ H ∧ k.ct r m
structure DS (X : Cx) (C : Ctx) (r : Slo) (m : Sto) (ss : List Stmt) (k : Kk) : Prop where
  run : ∀ τ σ H, Rel X.K C r m τ σ H → WS X ss (kE X C τ k) σ H
instance {X : Cx} {C : Ctx} {r : Slo} {m : Sto} {ss : List Stmt} {k : Kk} : CoeFun (DS X C r m ss k) (fun _ => ∀ τ σ H, Rel X.K C r m τ σ H → WS X ss (kE X C τ k) σ H) := ⟨fun h => h.run⟩
structure D1 (X : Cx) (C : Ctx) (r : Slo) (m : Sto) (st : Stmt) (k : Kk) : Prop where
  run : ∀ τ σ H, Rel X.K C r m τ σ H → W1 X st (kE X C τ k) σ H
instance {X : Cx} {C : Ctx} {r : Slo} {m : Sto} {st : Stmt} {k : Kk} : CoeFun (D1 X C r m st k) (fun _ => ∀ τ σ H, Rel X.K C r m τ σ H → W1 X st (kE X C τ k) σ H) := ⟨fun h => h.run⟩
/-- only the slots in ws change -/
def Chs (ws : Nat → Prop) (σ σ' : L2.St) : Prop := σ'.length = σ.length ∧ ∀ j, ¬ ws j → σ'[j]? = σ[j]?
/-- a target gets a value -/
def WG (X : Cx) (tg : Expr) : TG := fun v σ H Q => ∀ (pins : List (Addr × Obj)) (s : Shared) (u : Value), Inv X pins σ H s → RelV v u →
  wpAny (model X.prog X.w) X.A (assign tg X.env u) (fun _ s' => ∃ σ' H', Inv X pins σ' H' s' ∧ Q σ' H') X.xe s
structure DG (X : Cx) (C : Ctx) (r : Slo) (m : Sto) (tg : Expr) (d : D) (ws : Nat → Prop) (Φ : Slo → Sto → Prop) : Prop where
  run : ∀ τ σ H v, Rel X.K C r m τ σ H → Den X.K H m v d → WG X tg v σ H fun σ' H' => ∃ r' m', Rel X.K C r' m' τ σ' H' ∧ Chs ws σ σ' ∧ Φ r' m'
instance {X : Cx} {C : Ctx} {r : Slo} {m : Sto} {tg : Expr} {d : D} {ws : Nat → Prop} {Φ : Slo → Sto → Prop} : CoeFun (DG X C r m tg d ws Φ) (fun _ => ∀ τ σ H v, Rel X.K C r m τ σ H → Den X.K H m v d → WG X tg v σ H fun σ' H' => ∃ r' m', Rel X.K C r' m' τ σ' H' ∧ Chs ws σ σ' ∧ Φ r' m') := ⟨fun h => h.run⟩
def WGs (X : Cx) (ts : List Expr) : TGs := fun vs σ H Q => ∀ (pins : List (Addr × Obj)) (s : Shared) (us : List Value), Inv X pins σ H s → Vals vs us →
  wpAny (model X.prog X.w) X.A (assignInOrder ((assignEach ts X.env).map (·.2)) us) (fun _ s' => ∃ σ' H', Inv X pins σ' H' s' ∧ Q σ' H') X.xe s
structure DGs (X : Cx) (C : Ctx) (r : Slo) (m : Sto) (ts : List Expr) (ds : List D) (ws : Nat → Prop) (Φ : Slo → Sto → Prop) : Prop where
  run : ∀ τ σ H vs, Rel X.K C r m τ σ H → DenL X.K H m vs ds → WGs X ts vs σ H fun σ' H' => ∃ r' m', Rel X.K C r' m' τ σ' H' ∧ Chs ws σ σ' ∧ Φ r' m'

instance {X : Cx} {C : Ctx} {r : Slo} {m : Sto} {ts : List Expr} {ds : List D} {ws : Nat → Prop} {Φ : Slo → Sto → Prop} : CoeFun (DGs X C r m ts ds ws Φ) (fun _ => ∀ τ σ H vs, Rel X.K C r m τ σ H → DenL X.K H m vs ds → WGs X ts vs σ H fun σ' H' => ∃ r' m', Rel X.K C r' m' τ σ' H' ∧ Chs ws σ σ' ∧ Φ r' m'
) := ⟨fun h => h.run⟩
section
variable {X : Cx} {C : Ctx} {r : Slo} {m : Sto} {e a b c : Expr} {es : List Expr} {pos : Pos} {Φ Ψ : D → Sto → Prop}
theorem DE.mono (h : DE X C r m e Φ) (k : ∀ d m', Φ d m' → Ψ d m') : DE X C r m e Ψ := ⟨fun τ σ H R =>
  (h τ σ H R).mono fun v H' ⟨d, m', R', q⟩ => ⟨d, m', R', k d m' q⟩⟩
/-- a new list, from here on by value -/
theorem de_freeze (h : DE X C r m e fun d m' => ∃ p xs, d = .loc p ∧ m' p = some (.lst xs) ∧ ∃ m0, Sub m0 m' ∧ m0 p = none ∧ Φ (.lst xs) m0) : DE X C r m e Φ := ⟨fun τ σ H R =>
  (h τ σ H R).mono fun v H' ⟨d, m', R', p, xs, hd, hp, m0, u, hn, q⟩ => by
    subst hd
    have t := R'.top
    cases t
    obtain ⟨vs, h1, h2⟩ := R'.sto p _ hp
    exact ⟨.lst xs, m0, (R'.pop.sub u).push (.lst (.inl ⟨.inl h1, hn⟩) (h2.sub u)), q⟩⟩

/-! ### names and constants -/
theorem de_name {i : Nat} {x : Str} {d : D} (hN : X.N[i]? = some x) (hv : Vis X.env.scope x) (hr : r[i]? = some (some d)) (q : Φ d m)
    (hd : (x == ("__debug__" : Str)) = false := by decide) (hcd : (x == ("__classdict__" : Str)) = false := by decide) : DE X C r m (.Name x pos) Φ := ⟨fun τ σ H R =>
  we_of (pe_var hN hv hd hcd) (let ⟨v, h1, h2⟩ := R.slots i d hr; ⟨v, h1, d, m, R.push h2, q⟩)⟩
theorem de_int {i : Int} {j} (q : Φ (.int i) m) : DE X C r m (.Constant (.int i) j pos) Φ := ⟨fun τ σ H R => we_of pe_int ⟨_, _, R.push (.int i), q⟩⟩
theorem de_bl {i : Bool} {j} (q : Φ (.bl i) m) : DE X C r m (.Constant (.bool i) j pos) Φ := ⟨fun τ σ H R => we_of pe_bl ⟨_, _, R.push (.bl i), q⟩⟩
theorem de_non {j} (q : Φ .non m) : DE X C r m (.Constant .none j pos) Φ := ⟨fun τ σ H R => we_of pe_non ⟨_, _, R.push .non, q⟩⟩
theorem de_str {x : Str} {j} (q : Φ (.str x) m) : DE X C r m (.Constant (.str x) j pos) Φ := ⟨fun τ σ H R => we_of pe_str ⟨_, _, R.push (.str x), q⟩⟩

theorem de_bltn {x : Str} {n : String} (hg : Gl X x) (hm : X.mg x = none) (hv : bootBuiltins x = some (.type n)) (q : Φ (.ty n) m) (hn : x ≠ "__name__" := by decide) (hd : (x == ("__debug__" : Str)) = false := by decide) :
    DE X C r m (.Name x pos) Φ := ⟨fun τ σ H R => we_of (pe_bltn (v := .ty n) hg hm hv rfl hn hd) ⟨_, _, R.push (.ty n), q⟩⟩

/-! ### two operands -/
/-- an operation on the values of two data -/
structure OpD (X : Cx) (C : Ctx) (r : Slo) (f : Value → Value → Sem Value) (d1 d2 : D) (m : Sto) (Φ : D → Sto → Prop) : Prop where
  run : ∀ τ σ H v1 v2, Rel X.K C r m τ σ H → Den X.K H m v1 d1 → Den X.K H m v2 d2 → ∃ rr : R2, OpR X f rr ∧ rr v1 v2 H fun v H' => ∃ d m', Rel X.K C r m' ((v, d) :: τ) σ H' ∧ Φ d m'
instance {X : Cx} {C : Ctx} {r : Slo} {f : Value → Value → Sem Value} {d1 d2 : D} {m : Sto} {Φ : D → Sto → Prop} : CoeFun (OpD X C r f d1 d2 m Φ) (fun _ => ∀ τ σ H v1 v2, Rel X.K C r m τ σ H → Den X.K H m v1 d1 → Den X.K H m v2 d2 → ∃ rr : R2, OpR X f rr ∧ rr v1 v2 H fun v H' => ∃ d m', Rel X.K C r m' ((v, d) :: τ) σ H' ∧ Φ d m') := ⟨fun h => h.run⟩
/-- any of the layer's rules for it, and whatever follows -/
def rAny2 (X : Cx) (f : Value → Value → Sem Value) : R2 := fun x y H Q => ∃ (rr : R2) (Q' : VK), OpR X f rr ∧ rr x y H Q' ∧ ∀ v H', Q' v H' → Q v H'
theorem opr_all {f : Value → Value → Sem Value} : OpR X f (rAny2 X f) := fun pins s σ H x y v u Q I rx ry ⟨rr, Q', ho, q, k⟩ =>
  thn (ho pins s σ H x y v u Q' I rx ry q) fun _ _ ⟨w, H', I', r', q'⟩ => ⟨w, H', I', r', k w H' q'⟩
theorem de_bin {op : Operator} (h : DE X C r m a fun d1 m1 => DE X C r m1 b fun d2 m2 => OpD X C r (binaryOp op) d1 d2 m2 Φ) : DE X C r m (.BinOp a op b pos) Φ := ⟨fun τ σ H R =>
  we_of (pe_op opr_all we_pe we_pe) ((h τ σ H R).mono fun v1 H1 ⟨d1, m1, R1, h1⟩ => (h1 _ σ H1 R1).mono fun v2 H2 ⟨d2, m2, R2, h2⟩ =>
    let ⟨rr, ho, q⟩ := h2 τ σ H2 v1 v2 R2.pop.pop R2.pop.top R2.top; ⟨rr, _, ho, q, fun _ _ z => z⟩)⟩
theorem de_cmp {op : CmpOp} (hm : behindInMarks op b = false) (h : DE X C r m a fun d1 m1 => DE X C r m1 b fun d2 m2 => OpD X C r (compareOp op) d1 d2 m2 Φ) : DE X C r m (.Compare a [op] [b] pos) Φ := ⟨fun τ σ H R =>
  we_of (pe_cmpR opr_all we_pe we_pe hm) ((h τ σ H R).mono fun v1 H1 ⟨d1, m1, R1, h1⟩ => (h1 _ σ H1 R1).mono fun v2 H2 ⟨d2, m2, R2, h2⟩ =>
    let ⟨rr, ho, q⟩ := h2 τ σ H2 v1 v2 R2.pop.pop R2.pop.top R2.top; ⟨rr, _, ho, q, fun _ _ z => z⟩)⟩
/-- a bool that came of an expression -/
theorem bool_end {τ : List (V × D)} {σ : L2.St} {Φ : Bool → Sto → Prop} {v : V} {H' : Hp} (h : ∃ d m', Rel X.K C r m' ((v, d) :: τ) σ H' ∧ ∃ k, d = .bl k ∧ Φ k m') : ∃ k, v = .bl k ∧ ∃ m', Rel X.K C r m' τ σ H' ∧ Φ k m' := by
  obtain ⟨d, m', R, k, rfl, q⟩ := h
  have t := R.top
  cases t
  exact ⟨k, rfl, m', R.pop, q⟩
/-- .. as a test -/
theorem dt_cmp {op : CmpOp} {Φ : Bool → Sto → Prop} (hm : behindInMarks op b = false) (h : DE X C r m a fun d1 m1 => DE X C r m1 b fun d2 m2 => OpD X C r (compareOp op) d1 d2 m2 fun d m' => ∃ k, d = .bl k ∧ Φ k m') :
    DT X C r m (.Compare a [op] [b] pos) Φ := ⟨fun τ σ H R =>
  wt_of (pt_cmpR opr_all we_pe we_pe hm) ((h τ σ H R).mono fun v1 H1 ⟨d1, m1, R1, h1⟩ => (h1 _ σ H1 R1).mono fun v2 H2 ⟨d2, m2, R2, h2⟩ =>
    let ⟨rr, ho, q⟩ := h2 τ σ H2 v1 v2 R2.pop.pop R2.pop.top R2.top; ⟨rr, _, ho, q, fun _ _ z => bool_end z⟩)⟩
/-- a name, a call, a subscript ..: whatever is true or false -/
theorem dt_val {Φ : Bool → Sto → Prop} (h : DE X C r m e fun d m' => ∃ k, d = .bl k ∧ Φ k m') (he : ∀ whole, isTrue e X.env whole = (do let v ← whole; standAt e.pos; holding [v] (truthy v)) := by intro _; rfl) : DT X C r m e Φ := ⟨fun τ σ H R =>
  wt_of (pt_val we_pe he) ((h τ σ H R).mono fun v H' z => bool_end z)⟩

/-! ### and, or, not -/
def WW (X : Cx) (e : Expr) : TT := fun σ H Q => ∀ (whole : Sem Value) (pins : List (Addr × Obj)) (s : Shared), Inv X pins σ H s → wpAny (model X.prog X.w) X.A (isTrue e X.env whole) (TP X pins σ Q) X.xe s
theorem ww_pw : PW X e (WW X e) := ⟨fun whole pins s σ H Q I h => h whole pins s I⟩
theorem ww_of {t : TT} (h : PW X e t) {σ : L2.St} {H : Hp} {Q : Bool → Hp → Prop} (q : t σ H Q) : WW X e σ H Q := fun whole pins s I => h.run whole pins s σ H Q I q
theorem WW.mono {σ : L2.St} {H : Hp} {Q Q' : Bool → Hp → Prop} (h : WW X e σ H Q) (k : ∀ v H', Q v H' → Q' v H') : WW X e σ H Q' := fun whole pins s I =>
  thn (h whole pins s I) fun _ _ ⟨H', I', q⟩ => ⟨H', I', k _ H' q⟩
structure DW (X : Cx) (C : Ctx) (r : Slo) (m : Sto) (e : Expr) (Φ : Bool → Sto → Prop) : Prop where
  run : ∀ τ σ H, Rel X.K C r m τ σ H → WW X e σ H fun b H' => ∃ m', Rel X.K C r m' τ σ H' ∧ Φ b m'
instance {X : Cx} {C : Ctx} {r : Slo} {m : Sto} {e : Expr} {Φ : Bool → Sto → Prop} : CoeFun (DW X C r m e Φ) (fun _ => ∀ τ σ H, Rel X.K C r m τ σ H → WW X e σ H fun b H' => ∃ m', Rel X.K C r m' τ σ H' ∧ Φ b m') := ⟨fun h => h.run⟩
variable {Φ' : Bool → Sto → Prop} {rest : List Expr}
theorem dt_dw (h : DW X C r m e Φ') : DT X C r m e Φ' := ⟨fun τ σ H R => wt_of ww_pw.pt (h τ σ H R)⟩
theorem dw_and1 (h : DT X C r m a Φ') : DW X C r m (.BoolOp .And [a] pos) Φ' := ⟨fun τ σ H R => ww_of (pw_and1 wt_pt) (h τ σ H R)⟩
theorem dw_or1 (h : DT X C r m a Φ') : DW X C r m (.BoolOp .Or [a] pos) Φ' := ⟨fun τ σ H R => ww_of (pw_or1 wt_pt) (h τ σ H R)⟩
theorem dw_and (h : DT X C r m a fun k m1 => (k = true → DW X C r m1 (.BoolOp .And (b :: rest) pos) Φ') ∧ (k = false → Φ' false m1)) : DW X C r m (.BoolOp .And (a :: b :: rest) pos) Φ' := ⟨fun τ σ H R =>
  ww_of (pw_and wt_pt ww_pw) ((h τ σ H R).mono fun k H1 ⟨m1, R1, h1, h2⟩ => by
    cases k with
    | true => rw [if_pos rfl]; exact h1 rfl τ σ H1 R1
    | false => rw [if_neg Bool.false_ne_true]; exact ⟨m1, R1, h2 rfl⟩)⟩
theorem dw_or (h : DT X C r m a fun k m1 => (k = true → Φ' true m1) ∧ (k = false → DW X C r m1 (.BoolOp .Or (b :: rest) pos) Φ')) : DW X C r m (.BoolOp .Or (a :: b :: rest) pos) Φ' := ⟨fun τ σ H R =>
  ww_of (pw_or wt_pt ww_pw) ((h τ σ H R).mono fun k H1 ⟨m1, R1, h1, h2⟩ => by
    cases k with
    | true => rw [if_pos rfl]; exact ⟨m1, R1, h1 rfl⟩
    | false => rw [if_neg Bool.false_ne_true]; exact h2 rfl τ σ H1 R1)⟩
theorem dt_not (h : DT X C r m a fun k m1 => Φ' (!k) m1) : DT X C r m (.UnaryOp .Not a pos) Φ' := ⟨fun τ σ H R =>
  wt_of (pt_not wt_pt) ((h τ σ H R).mono fun k H1 ⟨m1, R1, h1⟩ => ⟨m1, R1, h1⟩)⟩
theorem de_one {op : BoolOp} (h : DE X C r m a Φ) : DE X C r m (.BoolOp op [a] pos) Φ := ⟨fun τ σ H R => we_of (pe_one we_pe) (h τ σ H R)⟩
theorem de_and (h : DE X C r m a fun d m1 => ∃ k, d = .bl k ∧ (k = true → DE X C r m1 (.BoolOp .And (b :: rest) pos) Φ) ∧ (k = false → Φ (.bl false) m1)) : DE X C r m (.BoolOp .And (a :: b :: rest) pos) Φ := ⟨fun τ σ H R =>
  we_of (pe_and we_pe we_pe) ((h τ σ H R).mono fun v H1 ⟨d, m1, R1, k, e1, h1, h2⟩ => by
    subst e1
    have t := R1.top
    cases t
    refine ⟨k, rfl, ?_⟩
    cases k with
    | true => rw [if_pos rfl]; exact h1 rfl τ σ H1 R1.pop
    | false => rw [if_neg Bool.false_ne_true]; exact ⟨_, m1, R1.pop.push (.bl false), h2 rfl⟩)⟩
theorem de_or (h : DE X C r m a fun d m1 => ∃ k, d = .bl k ∧ (k = true → Φ (.bl true) m1) ∧ (k = false → DE X C r m1 (.BoolOp .Or (b :: rest) pos) Φ)) : DE X C r m (.BoolOp .Or (a :: b :: rest) pos) Φ := ⟨fun τ σ H R =>
  we_of (pe_or we_pe we_pe) ((h τ σ H R).mono fun v H1 ⟨d, m1, R1, k, e1, h1, h2⟩ => by
    subst e1
    have t := R1.top
    cases t
    refine ⟨k, rfl, ?_⟩
    cases k with
    | true => rw [if_pos rfl]; exact ⟨_, m1, R1.pop.push (.bl true), h1 rfl⟩
    | false => rw [if_neg Bool.false_ne_true]; exact h2 rfl τ σ H1 R1.pop)⟩
theorem de_not (h : DE X C r m a fun d m1 => ∃ k, d = .bl k ∧ Φ (.bl (!k)) m1) : DE X C r m (.UnaryOp .Not a pos) Φ := ⟨fun τ σ H R =>
  we_of (pe_not we_pe) ((h τ σ H R).mono fun v H1 ⟨d, m1, R1, k, e1, h1⟩ => by
    subst e1
    have t := R1.top
    cases t
    exact ⟨k, rfl, _, m1, R1.pop.push (.bl (!k)), h1⟩)⟩
theorem de_neg (h : DE X C r m a fun d m1 => ∃ i, d = .int i ∧ Φ (.int (-i)) m1) : DE X C r m (.UnaryOp .USub a pos) Φ := ⟨fun τ σ H R =>
  we_of (pe_un un_neg we_pe) ((h τ σ H R).mono fun v H1 ⟨d, m1, R1, k, e1, h1⟩ => by
    subst e1
    have t := R1.top
    cases t
    exact ⟨k, rfl, _, m1, R1.pop.push (.int (-k)), h1⟩)⟩
theorem de_if (h : DT X C r m c fun k m1 => (k = true → DE X C r m1 a Φ) ∧ (k = false → DE X C r m1 b Φ)) : DE X C r m (.IfExp c a b pos) Φ := ⟨fun τ σ H R =>
  we_of (pe_ifExp wt_pt we_pe we_pe) ((h τ σ H R).mono fun k H1 ⟨m1, R1, h1, h2⟩ => by
    cases k with
    | true => rw [if_pos rfl]; exact h1 rfl τ σ H1 R1
    | false => rw [if_neg Bool.false_ne_true]; exact h2 rfl τ σ H1 R1)⟩
/-- a op1 b op2 c -/
theorem de_chain {o1 o2 : CmpOp} (hm : lastMarks [o1, o2] [b, c] = false) (h : DE X C r m a fun d1 m1 => DE X C r m1 b fun d2 m2 => OpD X C r (compareOp o1) d1 d2 m2 fun d m3 => ∃ k, d = .bl k ∧
    (k = true → DE X C r m3 c fun d3 m4 => OpD X C r (compareOp o2) d2 d3 m4 Φ) ∧ (k = false → Φ (.bl false) m3)) : DE X C r m (.Compare a [o1, o2] [b, c] pos) Φ := ⟨fun τ σ H R =>
  we_of (pe_chain opr_all opr_all we_pe we_pe we_pe hm) ((h τ σ H R).mono fun v1 H1 ⟨d1, m1, R1, h1⟩ => (h1 _ σ H1 R1).mono fun v2 H2 ⟨d2, m2, R2, h2⟩ => by
    obtain ⟨rr, ho, q⟩ := h2 ((v2, d2) :: τ) σ H2 v1 v2 (R2.pop.pop.push R2.top) R2.pop.top R2.top
    refine ⟨rr, _, ho, q, fun v H3 ⟨d, m3, R3, k, e3, h3, h4⟩ => ?_⟩
    subst e3
    have t := R3.top
    cases t
    refine ⟨k, rfl, ?_⟩
    cases k with
    | true =>
      rw [if_pos rfl]
      refine (h3 rfl _ σ H3 R3.pop).mono fun v3 H4 ⟨d3, m4, R4, h5⟩ => ?_
      obtain ⟨rr', ho', q'⟩ := h5 τ σ H4 v2 v3 R4.pop.pop R4.pop.top R4.top
      exact ⟨rr', _, ho', q', fun _ _ z => z⟩
    | false => rw [if_neg Bool.false_ne_true]; exact ⟨_, m3, R3.pop.pop.push (.bl false), h4 rfl⟩)⟩
theorem dt_chain {o1 o2 : CmpOp} (hm : lastMarks [o1, o2] [b, c] = false) (h : DE X C r m a fun d1 m1 => DE X C r m1 b fun d2 m2 => OpD X C r (compareOp o1) d1 d2 m2 fun d m3 => ∃ k, d = .bl k ∧
    (k = true → DE X C r m3 c fun d3 m4 => OpD X C r (compareOp o2) d2 d3 m4 fun d m' => ∃ k, d = .bl k ∧ Φ' k m') ∧ (k = false → Φ' false m3)) : DT X C r m (.Compare a [o1, o2] [b, c] pos) Φ' := ⟨fun τ σ H R =>
  wt_of (pt_chain opr_all opr_all we_pe we_pe we_pe hm) ((h τ σ H R).mono fun v1 H1 ⟨d1, m1, R1, h1⟩ => (h1 _ σ H1 R1).mono fun v2 H2 ⟨d2, m2, R2, h2⟩ => by
    obtain ⟨rr, ho, q⟩ := h2 ((v2, d2) :: τ) σ H2 v1 v2 (R2.pop.pop.push R2.top) R2.pop.top R2.top
    refine ⟨rr, _, ho, q, fun v H3 ⟨d, m3, R3, k, e3, h3, h4⟩ => ?_⟩
    subst e3
    have t := R3.top
    cases t
    refine ⟨k, rfl, ?_⟩
    cases k with
    | true =>
      rw [if_pos rfl]
      refine (h3 rfl _ σ H3 R3.pop).mono fun v3 H4 ⟨d3, m4, R4, h5⟩ => ?_
      obtain ⟨rr', ho', q'⟩ := h5 τ σ H4 v2 v3 R4.pop.pop R4.pop.top R4.top
      exact ⟨rr', _, ho', q', fun _ _ z => bool_end z⟩
    | false => rw [if_neg Bool.false_ne_true]; exact ⟨false, rfl, m3, R3.pop.pop, h4 rfl⟩)⟩

/-! ### arguments, displays -/
theorem da_nil {Φ : List D → Sto → Prop} (q : Φ [] m) : DA X C r m [] Φ := ⟨fun τ σ H R => wa_of pa_nil ⟨[], m, R, .nil, q⟩⟩
theorem Rel.popL {K : PySem.W.Frag} {m : Sto} {τ : List (V × D)} {σ : L2.St} {H : Hp} : ∀ {vs : List V} {ds : List D}, Rel K C r m (vs.zip ds ++ τ) σ H → Rel K C r m τ σ H := fun {vs ds} R => ⟨R.toBase, R.slots, R.len, fun p hp => R.tmp p (List.mem_append_right _ hp)⟩
theorem da_cons {Φ : List D → Sto → Prop} (h : DE X C r m e fun d m1 => DA X C r m1 es fun ds m2 => Φ (d :: ds) m2) (hs : starEach (e :: es) X.env = (false, eval e X.env) :: starEach es X.env := by rfl) : DA X C r m (e :: es) Φ := ⟨fun τ σ H R =>
  wa_of (pa_cons we_pe wa_pa hs) ((h τ σ H R).mono fun v1 H1 ⟨d1, m1, R1, h1⟩ => (h1 _ σ H1 R1).mono fun vs H2 ⟨ds, m2, R2, hl, h2⟩ =>
    ⟨d1 :: ds, m2, R2.pop, .cons R2.top hl, h2⟩)⟩
theorem DA.mono {Φ Φ' : List D → Sto → Prop} (h : DA X C r m es Φ) (k : ∀ d m', Φ d m' → Φ' d m') : DA X C r m es Φ' := ⟨fun τ σ H R =>
  (h τ σ H R).mono fun v H' ⟨d, m', R', l, q⟩ => ⟨d, m', R', l, k d m' q⟩⟩
theorem DT.mono {Φ Φ' : Bool → Sto → Prop} (h : DT X C r m e Φ) (k : ∀ d m', Φ d m' → Φ' d m') : DT X C r m e Φ' := ⟨fun τ σ H R =>
  (h τ σ H R).mono fun v H' ⟨m', R', q⟩ => ⟨m', R', k _ m' q⟩⟩
theorem Rel.newTup {K : PySem.W.Frag} {τ : List (V × D)} {σ : L2.St} {H : Hp} {p : Addr} {vs : List V} {ds : List D} (R : Rel K C r m τ σ H) (h : H p = none) (l : DenL K H m vs ds) : Rel K C r m ((.ref p, .tup ds) :: τ) σ (upd H p (.tup vs)) :=
  (R.step (ext_new h) .refl (sto_push R.sto h)).push (.tup (.inl (.inl upd_same)) (l.ext R.sto (ext_new h) .refl))
theorem Rel.newLst {K : PySem.W.Frag} {τ : List (V × D)} {σ : L2.St} {H : Hp} {p : Addr} {vs : List V} {ds : List D} (R : Rel K C r m τ σ H) (h : H p = none) (l : DenL K H m vs ds) : Rel K C r m ((.ref p, .lst ds) :: τ) σ (upd H p (.lst vs)) :=
  (R.step (ext_new h) .refl (sto_push R.sto h)).push (.lst (.inl ⟨.inl upd_same, sto_free R.sto h⟩) (l.ext R.sto (ext_new h) .refl))
theorem Rel.newLoc {K : PySem.W.Frag} {τ : List (V × D)} {σ : L2.St} {H : Hp} {p : Addr} {vs : List V} {ds : List D} (R : Rel K C r m τ σ H) (h : H p = none) (l : DenL K H m vs ds) : Rel K C r (up m p (.lst ds)) ((.ref p, .loc p) :: τ) σ (upd H p (.lst vs)) :=
  (R.step (ext_new h) (dom_new h) (sto_new R.sto h l)).push (.loc p)
theorem de_tup {k : Nat} (h : DA X C r m es fun ds m' => ds.length ≤ sizeLine ∧ Φ (.tup ds) m') : DE X C r m (.Tuple es k pos) Φ := ⟨fun τ σ H R =>
  we_of (pe_tup wa_pa) ((h τ σ H R).mono fun vs H1 ⟨ds, m1, R1, l, z, q⟩ => ⟨by rw [l.length]; exact z, fun p hp => ⟨_, m1, R1.newTup hp l, q⟩⟩)⟩
theorem de_lst (h : DA X C r m es fun ds m' => ds.length ≤ sizeLine ∧ Φ (.lst ds) m') : DE X C r m (.List es pos) Φ := ⟨fun τ σ H R =>
  we_of (pe_lst wa_pa) ((h τ σ H R).mono fun vs H1 ⟨ds, m1, R1, l, z, q⟩ => ⟨by rw [l.length]; exact z, fun p hp => ⟨_, m1, R1.newLst hp l, q⟩⟩)⟩
theorem de_lstL (h : DA X C r m es fun ds m' => ds.length ≤ sizeLine ∧ ∀ p, m' p = none → Φ (.loc p) (up m' p (.lst ds))) : DE X C r m (.List es pos) Φ := ⟨fun τ σ H R =>
  we_of (pe_lst wa_pa) ((h τ σ H R).mono fun vs H1 ⟨ds, m1, R1, l, z, q⟩ => ⟨by rw [l.length]; exact z, fun p hp => ⟨_, _, R1.newLoc hp l, q p (sto_free R1.sto hp)⟩⟩)⟩

/-! ### subscripts, slices -/
structure IxD (X : Cx) (C : Ctx) (r : Slo) (d1 d2 : D) (m : Sto) (Φ : D → Sto → Prop) : Prop where
  run : ∀ τ σ H v1 v2, Rel X.K C r m τ σ H → Den X.K H m v1 d1 → Den X.K H m v2 d2 → ∃ rr : R2, IxR X rr ∧ rr v1 v2 H fun v H' => ∃ d m', Rel X.K C r m' ((v, d) :: τ) σ H' ∧ Φ d m'
instance {X : Cx} {C : Ctx} {r : Slo} {d1 d2 : D} {m : Sto} {Φ : D → Sto → Prop} : CoeFun (IxD X C r d1 d2 m Φ) (fun _ => ∀ τ σ H v1 v2, Rel X.K C r m τ σ H → Den X.K H m v1 d1 → Den X.K H m v2 d2 → ∃ rr : R2, IxR X rr ∧ rr v1 v2 H fun v H' => ∃ d m', Rel X.K C r m' ((v, d) :: τ) σ H' ∧ Φ d m') := ⟨fun h => h.run⟩
theorem ixr_all : IxR X fun x y H Q => ∃ rr : R2, IxR X rr ∧ rr x y H Q := fun value slice pins s σ H x y v u Q I rx ry ⟨rr, ho, q⟩ hs => ho value slice pins s σ H x y v u Q I rx ry q hs
theorem de_ix (h : DE X C r m a fun d1 m1 => DE X C r m1 b fun d2 m2 => IxD X C r d1 d2 m2 Φ) (hs : PlainIx b := by exact fun _ _ => rfl) : DE X C r m (.Subscript a b pos) Φ := ⟨fun τ σ H R =>
  we_of (pe_ix ixr_all we_pe we_pe hs) ((h τ σ H R).mono fun v1 H1 ⟨d1, m1, R1, h1⟩ => (h1 _ σ H1 R1).mono fun v2 H2 ⟨d2, m2, R2, h2⟩ =>
    h2 τ σ H2 v1 v2 R2.pop.pop R2.pop.top R2.top)⟩
theorem atI_den {K : PySem.W.Frag} {H : Hp} {m : Sto} {vs : List V} {ds : List D} {i : Int} {d : D} (l : DenL K H m vs ds) (h : atI ds i = some d) : ∃ v, atI vs i = some v ∧ Den K H m v d := by
  unfold atI at h ⊢
  rw [l.length]
  cases e : ixN ds.length i with
  | none => rw [e] at h; cases h
  | some j =>
    rw [e] at h
    have h : ds[j]? = some d := h
    obtain ⟨v, h1, h2⟩ := l.get h
    exact ⟨v, h1, h2⟩
theorem ix_t {xs : List D} {i : Int} {d : D} (h : atI xs i = some d) (q : Φ d m) : IxD X C r (.tup xs) (.int i) m Φ := ⟨fun τ σ H v1 v2 R t1 t2 => by
  cases t1 with
  | tup hs l =>
    cases t2
    obtain ⟨v, h1, h2⟩ := atI_den l h
    exact ⟨_, ix_tup, _, _, _, _, rfl, rfl, hs, h1, d, m, R.push h2, q⟩⟩
theorem ix_l {xs : List D} {i : Int} {d : D} (h : atI xs i = some d) (q : Φ d m) : IxD X C r (.lst xs) (.int i) m Φ := ⟨fun τ σ H v1 v2 R t1 t2 => by
  cases t1 with
  | lst hs l =>
    cases t2
    obtain ⟨v, h1, h2⟩ := atI_den l h
    exact ⟨_, ix_list, _, _, _, _, rfl, rfl, hs.sq, h1, d, m, R.push h2, q⟩⟩
theorem ix_p {p : Addr} {xs : List D} {i : Int} {d : D} (hp : m p = some (.lst xs)) (h : atI xs i = some d) (q : Φ d m) : IxD X C r (.loc p) (.int i) m Φ := ⟨fun τ σ H v1 v2 R t1 t2 => by
  cases t1
  cases t2
  obtain ⟨vs, hv, l⟩ := R.sto p _ hp
  obtain ⟨v, h1, h2⟩ := atI_den l h
  exact ⟨_, ix_list, _, _, _, _, rfl, rfl, SqL.of hv, h1, d, m, R.push h2, q⟩⟩
theorem ix_s {z : Str} {i : Int} {c : Nat} (hz : z.length ≤ sizeLine) (h : atI z.cps.toList i = some c) (q : Φ (.str ⟨#[c]⟩) m) : IxD X C r (.str z) (.int i) m Φ := ⟨fun τ σ H v1 v2 R t1 t2 => by
  cases t1
  cases t2
  exact ⟨_, ix_str, _, _, _, rfl, rfl, hz, h, _, m, R.push (.str _), q⟩⟩
/-- an optional part of a slice -/
def WP (X : Cx) (e : Option Expr) : TO := fun σ H Q => ∀ (pins : List (Addr × Obj)) (s : Shared), Inv X pins σ H s → wpAny (model X.prog X.w) X.A (evalPart e X.env) (fun u s' => ∃ o H', Inv X pins σ H' s' ∧ IsPart u o ∧ Q o H') X.xe s
theorem wp_po {e : Option Expr} : PO X e (WP X e) := ⟨fun pins s σ H Q I h => h pins s I⟩
theorem wp_of {e : Option Expr} {t : TO} (h : PO X e t) {σ : L2.St} {H : Hp} {Q : Option Int → Hp → Prop} (q : t σ H Q) : WP X e σ H Q := fun pins s I => h.run pins s σ H Q I q
theorem WP.mono {e : Option Expr} {σ : L2.St} {H : Hp} {Q Q' : Option Int → Hp → Prop} (h : WP X e σ H Q) (k : ∀ v H', Q v H' → Q' v H') : WP X e σ H Q' := fun pins s I =>
  thn (h pins s I) fun _ _ ⟨v, H', I', r, q⟩ => ⟨v, H', I', r, k v H' q⟩
structure DP (X : Cx) (C : Ctx) (r : Slo) (m : Sto) (e : Option Expr) (Φ : Option Int → Sto → Prop) : Prop where
  run : ∀ τ σ H, Rel X.K C r m τ σ H → WP X e σ H fun o H' => ∃ m', Rel X.K C r m' τ σ H' ∧ Φ o m'
instance {X : Cx} {C : Ctx} {r : Slo} {m : Sto} {e : Option Expr} {Φ : Option Int → Sto → Prop} : CoeFun (DP X C r m e Φ) (fun _ => ∀ τ σ H, Rel X.K C r m τ σ H → WP X e σ H fun o H' => ∃ m', Rel X.K C r m' τ σ H' ∧ Φ o m') := ⟨fun h => h.run⟩
theorem dp_none {Φ : Option Int → Sto → Prop} (q : Φ none m) : DP X C r m none Φ := ⟨fun τ σ H R => wp_of po_none ⟨m, R, q⟩⟩
theorem dp_some {Φ : Option Int → Sto → Prop} (h : DE X C r m e fun d m' => ∃ i, d = .int i ∧ Φ (some i) m') : DP X C r m (some e) Φ := ⟨fun τ σ H R =>
  wp_of (po_some we_pe) ((h τ σ H R).mono fun v H1 ⟨d, m1, R1, i, e1, q⟩ => by
    subst e1
    have t := R1.top
    cases t
    exact ⟨i, rfl, m1, R1.pop, q⟩)⟩
structure SlD (X : Cx) (C : Ctx) (r : Slo) (d : D) (lo hi : Option Int) (m : Sto) (Φ : D → Sto → Prop) : Prop where
  run : ∀ τ σ H v, Rel X.K C r m τ σ H → Den X.K H m v d → ∃ rr, SlR X rr ∧ rr v lo hi H fun v H' => ∃ d m', Rel X.K C r m' ((v, d) :: τ) σ H' ∧ Φ d m'
instance {X : Cx} {C : Ctx} {r : Slo} {d : D} {lo hi : Option Int} {m : Sto} {Φ : D → Sto → Prop} : CoeFun (SlD X C r d lo hi m Φ) (fun _ => ∀ τ σ H v, Rel X.K C r m τ σ H → Den X.K H m v d → ∃ rr, SlR X rr ∧ rr v lo hi H fun v H' => ∃ d m', Rel X.K C r m' ((v, d) :: τ) σ H' ∧ Φ d m') := ⟨fun h => h.run⟩
theorem slr_all : SlR X fun x lo hi H Q => ∃ rr, SlR X rr ∧ rr x lo hi H Q := fun pins s σ H x v vl vu lo hi sl Q I rx h1 h2 h3 ⟨rr, ho, q⟩ => ho pins s σ H x v vl vu lo hi sl Q I rx h1 h2 h3 q
theorem de_sl {lo hi : Option Expr} {p2 : Pos} (h : DE X C r m a fun d m1 => DP X C r m1 lo fun l m2 => DP X C r m2 hi fun u m3 => SlD X C r d l u m3 Φ) : DE X C r m (.Subscript a (.Slice lo hi none p2) pos) Φ := ⟨fun τ σ H R =>
  we_of (pe_slice slr_all we_pe wp_po wp_po) ((h τ σ H R).mono fun v H1 ⟨d, m1, R1, h1⟩ => (h1 _ σ H1 R1).mono fun l H2 ⟨m2, R2, h2⟩ => (h2 _ σ H2 R2).mono fun u H3 ⟨m3, R3, h3⟩ =>
    h3 τ σ H3 v R3.pop R3.top)⟩
/-- xs[lo:hi] -/
def cutD {α : Type} (xs : List α) (lo hi : Option Int) : List α := (xs.drop (HT.sIx xs.length 0 lo)).take (HT.sIx xs.length xs.length hi - HT.sIx xs.length 0 lo)
theorem cut_den {K : PySem.W.Frag} {H : Hp} {m : Sto} {vs : List V} {ds : List D} {lo hi : Option Int} (l : DenL K H m vs ds) : DenL K H m (cutV vs lo hi) (cutD ds lo hi) := by
  unfold cutV cutD
  rw [l.length]
  exact (l.drop _).take _
theorem sl_l {xs : List D} {lo hi : Option Int} (q : Φ (.lst (cutD xs lo hi)) m) : SlD X C r (.lst xs) lo hi m Φ := ⟨fun τ σ H v R t => by
  cases t with
  | lst hs l => exact ⟨_, sl_list, _, _, rfl, hs.sq, fun p hp => ⟨_, m, R.newLst hp (cut_den l), q⟩⟩⟩
theorem sl_p {p : Addr} {xs : List D} {lo hi : Option Int} (h : m p = some (.lst xs)) (q : Φ (.lst (cutD xs lo hi)) m) : SlD X C r (.loc p) lo hi m Φ := ⟨fun τ σ H v R t => by
  cases t
  obtain ⟨vs, hv, l⟩ := R.sto p _ h
  exact ⟨_, sl_list, _, _, rfl, SqL.of hv, fun p hp => ⟨_, m, R.newLst hp (cut_den l), q⟩⟩⟩
/-- a tuple's slice: the whole is the same object -/
theorem sl_t {xs : List D} {lo hi : Option Int} (hn : ¬ (HT.sIx xs.length 0 lo = 0 ∧ HT.sIx xs.length xs.length hi = xs.length)) (q : Φ (.tup (cutD xs lo hi)) m) : SlD X C r (.tup xs) lo hi m Φ := ⟨fun τ σ H v R t => by
  cases t with
  | tup hs l => exact ⟨_, sl_tup, _, _, rfl, hs, by rw [l.length]; exact hn, fun p hp => ⟨_, m, R.newTup hp (cut_den l), q⟩⟩⟩

/-! ### what two data give -/
theorem od_addI {i j : Int} (q : Φ (.int (i + j)) m) : OpD X C r (binaryOp .Add) (.int i) (.int j) m Φ := ⟨fun τ σ H v1 v2 R t1 t2 => by
  cases t1; cases t2; exact ⟨_, op_add, i, j, rfl, rfl, _, m, R.push (.int _), q⟩⟩
theorem od_subI {i j : Int} (q : Φ (.int (i - j)) m) : OpD X C r (binaryOp .Sub) (.int i) (.int j) m Φ := ⟨fun τ σ H v1 v2 R t1 t2 => by
  cases t1; cases t2; exact ⟨_, op_sub, i, j, rfl, rfl, _, m, R.push (.int _), q⟩⟩
theorem od_mulI {i j : Int} (hc : CMulW i j) (q : Φ (.int (i * j)) m) : OpD X C r (binaryOp .Mult) (.int i) (.int j) m Φ := ⟨fun τ σ H v1 v2 R t1 t2 => by
  cases t1; cases t2; exact ⟨_, op_mulW, i, j, rfl, rfl, hc, _, m, R.push (.int _), q⟩⟩
theorem od_fdivI {i j : Int} (hc : CDivW i j) (q : Φ (.int (i / j)) m) : OpD X C r (binaryOp .FloorDiv) (.int i) (.int j) m Φ := ⟨fun τ σ H v1 v2 R t1 t2 => by
  cases t1; cases t2; exact ⟨_, op_fdivW, i, j, rfl, rfl, hc, _, m, R.push (.int _), q⟩⟩
theorem od_modI {i j : Int} (hc : 0 < j) (q : Φ (.int (i % j)) m) : OpD X C r (binaryOp .Mod) (.int i) (.int j) m Φ := ⟨fun τ σ H v1 v2 R t1 t2 => by
  cases t1; cases t2; exact ⟨_, op_mod, i, j, rfl, rfl, hc, _, m, R.push (.int _), q⟩⟩
theorem od_powI {i j : Int} (hc : CPow i j) (q : Φ (.int (i ^ j.toNat)) m) : OpD X C r (binaryOp .Pow) (.int i) (.int j) m Φ := ⟨fun τ σ H v1 v2 R t1 t2 => by
  cases t1; cases t2; exact ⟨_, op_pow, i, j, rfl, rfl, hc, _, m, R.push (.int _), q⟩⟩
theorem od_andI {i j : Int} (q : Φ (.int (Builtin.bitAnd i j)) m) : OpD X C r (binaryOp .BitAnd) (.int i) (.int j) m Φ := ⟨fun τ σ H v1 v2 R t1 t2 => by
  cases t1; cases t2; exact ⟨_, op_and, i, j, rfl, rfl, _, m, R.push (.int _), q⟩⟩
theorem od_addS {i j : Str} (hz : i.length + j.length ≤ sizeLine) (q : Φ (.str (i ++ j)) m) : OpD X C r (binaryOp .Add) (.str i) (.str j) m Φ := ⟨fun τ σ H v1 v2 R t1 t2 => by
  cases t1; cases t2; exact ⟨_, op_add_str, i, j, rfl, rfl, hz, _, m, R.push (.str _), q⟩⟩
/-- a list (by value or mutable) as it is read -/
def LstOf (m : Sto) (d : D) (xs : List D) : Prop := d = .lst xs ∨ ∃ p, d = .loc p ∧ m p = some (.lst xs)
theorem lst_of {K : PySem.W.Frag} {H : Hp} {v : V} {d : D} {xs : List D} (s : StoRel K H m) (t : Den K H m v d) (h : LstOf m d xs) : ∃ p vs, v = .ref p ∧ SqL K H p vs ∧ DenL K H m vs xs := by
  rcases h with rfl | ⟨p, rfl, hp⟩
  · cases t with
    | lst hs l => exact ⟨_, _, rfl, hs.sq, l⟩
  · cases t
    obtain ⟨vs, hv, l⟩ := s p _ hp
    exact ⟨_, _, rfl, .inl (.inl hv), l⟩
theorem od_lt {i j : Int} (q : Φ (.bl (decide (i < j))) m) : OpD X C r (compareOp .Lt) (.int i) (.int j) m Φ := ⟨fun τ σ H v1 v2 R t1 t2 => by
  cases t1; cases t2; exact ⟨_, op_lt, i, j, rfl, rfl, _, m, R.push (.bl _), q⟩⟩
theorem od_le {i j : Int} (q : Φ (.bl (decide (i ≤ j))) m) : OpD X C r (compareOp .LtE) (.int i) (.int j) m Φ := ⟨fun τ σ H v1 v2 R t1 t2 => by
  cases t1; cases t2; exact ⟨_, op_le, i, j, rfl, rfl, _, m, R.push (.bl _), q⟩⟩
theorem od_gt {i j : Int} (q : Φ (.bl (decide (j < i))) m) : OpD X C r (compareOp .Gt) (.int i) (.int j) m Φ := ⟨fun τ σ H v1 v2 R t1 t2 => by
  cases t1; cases t2; exact ⟨_, op_gt, i, j, rfl, rfl, _, m, R.push (.bl _), q⟩⟩
theorem od_ge {i j : Int} (q : Φ (.bl (decide (j ≤ i))) m) : OpD X C r (compareOp .GtE) (.int i) (.int j) m Φ := ⟨fun τ σ H v1 v2 R t1 t2 => by
  cases t1; cases t2; exact ⟨_, op_ge, i, j, rfl, rfl, _, m, R.push (.bl _), q⟩⟩
/-- == of two scalars -/
def scD : D → D → Option Bool
  | .non, .non => some true | .non, .int _ => some false | .int _, .non => some false | .non, .bl _ => some false | .bl _, .non => some false | .non, .str _ => some false | .str _, .non => some false
  | .int i, .int j => some (decide (i = j)) | .bl i, .bl j => some (decide (i = j)) | .str i, .str j => some (decide (i = j))
  | .int _, .str _ => some false | .str _, .int _ => some false | .bl _, .str _ => some false | .str _, .bl _ => some false
  | _, _ => none
theorem scal_of {K : PySem.W.Frag} {H : Hp} {v1 v2 : V} {d1 d2 : D} {k : Bool} (t1 : Den K H m v1 d1) (t2 : Den K H m v2 d2) (h : scD d1 d2 = some k) : scal v1 v2 = true ∧ decide (v1 = v2) = k := by
  cases t1 <;> cases t2 <;> first
    | (cases h; done)
    | (have e := Option.some.inj h; subst e; refine ⟨rfl, ?_⟩; simp)
theorem od_eqC {d1 d2 : D} {k : Bool} (h : scD d1 d2 = some k) (q : Φ (.bl k) m) : OpD X C r (compareOp .Eq) d1 d2 m Φ := ⟨fun τ σ H v1 v2 R t1 t2 => by
  obtain ⟨h1, h2⟩ := scal_of t1 t2 h
  exact ⟨_, op_eq, h1, by rw [h2]; exact ⟨_, m, R.push (.bl _), q⟩⟩⟩
theorem od_neC {d1 d2 : D} {k : Bool} (h : scD d1 d2 = some k) (q : Φ (.bl (!k)) m) : OpD X C r (compareOp .NotEq) d1 d2 m Φ := ⟨fun τ σ H v1 v2 R t1 t2 => by
  obtain ⟨h1, h2⟩ := scal_of t1 t2 h
  exact ⟨_, op_ne, h1, by rw [h2]; exact ⟨_, m, R.push (.bl _), q⟩⟩⟩
/-- is None -/
def isN : D → Bool
  | .non => true
  | _ => false
theorem isN_of {K : PySem.W.Frag} {H : Hp} {v : V} {d : D} (t : Den K H m v d) : decide (v = .non) = isN d := by
  cases t <;> simp [isN]
theorem od_isN {d : D} (q : Φ (.bl (isN d)) m) : OpD X C r (compareOp .Is) d .non m Φ := ⟨fun τ σ H v1 v2 R t1 t2 => by
  cases t2
  exact ⟨_, op_isN, rfl, by rw [isN_of t1]; exact ⟨_, m, R.push (.bl _), q⟩⟩⟩
theorem od_notN {d : D} (q : Φ (.bl (!isN d)) m) : OpD X C r (compareOp .IsNot) d .non m Φ := ⟨fun τ σ H v1 v2 R t1 t2 => by
  cases t2
  exact ⟨_, op_notN, rfl, by rw [isN_of t1]; exact ⟨_, m, R.push (.bl _), q⟩⟩⟩
/-! data of the model's own kind: by value all through -/
mutual
def py : D → Option PyData
  | .non => some .none
  | .bl b => some (.bool b)
  | .int i => some (.int i)
  | .str s => some (.str s)
  | .tup xs => (pyL xs).map .tuple
  | .lst xs => (pyL xs).map .list
  | _ => none
def pyL : List D → Option (List PyData)
  | [] => some []
  | x :: xs => match py x, pyL xs with
    | some y, some ys => some (y :: ys)
    | _, _ => none
end
mutual
theorem Den.dp {K : PySem.W.Frag} {H : Hp} {m : Sto} : ∀ {v : V} {d : D} {y : PyData}, Den K H m v d → py d = some y → Dp K H v y
  | _, _, _, .non, h => by cases h; exact .non
  | _, _, _, .bl b, h => by cases h; exact .bl b
  | _, _, _, .int i, h => by cases h; exact .int i
  | _, _, _, .str i, h => by cases h; exact .str i
  | _, .tup ds, y, .tup hs l, h => by
    rw [py] at h
    cases e : pyL ds with
    | none => rw [e] at h; cases h
    | some ys => rw [e] at h; cases h; exact .tup hs (DenL.dp l e)
  | _, .lst ds, y, .lst hs l, h => by
    rw [py] at h
    cases e : pyL ds with
    | none => rw [e] at h; cases h
    | some ys => rw [e] at h; cases h; exact .lst hs.sq (DenL.dp l e)
  | _, _, _, .loc _, h => by cases h
  | _, _, _, .ty _, h => by cases h
theorem DenL.dp {K : PySem.W.Frag} {H : Hp} {m : Sto} : ∀ {vs : List V} {ds : List D} {ys : List PyData}, DenL K H m vs ds → pyL ds = some ys → DpAll K H vs ys
  | _, _, _, .nil, h => by cases h; exact .nil
  | _, _, _, .cons (d := d) (ds := ds) h1 l, h => by
    rw [pyL] at h
    cases e1 : py d with
    | none => rw [e1] at h; simp at h
    | some y =>
      cases e2 : pyL ds with
      | none => rw [e1, e2] at h; simp at h
      | some ys => rw [e1, e2] at h; cases h; exact .cons (Den.dp h1 e1) (DenL.dp l e2)
end
theorem od_eqP {d1 d2 : D} {y1 y2 : PyData} (hu : X.A.units + 64 < cLine) (h1 : py d1 = some y1) (h2 : py d2 = some y2) (s1 : SeqAt.shaped y1 = true) (s2 : SeqAt.shaped y2 = true) (q : Φ (.bl (PyData.eqv y1 y2)) m) :
    OpD X C r (compareOp .Eq) d1 d2 m Φ := ⟨fun τ σ H v1 v2 R t1 t2 => ⟨_, op_eqD hu, y1, y2, t1.dp h1, t2.dp h2, s1, s2, _, m, R.push (.bl _), q⟩⟩
theorem od_neP {d1 d2 : D} {y1 y2 : PyData} (hu : X.A.units + 64 < cLine) (h1 : py d1 = some y1) (h2 : py d2 = some y2) (s1 : SeqAt.shaped y1 = true) (s2 : SeqAt.shaped y2 = true) (q : Φ (.bl (!PyData.eqv y1 y2)) m) :
    OpD X C r (compareOp .NotEq) d1 d2 m Φ := ⟨fun τ σ H v1 v2 R t1 t2 => ⟨_, op_neD hu, y1, y2, t1.dp h1, t2.dp h2, s1, s2, _, m, R.push (.bl _), q⟩⟩

/-! ### targets -/
theorem wg_pg {tg : Expr} : PG X tg (WG X tg) := ⟨fun pins s σ H v u Q I r h => h pins s u I r⟩
theorem wg_of {tg : Expr} {t : TG} (h : PG X tg t) {v : V} {σ : L2.St} {H : Hp} {Q : L2.St → Hp → Prop} (q : t v σ H Q) : WG X tg v σ H Q := fun pins s u I r => h.run pins s σ H v u Q I r q
theorem wgs_pgs {ts : List Expr} : PGs X ts (WGs X ts) := ⟨fun pins s σ H v u Q I r h => h pins s u I r⟩
theorem wgs_of {ts : List Expr} {t : TGs} (h : PGs X ts t) {vs : List V} {σ : L2.St} {H : Hp} {Q : L2.St → Hp → Prop} (q : t vs σ H Q) : WGs X ts vs σ H Q := fun pins s u I r => h.run pins s σ H vs u Q I r q
theorem WGs.mono {ts : List Expr} {v : List V} {σ : L2.St} {H : Hp} {Q Q' : L2.St → Hp → Prop} (h : WGs X ts v σ H Q) (k : ∀ v H', Q v H' → Q' v H') : WGs X ts v σ H Q' := fun pins s u I r =>
  thn (h pins s u I r) fun _ _ ⟨v, H', I', q⟩ => ⟨v, H', I', k v H' q⟩
theorem WG.mono {tg : Expr} {v : V} {σ : L2.St} {H : Hp} {Q Q' : L2.St → Hp → Prop} (h : WG X tg v σ H Q) (k : ∀ v H', Q v H' → Q' v H') : WG X tg v σ H Q' := fun pins s u I r =>
  thn (h pins s u I r) fun _ _ ⟨v, H', I', q⟩ => ⟨v, H', I', k v H' q⟩
theorem Rel.set {K : PySem.W.Frag} {τ : List (V × D)} {σ : L2.St} {H : Hp} {i : Nat} {v : V} {d : D} (R : Rel K C r m τ σ H) (h : Den K H m v d) : Rel K C (r.set i (some d)) m τ (σ.set i (some v)) H :=
  ⟨R.toBase, fun j x q => by
    by_cases hj : j = i
    · subst hj
      by_cases hl : j < r.length
      · rw [List.getElem?_set_self hl] at q
        cases q
        exact ⟨v, List.getElem?_set_self (by rw [← R.len]; exact hl), h⟩
      · rw [List.getElem?_eq_none (by rw [List.length_set]; omega)] at q
        cases q
    · rw [List.getElem?_set_ne (Ne.symm hj)] at q
      obtain ⟨w, h1, h2⟩ := R.slots j x q
      exact ⟨w, by rw [List.getElem?_set_ne (Ne.symm hj)]; exact h1, h2⟩, by rw [List.length_set, List.length_set]; exact R.len, R.tmp⟩
theorem dg_name {i : Nat} {x : Str} {d : D} {ws : Nat → Prop} {Φ : Slo → Sto → Prop} (hN : X.N.Nodup) (hi : X.N[i]? = some x) (hx : Loc X.env.scope x) (hw : ws i) (q : Φ (r.set i (some d)) m)
    (hf : X.fn x = true ∨ X.env.scope.names.lookup x = some .local := by first | exact .inl rfl | exact .inr rfl | assumption) : DG X C r m (.Name x pos) d ws Φ := ⟨fun τ σ H v R h =>
  wg_of (pg_name hN hi hx hf) ⟨_, m, R.set h, ⟨List.length_set .., fun j hj => List.getElem?_set_ne (fun (e : i = j) => hj (by rw [← e]; exact hw))⟩, q⟩⟩
theorem dgs_nil {ws : Nat → Prop} {Φ : Slo → Sto → Prop} (q : Φ r m) : DGs X C r m [] [] ws Φ := ⟨fun τ σ H vs R l => by
  cases l
  exact wgs_of pgs_nil ⟨rfl, r, m, R, ⟨rfl, fun _ _ => rfl⟩, q⟩⟩
theorem dgs_cons {tg : Expr} {ts : List Expr} {d : D} {ds : List D} {ws : Nat → Prop} {Φ : Slo → Sto → Prop} (h : DG X C r m tg d ws fun r' m' => DGs X C r' m' ts ds ws Φ)
    (hs : (assignEach (tg :: ts) X.env).map (·.2) = assign tg X.env :: (assignEach ts X.env).map (·.2) := by rfl) : DGs X C r m (tg :: ts) (d :: ds) ws Φ := ⟨fun τ σ H vs R l => by
  cases l with
  | @cons v _ vs _ h1 l =>
    refine wgs_of (pgs_cons wg_pg wgs_pgs hs) ⟨_, _, rfl, (h ((vs.zip ds) ++ τ) σ H _ ⟨R.toBase, R.slots, R.len, fun p hp => ?_⟩ h1).mono fun σ1 H1 ⟨r1, m1, R1, hw1, h2⟩ => ?_⟩
    · rcases List.mem_append.mp hp with hp | hp
      · obtain ⟨i, hi⟩ := List.mem_iff_getElem?.mp hp
        obtain ⟨h3, h4⟩ := List.getElem?_zip_eq_some.mp hi
        obtain ⟨x, h5, h6⟩ := l.get' h3
        rw [h4] at h5; cases h5
        exact h6
      · exact R.tmp p hp
    · refine (h2 τ σ1 H1 vs R1.popL ?_).mono fun σ2 H2 ⟨r2, m2, R2, hw2, q⟩ => ⟨r2, m2, R2, ⟨hw2.1.trans hw1.1, fun j hj => (hw2.2 j hj).trans (hw1.2 j hj)⟩, q⟩
      have key : ∀ (vs : List V) (ds : List D), vs.length = ds.length → (∀ p ∈ vs.zip ds, Den X.K H1 m1 p.1 p.2) → DenL X.K H1 m1 vs ds := by
        intro vs
        induction vs with
        | nil => intro ds hl _; cases ds with
          | nil => exact .nil
          | cons _ _ => cases hl
        | cons v vs ih => intro ds hl hz; cases ds with
          | nil => cases hl
          | cons d ds => exact .cons (hz (v, d) List.mem_cons_self) (ih ds (by simpa using hl) fun p hp => hz p (List.mem_cons_of_mem _ hp))
      exact key vs ds l.length fun p hp => R1.tmp p (List.mem_append_left _ hp)⟩
theorem dg_tup {ts : List Expr} {ds : List D} {k : Nat} {n : Nat} {ws : Nat → Prop} {Φ : Slo → Sto → Prop} (hc : X.calm = true) (hl : ds.length = n) (h : DGs X C r m ts ds ws Φ) (hn : (assignEach ts X.env).length = n := by rfl) (hst : (assignEach ts X.env).findIdx? (·.1) = none := by rfl) :
    DG X C r m (.Tuple ts k pos) (.tup ds) ws Φ := ⟨fun τ σ H v R t => by
  cases t with
  | tup hs l => exact wg_of (pg_tup hc wgs_pgs hn hst) ⟨_, _, rfl, hs, by rw [l.length]; exact hl, h τ σ H _ R l⟩⟩
/-- p[i] = d -/
theorem dg_setL {o i : Expr} {d : D} {ws : Nat → Prop} {Φ : Slo → Sto → Prop} (h : DE X C r m o fun d1 m1 => DE X C r m1 i fun d2 m2 => ∃ p xs k j, d1 = .loc p ∧ d2 = .int k ∧ m2 p = some (.lst xs) ∧ ixN xs.length k = some j ∧ Φ r (up m2 p (.lst (xs.set j d))))
    (ha : ∀ v, assign (.Subscript o i pos) X.env v = (do
      let ov ← holding [v] (eval o X.env)
      let iv ← holding [v, ov] (eval i X.env)
      standAt pos
      holding [v, ov, iv] (setItem ov iv v)
      release [v, ov, iv] []) := by intro _; rfl) : DG X C r m (.Subscript o i pos) d ws Φ := ⟨fun τ σ H v R t =>
  wg_of (pg_sub we_pe we_pe set_list ha) ((h _ σ H (R.push t)).mono fun v1 H1 ⟨d1, m1, R1, h1⟩ => (h1 _ σ H1 R1).mono fun v2 H2 ⟨d2, m2, R2, p, xs, k, j, e1, e2, hp, hj, q⟩ => by
    subst e1 e2
    have t1 := R2.pop.top
    have t2 := R2.top
    cases t1
    cases t2
    obtain ⟨vs, hv, l⟩ := R2.sto p _ hp
    have hne : m2 p ≠ none := by rw [hp]; exact fun z => nomatch z
    refine ⟨p, vs, k, j, rfl, rfl, hv, by rw [l.length]; exact hj, r, _, (R2.step (ext_set hne) (dom_set hne) (sto_set R2.sto hne (l.set j R2.pop.pop.top))).pop.pop.pop, ⟨rfl, fun _ _ => rfl⟩, q⟩)⟩

/-! ### statements -/
variable {st : Stmt} {ss : List Stmt} {k : Kk}
theorem ds_nil (q : k.nx r m) : DS X C r m [] k := ⟨fun τ σ H R => ws_of pss_nil ⟨r, m, R, q⟩⟩
theorem ds_cons (h : D1 X C r m st { k with nx := fun r' m' => DS X C r' m' ss k }) : DS X C r m (st :: ss) k := ⟨fun τ σ H R =>
  ws_of (pss_cons w1_ps ws_ps) (by
    refine fun pins s I => thn (h τ σ H R pins s I) fun f s' q => ?_
    cases f with
    | next =>
      obtain ⟨σ', H', I', r', m', R', q⟩ := q
      exact ⟨σ', H', I', q τ σ' H' R'⟩
    | ret v => exact q
    | brk => exact q
    | cont => exact q)⟩
/-- a statement, and what holds behind it -/
theorem ds_cut (M : Slo → Sto → Prop) (h : D1 X C r m st { k with nx := M }) (h2 : ∀ r' m', M r' m' → DS X C r' m' ss k) : DS X C r m (st :: ss) k := ⟨fun τ σ H R =>
  ws_of (pss_cons w1_ps ws_ps) (by
    refine fun pins s I => thn (h τ σ H R pins s I) fun f s' q => ?_
    cases f with
    | next =>
      obtain ⟨σ', H', I', r', m', R', q⟩ := q
      exact ⟨σ', H', I', h2 r' m' q τ σ' H' R'⟩
    | ret v => exact q
    | brk => exact q
    | cont => exact q)⟩
theorem d1_ret (h : DE X C r m e fun d m' => k.rt d m') : D1 X C r m (.Return (some e) pos) k := ⟨fun τ σ H R =>
  w1_of (ps_ret we_pe) ((h τ σ H R).mono fun v H1 ⟨d, m1, R1, q⟩ => ⟨d, m1, R1.toBase, R1.top, q⟩)⟩
/-- mutable lists of the def's own are given up at the return -/
theorem d1_retS (h : DE X C r m e fun d m' => ∃ m'', Sub m'' m' ∧ k.rt d m'') : D1 X C r m (.Return (some e) pos) k := ⟨fun τ σ H R =>
  w1_of (ps_ret we_pe) ((h τ σ H R).mono fun v H1 ⟨d, m1, R1, m2, u, q⟩ => ⟨d, m2, (R1.sub u).toBase, (R1.sub u).top, q⟩)⟩
theorem d1_retN (q : k.rt .non m) : D1 X C r m (.Return none pos) k := ⟨fun τ σ H R => w1_of ps_retN ⟨.non, m, R.toBase, .non, q⟩⟩
theorem d1_expr (h : DE X C r m e fun _ m' => k.nx r m') (hs : swapsWith e none pos.line X.env = pure false := by rfl) : D1 X C r m (.Expr e pos) k := ⟨fun τ σ H R =>
  w1_of (ps_expr we_pe hs) ((h τ σ H R).mono fun v H1 ⟨d, m1, R1, q⟩ => ⟨r, m1, R1.pop, q⟩)⟩
theorem d1_pass (q : k.nx r m) : D1 X C r m (.Pass pos) k := ⟨fun τ σ H R => w1_of ps_pass ⟨r, m, R, q⟩⟩
theorem d1_break (q : k.bk r m) : D1 X C r m (.Break pos) k := ⟨fun τ σ H R => w1_of ps_break ⟨r, m, R, q⟩⟩
theorem d1_cont (q : k.ct r m) : D1 X C r m (.Continue pos) k := ⟨fun τ σ H R => w1_of ps_continue ⟨r, m, R, q⟩⟩
theorem d1_set {i : Nat} {x : Str} {pos' : Pos} (hN : X.N.Nodup) (hi : X.N[i]? = some x) (hx : Loc X.env.scope x) (h : DE X C r m e fun d m' => k.nx (r.set i (some d)) m') (hs : swapsWith e (some (.Name x pos')) pos.line X.env = pure false := by rfl)
    (hf : X.fn x = true ∨ X.env.scope.names.lookup x = some .local := by first | exact .inl rfl | exact .inr rfl | assumption) : D1 X C r m (.Assign [.Name x pos'] e pos) k := ⟨fun τ σ H R =>
  w1_of (ps_set hN hi hx we_pe hs hf) ((h τ σ H R).mono fun v H1 ⟨d, m1, R1, q⟩ => ⟨_, m1, R1.pop.set R1.top, q⟩)⟩
theorem d1_asg {tg : Expr} (h : DE X C r m e fun d m' => DG X C r m' tg d (fun _ => True) k.nx) (hs : swapsWithSole [tg] e pos.line X.env = pure false := by rfl) (hw : swappedStores [tg] e X.env = pure none := by rfl)
    (h1 : (assignEach [tg] X.env).map (·.2) = [assign tg X.env] := by rfl) : D1 X C r m (.Assign [tg] e pos) k := ⟨fun τ σ H R =>
  w1_of (ps_asg we_pe wg_pg hs hw h1) ((h τ σ H R).mono fun v H1 ⟨d, m1, R1, q⟩ => (q τ σ H1 v R1.pop R1.top).mono fun σ2 H2 ⟨r2, m2, R2, _, z⟩ => ⟨r2, m2, R2, z⟩)⟩
theorem d1_par {i j : Nat} {x y : Str} {px py pt : Pos} {kt k2 pt2} (hc : X.calm = true) (hN : X.N.Nodup) (hi : X.N[i]? = some x) (hj : X.N[j]? = some y) (hij : i ≠ j)
    (hx : X.env.scope.names.lookup x = some .local) (hy : X.env.scope.names.lookup y = some .local) (h : DA X C r m [a, b] fun ds m' => ∃ d1 d2, ds = [d1, d2] ∧ k.nx ((r.set i (some d1)).set j (some d2)) m')
    (hw : swappedStores [.Tuple [.Name x px, .Name y py] kt pt] (.Tuple [a, b] k2 pt2) X.env = pure (some [x, y]) := by rfl)
    (hs : swapsWithSole [.Tuple [.Name x px, .Name y py] kt pt] (.Tuple [a, b] k2 pt2) pos.line X.env = pure false := by rfl) :
    D1 X C r m (.Assign [.Tuple [.Name x px, .Name y py] kt pt] (.Tuple [a, b] k2 pt2) pos) k := ⟨fun τ σ H R =>
  w1_of (ps_par hc hN hi hj hij hx hy wa_pa hw hs) ((h τ σ H R).mono fun vs H1 ⟨ds, m1, R1, l, d1, d2, e1, q⟩ => by
    subst e1
    cases l with
    | cons h1 l =>
      cases l with
      | cons h2 l =>
        cases l
        exact ⟨_, _, rfl, _, m1, (R1.set h1).set h2, q⟩)⟩
theorem d1_par3 {i j l : Nat} {x y z : Str} {px py pz pt : Pos} {kt k2 pt2} (hc : X.calm = true) (hN : X.N.Nodup) (hi : X.N[i]? = some x) (hj : X.N[j]? = some y) (hl : X.N[l]? = some z) (hij : i ≠ j) (hil : i ≠ l) (hjl : j ≠ l)
    (hx : X.env.scope.names.lookup x = some .local) (hy : X.env.scope.names.lookup y = some .local) (hz : X.env.scope.names.lookup z = some .local)
    (h : DA X C r m [a, b, c] fun ds m' => ∃ d1 d2 d3, ds = [d1, d2, d3] ∧ k.nx (((r.set i (some d1)).set j (some d2)).set l (some d3)) m')
    (hw : swappedStores [.Tuple [.Name x px, .Name y py, .Name z pz] kt pt] (.Tuple [a, b, c] k2 pt2) X.env = pure (some [x, y, z]) := by rfl)
    (hs : swapsWithSole [.Tuple [.Name x px, .Name y py, .Name z pz] kt pt] (.Tuple [a, b, c] k2 pt2) pos.line X.env = pure false := by rfl) :
    D1 X C r m (.Assign [.Tuple [.Name x px, .Name y py, .Name z pz] kt pt] (.Tuple [a, b, c] k2 pt2) pos) k := ⟨fun τ σ H R =>
  w1_of (ps_par3 hc hN hi hj hl hij hil hjl hx hy hz wa_pa hw hs) ((h τ σ H R).mono fun vs H1 ⟨ds, m1, R1, l, d1, d2, d3, e1, q⟩ => by
    subst e1
    cases l with
    | cons h1 l =>
      cases l with
      | cons h2 l =>
        cases l with
        | cons h3 l =>
          cases l
          exact ⟨_, _, _, rfl, _, m1, ((R1.set h1).set h2).set h3, q⟩)⟩
theorem d1_if {body orelse : List Stmt} (h : DT X C r m c fun b m1 => (b = true → DS X C r m1 body k) ∧ (b = false → DS X C r m1 orelse k)) : D1 X C r m (.If c body orelse pos) k := ⟨fun τ σ H R =>
  w1_of (ps_if wt_pt ws_ps ws_ps) ((h τ σ H R).mono fun b H1 ⟨m1, R1, h1, h2⟩ => by
    cases b with
    | true => rw [if_pos rfl]; exact h1 rfl τ σ H1 R1
    | false => rw [if_neg Bool.false_ne_true]; exact h2 rfl τ σ H1 R1)⟩
/-- while: I by a measure -/
theorem d1_while {body : List Stmt} (hp : PassesOwn (model X.prog X.w) X.A X.env X.xe) (I : Nat → Slo → Sto → Prop) (n0 : Nat) (h0 : I n0 r m)
    (hs : ∀ n r' m', I n r' m' → DT X C r' m' c fun b m1 => (b = true → DS X C r' m1 body { k with nx := fun r2 m2 => ∃ n', n' < n ∧ I n' r2 m2, ct := fun r2 m2 => ∃ n', n' < n ∧ I n' r2 m2, bk := k.nx }) ∧ (b = false → k.nx r' m1)) :
    D1 X C r m (.While c body [] pos) k := ⟨fun τ σ H R =>
  w1_of (ps_while hp wt_pt ws_ps) ⟨fun n σ H => ∃ r' m', Rel X.K C r' m' τ σ H ∧ I n r' m', ⟨n0, r, m, R, h0⟩, fun n σ1 H1 ⟨r1, m1, R1, i1⟩ =>
    (hs n r1 m1 i1 τ σ1 H1 R1).mono fun b H2 ⟨m2, R2, h1, h2⟩ => by
      cases b with
      | true =>
        rw [if_pos rfl]
        refine ⟨fun σ' H' => ∃ r' m', Rel X.K C r' m' τ σ' H' ∧ ∃ n', n' < n ∧ I n' r' m', fun σ' H' ⟨r', m', R', n', hn, i'⟩ => ⟨n', hn, r', m', R', i'⟩, ?_⟩
        exact h1 rfl τ σ1 H2 R2
      | false => rw [if_neg Bool.false_ne_true]; exact ⟨r1, m2, R2, h2 rfl⟩⟩⟩
end

/-! ### a def's own context -/
def visB (sc : Scope) (x : Str) : Bool := match sc.names.lookup x with
  | some .local => true
  | some .cell => true
  | some .free => true
  | _ => false
theorem vis_of {sc : Scope} {x : Str} (h : visB sc x = true) : Vis sc x := by
  unfold visB at h
  split at h
  · rename_i e; exact .inl e
  · rename_i e; exact .inr (.inl e)
  · rename_i e; exact .inr (.inr e)
  · cases h
def locB (sc : Scope) (x : Str) : Bool := match sc.names.lookup x with
  | some .local => true
  | some .cell => true
  | _ => false
theorem loc_of {sc : Scope} {x : Str} (h : locB sc x = true) : L2.Loc sc x := by
  unfold locB at h
  split at h
  · rename_i e; exact .inl e
  · rename_i e; exact .inr e
  · cases h
structure Good (P : Program) (w : World) (K : PySem.W.Frag) (mg : Str → Option Value) (base : Heap) (N : List Str) (sc : Scope) (fr : Str → Bool) (k : Nat) (X : Cx) : Prop where
  eP : X.prog = P
  ew : X.w = w
  eK : X.K = K
  emg : X.mg = mg
  ebase : X.base = base
  eN : X.N = N
  esc : X.env.scope = sc
  nd : N.Nodup
  kind : sc.kind = .function
  calm : X.calm = true
  xe : X.xe = fun _ _ => False
  room : Room k X.A
  fn : ∀ x, L2.Loc sc x → fr x = false → X.fn x = true ∨ sc.names.lookup x = some .local
section
variable {P : Program} {w : World} {K : PySem.W.Frag} {mg : Str → Option Value} {base : Heap} {N : List Str} {sc : Scope} {fr : Str → Bool} {k : Nat} {X : Cx} {C : Ctx} {r : Slo} {m : Sto} {e a b c : Expr} {es : List Expr} {pos : Pos} {Φ : D → Sto → Prop} {κ : Kk}
theorem Good.name (G : Good P w K mg base N sc fr k X) {i : Nat} {x : Str} {d : D} (hi : N[i]? = some x) (hv : visB sc x = true) (hr : r[i]? = some (some d)) (q : Φ d m)
    (hd : (x == ("__debug__" : Str)) = false := by decide) (hcd : (x == ("__classdict__" : Str)) = false := by decide) : DE X C r m (.Name x pos) Φ :=
  de_name (by rw [G.eN]; exact hi) (by rw [G.esc]; exact vis_of hv) hr q hd hcd
theorem Good.gl (G : Good P w K mg base N sc fr k X) {x : Str} (h : sc.names.lookup x = some .globalImplicit) : Gl X x := by
  show X.env.scope.names.lookup x = _
  rw [G.esc]
  exact h
theorem Good.set (G : Good P w K mg base N sc fr k X) {i : Nat} {x : Str} {pos' : Pos} (hi : N[i]? = some x) (hl : locB sc x = true) (h : DE X C r m e fun d m' => κ.nx (r.set i (some d)) m') (hs : swapsWith e (some (.Name x pos')) pos.line X.env = pure false := by rfl) (hfr : fr x = false := by rfl) :
    D1 X C r m (.Assign [.Name x pos'] e pos) κ :=
  d1_set (by rw [G.eN]; exact G.nd) (by rw [G.eN]; exact hi) (by rw [G.esc]; exact loc_of hl) h hs (by rw [G.esc]; exact G.fn x (loc_of hl) hfr)
theorem Good.gname (G : Good P w K mg base N sc fr k X) {i : Nat} {x : Str} {d : D} {ws : Nat → Prop} {Φ : Slo → Sto → Prop} (hi : N[i]? = some x) (hl : locB sc x = true) (hw : ws i) (q : Φ (r.set i (some d)) m) (hfr : fr x = false := by rfl) : DG X C r m (.Name x pos) d ws Φ :=
  dg_name (by rw [G.eN]; exact G.nd) (by rw [G.eN]; exact hi) (by rw [G.esc]; exact loc_of hl) hw q (by rw [G.esc]; exact G.fn x (loc_of hl) hfr)
theorem Good.gtup (G : Good P w K mg base N sc fr k X) {ts : List Expr} {ds : List D} {j n : Nat} {ws : Nat → Prop} {Φ : Slo → Sto → Prop} (hl : ds.length = n) (h : DGs X C r m ts ds ws Φ) (hn : (assignEach ts X.env).length = n := by rfl) (hst : (assignEach ts X.env).findIdx? (·.1) = none := by rfl) :
    DG X C r m (.Tuple ts j pos) (.tup ds) ws Φ := dg_tup G.calm hl h hn hst
theorem Good.par (G : Good P w K mg base N sc fr k X) {i j : Nat} {x y : Str} {px py pt : Pos} {kt k2 pt2} (hi : N[i]? = some x) (hj : N[j]? = some y) (hij : i ≠ j)
    (hx : sc.names.lookup x = some .local) (hy : sc.names.lookup y = some .local) (h : DA X C r m [a, b] fun ds m' => ∃ d1 d2, ds = [d1, d2] ∧ κ.nx ((r.set i (some d1)).set j (some d2)) m')
    (hw : ∀ env : PySem.Env, env.scope = sc → swappedStores [.Tuple [.Name x px, .Name y py] kt pt] (.Tuple [a, b] k2 pt2) env = pure (some [x, y]))
    (hs : swapsWithSole [.Tuple [.Name x px, .Name y py] kt pt] (.Tuple [a, b] k2 pt2) pos.line X.env = pure false := by rfl) :
    D1 X C r m (.Assign [.Tuple [.Name x px, .Name y py] kt pt] (.Tuple [a, b] k2 pt2) pos) κ :=
  d1_par G.calm (by rw [G.eN]; exact G.nd) (by rw [G.eN]; exact hi) (by rw [G.eN]; exact hj) hij (by rw [G.esc]; exact hx) (by rw [G.esc]; exact hy) h (hw _ G.esc) hs
theorem Good.par3 (G : Good P w K mg base N sc fr k X) {i j l : Nat} {x y z : Str} {px py pz pt : Pos} {kt k2 pt2} (hi : N[i]? = some x) (hj : N[j]? = some y) (hl : N[l]? = some z) (hij : i ≠ j) (hil : i ≠ l) (hjl : j ≠ l)
    (hx : sc.names.lookup x = some .local) (hy : sc.names.lookup y = some .local) (hz : sc.names.lookup z = some .local)
    (h : DA X C r m [a, b, c] fun ds m' => ∃ d1 d2 d3, ds = [d1, d2, d3] ∧ κ.nx (((r.set i (some d1)).set j (some d2)).set l (some d3)) m')
    (hw : ∀ env : PySem.Env, env.scope = sc → swappedStores [.Tuple [.Name x px, .Name y py, .Name z pz] kt pt] (.Tuple [a, b, c] k2 pt2) env = pure (some [x, y, z]))
    (hs : swapsWithSole [.Tuple [.Name x px, .Name y py, .Name z pz] kt pt] (.Tuple [a, b, c] k2 pt2) pos.line X.env = pure false := by rfl) :
    D1 X C r m (.Assign [.Tuple [.Name x px, .Name y py, .Name z pz] kt pt] (.Tuple [a, b, c] k2 pt2) pos) κ :=
  d1_par3 G.calm (by rw [G.eN]; exact G.nd) (by rw [G.eN]; exact hi) (by rw [G.eN]; exact hj) (by rw [G.eN]; exact hl) hij hil hjl (by rw [G.esc]; exact hx) (by rw [G.esc]; exact hy) (by rw [G.esc]; exact hz) h (hw _ G.esc) hs

/-! ### defs: promises, calls -/
/-- a promise over data: arguments, store, what follows -/
abbrev FS := List D → Sto → (D → Sto → Prop) → Prop
def spG (K : PySem.W.Frag) (F : FS) : Sp := fun vs H Q _ => ∃ m ds Φ, StoRel K H m ∧ DenL K H m vs ds ∧ F ds m Φ ∧
  ∀ d m' v H', Φ d m' → StoRel K H' m' → Ext m H H' → Dom m H m' → Den K H' m' v d → Q v H'
/-- a def of the text that keeps a promise, by level k -/
structure Fn (P : Program) (w : World) (K : PySem.W.Frag) (mg : Str → Option Value) (base : Heap) (k : Nat) (x : Str) (st : Stmt) (ps : List Str) (F : FS) : Prop where
  ex : ∃ f fd, Fun K x x st f fd ∧ mg x = some (.ref f) ∧ Binds K fd ps [] ∧ FnOk P w K mg base CX0 k f fd ps (spG K F)
theorem call_end {τ : List (V × D)} {σ : L2.St} {H : Hp} {F : FS} {vs : List V} {ds : List D} {r : Slo} {m : Sto} {Φ : D → Sto → Prop} (R : Rel K C r m τ σ H) (l : DenL K H m vs ds) (h : F ds m Φ) :
    spG K F vs H (fun v H' => ∃ d m', Rel K C r m' ((v, d) :: τ) σ H' ∧ Φ d m') E0 :=
  ⟨m, ds, Φ, R.sto, l, h, fun d m' v H' q s e dd t => ⟨d, m', (R.step e dd s).push t, q⟩⟩
theorem Good.call (G : Good P w K mg base N sc fr k X) {j : Nat} {x : Str} {st : Stmt} {ps : List Str} {F : FS} {p : Pos} (Fx : Fn P w K mg base j x st ps F) (hj : j ≤ k) (hg : sc.names.lookup x = some .globalImplicit)
    (h : DA X C r m (e :: es) fun ds m' => F ds m' Φ) (hdb : (x == ("__debug__" : Str)) = false := by decide)
    (he : starEach (e :: es) X.env = (false, eval e X.env) :: starEach es X.env := by rfl) (hpl : (backTo pos (starEach es X.env)).any (·.1) = false := by rfl) :
    DE X C r m (.Call (.Name x p) (e :: es) [] pos) Φ := by
  obtain ⟨f, fd, Fu, hm, hb, ok⟩ := Fx.ex
  have hgl := G.gl hg
  have hr := G.room.mono hj
  obtain ⟨rfl, rfl, rfl, rfl, rfl, _⟩ := G
  exact ⟨fun τ σ H R => we_of (pe_call ok hr hgl hm Fu.kp hb .nil pass0 wa_pa hdb he hpl) ((h τ σ H R).mono fun vs H1 ⟨ds, m1, R1, l, q⟩ => by
    rw [List.append_nil]
    exact call_end R1 l q)⟩
theorem Good.call0 (G : Good P w K mg base N sc fr k X) {j : Nat} {x : Str} {st : Stmt} {ps : List Str} {F : FS} {p : Pos} (Fx : Fn P w K mg base j x st ps F) (hj : j ≤ k) (hg : sc.names.lookup x = some .globalImplicit)
    (h : F [] m Φ) (hdb : (x == ("__debug__" : Str)) = false := by decide) : DE X C r m (.Call (.Name x p) [] [] pos) Φ := by
  obtain ⟨f, fd, Fu, hm, hb, ok⟩ := Fx.ex
  have hgl := G.gl hg
  have hr := G.room.mono hj
  obtain ⟨rfl, rfl, rfl, rfl, rfl, _⟩ := G
  exact ⟨fun τ σ H R => we_of (pe_call0 ok hr hgl hm Fu.kp hb .nil pass0 hdb) (call_end R .nil h)⟩

/-! ### built-ins -/
structure CallD (X : Cx) (C : Ctx) (r : Slo) (f : Value) (ds : List D) (m : Sto) (Φ : D → Sto → Prop) : Prop where
  run : ∀ τ σ H vs, Rel X.K C r m τ σ H → DenL X.K H m vs ds → ∃ rr, CallR X f rr ∧ rr vs H fun v H' => ∃ d m', Rel X.K C r m' ((v, d) :: τ) σ H' ∧ Φ d m'
instance {X : Cx} {C : Ctx} {r : Slo} {f : Value} {ds : List D} {m : Sto} {Φ : D → Sto → Prop} : CoeFun (CallD X C r f ds m Φ) (fun _ => ∀ τ σ H vs, Rel X.K C r m τ σ H → DenL X.K H m vs ds → ∃ rr, CallR X f rr ∧ rr vs H fun v H' => ∃ d m', Rel X.K C r m' ((v, d) :: τ) σ H' ∧ Φ d m') := ⟨fun h => h.run⟩
theorem callr_all {f : Value} : CallR X f fun xs H Q => ∃ rr, CallR X f rr ∧ rr xs H Q := fun pins s σ H xs us Q I r ⟨rr, ho, q⟩ => ho pins s σ H xs us Q I r q
theorem Good.blt (G : Good P w K mg base N sc fr k X) {x : Str} {id : String} {p : Pos} (hg : sc.names.lookup x = some .globalImplicit) (hm : mg x = none) (hv : bootBuiltins x = some (.builtin id)) (h : DA X C r m (e :: es) fun ds m' => CallD X C r (.builtin id) ds m' Φ)
    (hn : x ≠ "__name__" := by decide) (hdb : (x == ("__debug__" : Str)) = false := by decide)
    (he : starEach (e :: es) X.env = (false, eval e X.env) :: starEach es X.env := by rfl) (hpl : (backTo pos (starEach es X.env)).any (·.1) = false := by rfl) : DE X C r m (.Call (.Name x p) (e :: es) [] pos) Φ := ⟨fun τ σ H R =>
  we_of (pe_callB callr_all (G.gl hg) (by rw [G.emg]; exact hm) hv wa_pa hn hdb he hpl) ((h τ σ H R).mono fun vs H1 ⟨ds, m1, R1, l, q⟩ => q τ σ H1 vs R1 l)⟩
theorem Good.bty (G : Good P w K mg base N sc fr k X) {x : Str} {T : String} {p : Pos} (hg : sc.names.lookup x = some .globalImplicit) (hm : mg x = none) (hv : bootBuiltins x = some (.type T)) (h : DA X C r m (e :: es) fun ds m' => CallD X C r (.type T) ds m' Φ)
    (hn : x ≠ "__name__" := by decide) (hdb : (x == ("__debug__" : Str)) = false := by decide)
    (he : starEach (e :: es) X.env = (false, eval e X.env) :: starEach es X.env := by rfl) (hpl : (backTo pos (starEach es X.env)).any (·.1) = false := by rfl) : DE X C r m (.Call (.Name x p) (e :: es) [] pos) Φ := ⟨fun τ σ H R =>
  we_of (pe_callTy callr_all (G.gl hg) (by rw [G.emg]; exact hm) hv wa_pa hn hdb he hpl) ((h τ σ H R).mono fun vs H1 ⟨ds, m1, R1, l, q⟩ => q τ σ H1 vs R1 l)⟩
/-- a module's name for a built-in function (gcd) -/
theorem Good.bfun (G : Good P w K mg base N sc fr k X) {x : Str} {id : String} {p : Pos} (hg : sc.names.lookup x = some .globalImplicit) (hm : mg x = some (.builtin id)) (h : DA X C r m (e :: es) fun ds m' => CallD X C r (.builtin id) ds m' Φ)
    (hdb : (x == ("__debug__" : Str)) = false := by decide)
    (he : starEach (e :: es) X.env = (false, eval e X.env) :: starEach es X.env := by rfl) (hpl : (backTo pos (starEach es X.env)).any (·.1) = false := by rfl) : DE X C r m (.Call (.Name x p) (e :: es) [] pos) Φ := ⟨fun τ σ H R =>
  we_of (pe_callBfun callr_all (G.gl hg) (by rw [G.emg]; exact hm) wa_pa hdb he hpl) ((h τ σ H R).mono fun vs H1 ⟨ds, m1, R1, l, q⟩ => q τ σ H1 vs R1 l)⟩
theorem Good.tyname (G : Good P w K mg base N sc fr k X) {x : Str} {n : String} (hg : sc.names.lookup x = some .globalImplicit) (hm : mg x = none) (hv : bootBuiltins x = some (.type n)) (q : Φ (.ty n) m) (hn : x ≠ "__name__" := by decide) (hd : (x == ("__debug__" : Str)) = false := by decide) :
    DE X C r m (.Name x pos) Φ := de_bltn (G.gl hg) (by rw [G.emg]; exact hm) hv q hn hd
/-- a module's constant: an int -/
theorem Good.gint (G : Good P w K mg base N sc fr k X) {x : Str} {i : Int} {t : Tok} (hg : sc.names.lookup x = some .globalImplicit) (hm : mg x = some (.int i t)) (q : Φ (.int i) m) (hd : (x == ("__debug__" : Str)) = false := by decide) : DE X C r m (.Name x pos) Φ := ⟨fun τ σ H R =>
  we_of (pe_glob (v := .int i) (G.gl hg) (by rw [G.emg]; exact hm) ⟨t, rfl⟩ hd) ⟨_, _, R.push (.int i), q⟩⟩
theorem cd_abs {i : Int} (q : Φ (.int (if i < 0 then -i else i)) m) : CallD X C r (.builtin "abs") [.int i] m Φ := ⟨fun τ σ H vs R l => by
  cases l with | cons h1 l => cases l; cases h1; exact ⟨_, call_abs, i, rfl, _, m, R.push (.int _), q⟩⟩
theorem Good.max2 (G : Good P w K mg base N sc fr k X) {i j : Int} (q : Φ (.int (if j > i then j else i)) m) : CallD X C r (.builtin "max") [.int i, .int j] m Φ := ⟨fun τ σ H vs R l => by
  cases l with | cons h1 l => cases l with | cons h2 l => cases l; cases h1; cases h2; exact ⟨_, call_max2 G.calm, i, j, rfl, _, m, R.push (.int _), q⟩⟩
theorem Good.min2 (G : Good P w K mg base N sc fr k X) {i j : Int} (q : Φ (.int (if j < i then j else i)) m) : CallD X C r (.builtin "min") [.int i, .int j] m Φ := ⟨fun τ σ H vs R l => by
  cases l with | cons h1 l => cases l with | cons h2 l => cases l; cases h1; cases h2; exact ⟨_, call_min2 G.calm, i, j, rfl, _, m, R.push (.int _), q⟩⟩
theorem cd_intI {i : Int} (q : Φ (.int i) m) : CallD X C r (.type "int") [.int i] m Φ := ⟨fun τ σ H vs R l => by
  cases l with | cons h1 l => cases l; cases h1; exact ⟨_, call_int1, .inl ⟨i, rfl, _, m, R.push (.int _), q⟩⟩⟩
theorem cd_intB {i : Bool} (q : Φ (.int (if i then 1 else 0)) m) : CallD X C r (.type "int") [.bl i] m Φ := ⟨fun τ σ H vs R l => by
  cases l with | cons h1 l => cases l; cases h1; exact ⟨_, call_int1, .inr ⟨i, rfl, _, m, R.push (.int _), q⟩⟩⟩
theorem cd_gcd {i j : Int} (q : Φ (.int ((Nat.gcd i.natAbs j.natAbs : Nat) : Int)) m) : CallD X C r (.builtin "math.gcd") [.int i, .int j] m Φ := ⟨fun τ σ H vs R l => by
  cases l with | cons h1 l => cases l with | cons h2 l => cases l; cases h1; cases h2; exact ⟨_, cr_gcd, i, j, rfl, _, m, R.push (.int _), q⟩⟩
theorem cd_lenT {xs : List D} (q : Φ (.int xs.length) m) : CallD X C r (.builtin "len") [.tup xs] m Φ := ⟨fun τ σ H vs R l => by
  cases l with | cons h1 l => cases l; cases h1 with | tup hs l1 => exact ⟨_, call_len_seq, _, _, rfl, .inr hs, _, m, R.push (by rw [l1.length]; exact .int _), q⟩⟩
theorem cd_lenL {d : D} {xs : List D} (h : LstOf m d xs) (q : Φ (.int xs.length) m) : CallD X C r (.builtin "len") [d] m Φ := ⟨fun τ σ H vs R l => by
  cases l with | cons h1 l =>
    cases l
    obtain ⟨p, ws, rfl, hs, l1⟩ := lst_of R.sto h1 h
    exact ⟨_, call_len_seq, _, _, rfl, .inl hs, _, m, R.push (by rw [l1.length]; exact .int _), q⟩⟩
theorem cd_lenS {z : Str} (hz : z.length ≤ sizeLine) (q : Φ (.int z.length) m) : CallD X C r (.builtin "len") [.str z] m Φ := ⟨fun τ σ H vs R l => by
  cases l with | cons h1 l => cases l; cases h1; exact ⟨_, call_len_str, z, rfl, hz, _, m, R.push (.int _), q⟩⟩
/-- tuple(a list): a new tuple -/
theorem cd_tupL {d : D} {xs : List D} (h : LstOf m d xs) (q : Φ (.tup xs) m) : CallD X C r (.type "tuple") [d] m Φ := ⟨fun τ σ H vs R l => by
  cases l with | cons h1 l =>
    cases l
    obtain ⟨p, ws, rfl, hs, l1⟩ := lst_of R.sto h1 h
    exact ⟨_, call_tuple_of, _, _, rfl, .inl ⟨hs, fun t ht => ⟨_, m, R.newTup ht l1, q⟩⟩⟩⟩
theorem cd_tupT {xs : List D} (q : Φ (.tup xs) m) : CallD X C r (.type "tuple") [.tup xs] m Φ := ⟨fun τ σ H vs R l => by
  cases l with | cons h1 l =>
    cases l
    cases h1 with
    | tup hs l1 => exact ⟨_, call_tuple_of, _, _, rfl, .inr ⟨hs, _, m, R.push (.tup hs l1), q⟩⟩⟩
theorem cd_listL {d : D} {xs : List D} (h : LstOf m d xs) (q : Φ (.lst xs) m) : CallD X C r (.type "list") [d] m Φ := ⟨fun τ σ H vs R l => by
  cases l with | cons h1 l =>
    cases l
    obtain ⟨p, ws, rfl, hs, l1⟩ := lst_of R.sto h1 h
    exact ⟨_, call_list_of, _, _, rfl, .inl hs, fun t ht => ⟨_, m, R.newLst ht l1, q⟩⟩⟩
theorem cd_listLp {d : D} {xs : List D} (h : LstOf m d xs) (q : ∀ p, m p = none → Φ (.loc p) (up m p (.lst xs))) : CallD X C r (.type "list") [d] m Φ := ⟨fun τ σ H vs R l => by
  cases l with | cons h1 l =>
    cases l
    obtain ⟨p, ws, rfl, hs, l1⟩ := lst_of R.sto h1 h
    exact ⟨_, call_list_of, _, _, rfl, .inl hs, fun t ht => ⟨_, _, R.newLoc ht l1, q t (sto_free R.sto ht)⟩⟩⟩
theorem cd_listT {xs : List D} (q : Φ (.lst xs) m) : CallD X C r (.type "list") [.tup xs] m Φ := ⟨fun τ σ H vs R l => by
  cases l with | cons h1 l =>
    cases l
    cases h1 with
    | tup hs l1 => exact ⟨_, call_list_of, _, _, rfl, .inr hs, fun t ht => ⟨_, m, R.newLst ht l1, q⟩⟩⟩
theorem cd_listTp {xs : List D} (q : ∀ p, m p = none → Φ (.loc p) (up m p (.lst xs))) : CallD X C r (.type "list") [.tup xs] m Φ := ⟨fun τ σ H vs R l => by
  cases l with | cons h1 l =>
    cases l
    cases h1 with
    | tup hs l1 => exact ⟨_, call_list_of, _, _, rfl, .inr hs, fun t ht => ⟨_, _, R.newLoc ht l1, q t (sto_free R.sto ht)⟩⟩⟩
theorem den_ints {H : Hp} : ∀ {vs : List V} {ns : List Int}, DenL K H m vs (ns.map D.int) → vs = ns.map V.int
  | _, [], h => by cases h; rfl
  | _, n :: ns, h => by cases h with | cons h1 h2 => cases h1; rw [den_ints h2]; rfl
theorem den_bools {H : Hp} : ∀ {vs : List V} {ns : List Bool}, DenL K H m vs (ns.map D.bl) → vs = ns.map V.bl
  | _, [], h => by cases h; rfl
  | _, n :: ns, h => by cases h with | cons h1 h2 => cases h1; rw [den_bools h2]; rfl
theorem Good.sumL (G : Good P w K mg base N sc fr k X) {d : D} {ns : List Int} (h : LstOf m d (ns.map D.int)) (q : Φ (.int ns.sum) m) : CallD X C r (.builtin "sum") [d] m Φ := ⟨fun τ σ H vs R l => by
  cases l with | cons h1 l =>
    cases l
    obtain ⟨p, ws, rfl, hs, l1⟩ := lst_of R.sto h1 h
    cases den_ints l1
    exact ⟨_, cr_sum G.calm, _, _, rfl, hs, _, m, R.push (.int _), q⟩⟩
theorem Good.allL (G : Good P w K mg base N sc fr k X) {d : D} {ns : List Bool} (h : LstOf m d (ns.map D.bl)) (q : Φ (.bl (ns.all id)) m) : CallD X C r (.builtin "all") [d] m Φ := ⟨fun τ σ H vs R l => by
  cases l with | cons h1 l =>
    cases l
    obtain ⟨p, ws, rfl, hs, l1⟩ := lst_of R.sto h1 h
    cases den_bools l1
    exact ⟨_, cr_all G.calm, _, _, rfl, hs, _, m, R.push (.bl _), q⟩⟩
theorem Good.anyL (G : Good P w K mg base N sc fr k X) {d : D} {ns : List Bool} (h : LstOf m d (ns.map D.bl)) (q : Φ (.bl (ns.any id)) m) : CallD X C r (.builtin "any") [d] m Φ := ⟨fun τ σ H vs R l => by
  cases l with | cons h1 l =>
    cases l
    obtain ⟨p, ws, rfl, hs, l1⟩ := lst_of R.sto h1 h
    cases den_bools l1
    exact ⟨_, cr_any G.calm, _, _, rfl, hs, _, m, R.push (.bl _), q⟩⟩
/-- a datum's type -/
def tyn (m : Sto) : D → Option String
  | .non => some "NoneType"
  | .bl _ => some "bool"
  | .int _ => some "int"
  | .str _ => some "str"
  | .tup _ => some "tuple"
  | .lst _ => some "list"
  | .loc p => match m p with
    | some (.lst _) => some "list"
    | none => none
  | .ty _ => none
theorem tyx_of {H : Hp} {v : V} {d : D} {n : String} (s : StoRel K H m) (t : Den K H m v d) (h : tyn m d = some n) : TyX K H v (.type n) := by
  cases t with
  | non => cases h; exact .base .non
  | bl b => cases h; exact .base (.bl b)
  | int i => cases h; exact .base (.int i)
  | str i => cases h; exact .base (.str i)
  | tup hs l =>
    cases h
    rcases hs with (hs | ⟨o, hs⟩) | ⟨o, its, n, hs, hc, _⟩
    · exact .base (.tup hs)
    · exact .fTuple hs
    · exact .kTuple hs hc
  | lst hs l =>
    cases h
    rcases hs with ⟨hs | ⟨o, hs⟩, _⟩ | ⟨o, its, n, hs, hc, _⟩
    · exact .base (.lst hs)
    · exact .base (.frz hs)
    · exact .kList hs hc
  | loc p =>
    unfold tyn at h
    split at h <;> try (rename_i e; cases e; done)
    rename_i e
    cases e
    split at h
    · rename_i xs e
      cases h
      obtain ⟨vs, hv, _⟩ := s p _ e
      exact .base (.lst hv)
    · cases h
  | ty n => cases h
theorem cd_isi {d : D} {n t : String} {k : Bool} (h : tyn m d = some n) (hk : kitB n t = some k) (q : Φ (.bl k) m) : CallD X C r (.builtin "isinstance") [d, .ty t] m Φ := ⟨fun τ σ H vs R l => by
  cases l with | cons h1 l =>
    cases l with | cons h2 l =>
      cases l
      cases h2
      exact ⟨_, call_isi, _, _, .type n, .type t, k, rfl, .ty t, tyx_of R.sto h1 h, kit_ty hk, _, m, R.push (.bl k), q⟩⟩
/-- isinstance(x, (T1, T2)) -/
theorem Good.isi2 (G : Good P w K mg base N sc fr k X) {x1 x2 : Str} {t1 t2 : String} {p p1 p2 p3 : Pos} {j : Nat} {x : Str} (hx : x = "isinstance") (hg : sc.names.lookup x = some .globalImplicit) (hm : mg x = none)
    (g1 : sc.names.lookup x1 = some .globalImplicit) (m1 : mg x1 = none) (v1 : bootBuiltins x1 = some (.type t1)) (g2 : sc.names.lookup x2 = some .globalImplicit) (m2 : mg x2 = none) (v2 : bootBuiltins x2 = some (.type t2))
    (h : DE X C r m e fun d m' => ∃ n k1 k2, tyn m' d = some n ∧ kitB n t1 = some k1 ∧ kitB n t2 = some k2 ∧ Φ (.bl (k1 || k2)) m')
    (n1 : x1 ≠ "__name__" := by decide) (d1 : (x1 == ("__debug__" : Str)) = false := by decide) (n2 : x2 ≠ "__name__" := by decide) (d2 : (x2 == ("__debug__" : Str)) = false := by decide)
    (he : starEach [e, .Tuple [.Name x1 p1, .Name x2 p2] j p3] X.env = (false, eval e X.env) :: starEach [.Tuple [.Name x1 p1, .Name x2 p2] j p3] X.env := by rfl) :
    DE X C r m (.Call (.Name x p) [e, .Tuple [.Name x1 p1, .Name x2 p2] j p3] [] pos) Φ := by
  subst hx
  exact ⟨fun τ σ H R => we_of (pe_callB call_isiT (G.gl hg) (by rw [G.emg]; exact hm) (by decide +kernel) (pa_cons we_pe (pa_cons (pe_tup (pa_cons (pe_bltn (v := .ty t1) (G.gl g1) (by rw [G.emg]; exact m1) v1 rfl n1 d1) (pa_cons (pe_bltn (v := .ty t2) (G.gl g2) (by rw [G.emg]; exact m2) v2 rfl n2 d2) pa_nil))) pa_nil) he)
      (by decide) (by decide) he) ((h τ σ H R).mono fun v H1 ⟨d, mm, R1, n, k1, k2, hn, e1, e2, q⟩ => ⟨by show 2 ≤ sizeLine; decide, fun tp htp => by
    have R2 := R1.newTup (ds := []) htp .nil
    refine ⟨v, tp, [.ty t1, .ty t2], .type n, [.type t1, .type t2], k1 || k2, rfl, upd_same, .cons (.ty t1) (.cons (.ty t2) .nil), ?_, ?_, ?_⟩
    · exact tyx_of (sto_push R1.sto htp) (R1.top.ext R1.sto (ext_new htp) .refl) hn
    · refine kitAny_cons (kit_ty e1) (fun z => ?_) (fun z => by rw [z]; rfl)
      refine kitAny_cons (r := k1 || k2) (kit_ty e2) (fun z' => by rw [z, z']; rfl) (fun z' => by rw [z']; simp)
    · exact ⟨_, mm, ((R1.pop.step (ext_new htp) .refl (sto_push R1.sto htp)).push (.bl _)), q⟩⟩)⟩

/-! ### calls with keywords -/
def pick {α : Type} : List Nat → List α → List α
  | [], _ => []
  | i :: ix, l => match l[i]? with
    | some x => x :: pick ix l
    | none => pick ix l
theorem pick_vals : ∀ (ix : List Nat) {vs : List V} {us : List Value}, Vals vs us → Vals (pick ix vs) (pick ix us)
  | [], _, _, _ => .nil
  | i :: ix, vs, us, h => by
    unfold pick
    cases e : vs[i]? with
    | none => rw [h.none_of e]; exact pick_vals ix h
    | some x =>
      obtain ⟨u, h1, h2⟩ := h.get e
      rw [h1]
      exact .cons h2 (pick_vals ix h)
theorem pick_den {H : Hp} : ∀ (ix : List Nat) {vs : List V} {ds : List D}, DenL K H m vs ds → DenL K H m (pick ix vs) (pick ix ds)
  | [], _, _, _ => .nil
  | i :: ix, vs, ds, h => by
    unfold pick
    cases e : ds[i]? with
    | none =>
      have : vs[i]? = none := by
        rw [List.getElem?_eq_none_iff, h.length]
        exact List.getElem?_eq_none_iff.mp e
      rw [this]; exact pick_den ix h
    | some x =>
      obtain ⟨u, h1, h2⟩ := h.get e
      rw [h1]
      exact .cons h2 (pick_den ix h)
def gK {α : Type} (p q : Nat) (ix : List Nat) (us ws : List α) : List α := if us.length = p ∧ ws.length = q then pick ix (us ++ ws) else []
theorem kbinds_of {K : PySem.W.Frag} {fd : FuncData} {ps ks : List Str} {p q : Nat} {ix : List Nat} (h0 : ps ≠ []) (h : ∀ us ws : List Value, us.length = p → ws.length = q → bindArgs fd ⟨us, ks.zip ws⟩ = pure (ps.zip (pick ix (us ++ ws)))) : KBinds K fd ps ks (gK p q ix) (gK p q ix) where
  to := fun s us ws _ hl => by
    unfold gK at hl ⊢
    split at hl
    · rename_i hh
      rw [if_pos hh]
      exact .of_eq (h us ws hh.1 hh.2)
    · exact absurd (List.length_eq_zero_iff.mp hl.symm) h0
  rel := fun {vs us zs ws} h1 h2 => by
    unfold gK
    rw [h1.length, h2.length]
    split
    · exact pick_vals ix (h1.append h2)
    · exact .nil
def WK (X : Cx) (kws : List Keyword) : TA := fun σ H Q => ∀ (pos : Pos) (pins : List (Addr × Obj)) (s : Shared), Inv X pins σ H s → wpAny (model X.prog X.w) X.A (evalAll ((backToKw pos (keywordEach kws X.env)).map (·.2))) (AP X pins σ Q) X.xe s
theorem wk_pk {kws : List Keyword} : PK X kws (WK X kws) := ⟨fun pos pins s σ H Q I h => h pos pins s I⟩
theorem wk_of {kws : List Keyword} {t : TA} (h : PK X kws t) {σ : L2.St} {H : Hp} {Q : List V → Hp → Prop} (q : t σ H Q) : WK X kws σ H Q := fun pos pins s I => h.run pos pins s σ H Q I q
theorem WK.mono {kws : List Keyword} {σ : L2.St} {H : Hp} {Q Q' : List V → Hp → Prop} (h : WK X kws σ H Q) (k : ∀ v H', Q v H' → Q' v H') : WK X kws σ H Q' := fun pos pins s I =>
  thn (h pos pins s I) fun _ _ ⟨v, H', I', r, q⟩ => ⟨v, H', I', r, k v H' q⟩
structure DK (X : Cx) (C : Ctx) (r : Slo) (m : Sto) (kws : List Keyword) (Φ : List D → Sto → Prop) : Prop where
  run : ∀ τ σ H, Rel X.K C r m τ σ H → WK X kws σ H fun vs H' => ∃ ds m', Rel X.K C r m' τ σ H' ∧ DenL X.K H' m' vs ds ∧ Φ ds m'
instance {X : Cx} {C : Ctx} {r : Slo} {m : Sto} {kws : List Keyword} {Φ : List D → Sto → Prop} : CoeFun (DK X C r m kws Φ) (fun _ => ∀ τ σ H, Rel X.K C r m τ σ H → WK X kws σ H fun vs H' => ∃ ds m', Rel X.K C r m' τ σ H' ∧ DenL X.K H' m' vs ds ∧ Φ ds m') := ⟨fun h => h.run⟩
theorem dk_nil {Φ : List D → Sto → Prop} (q : Φ [] m) : DK X C r m [] Φ := ⟨fun τ σ H R => wk_of pk_nil ⟨[], m, R, .nil, q⟩⟩
theorem dk_cons {Φ : List D → Sto → Prop} {kws : List Keyword} {nm : Option Str} {kpos : Pos} (h : DE X C r m e fun d m1 => DK X C r m1 kws fun ds m2 => Φ (d :: ds) m2) : DK X C r m (⟨nm, e, kpos⟩ :: kws) Φ := ⟨fun τ σ H R =>
  wk_of (pk_cons we_pe wk_pk) ((h τ σ H R).mono fun v1 H1 ⟨d1, m1, R1, h1⟩ => (h1 _ σ H1 R1).mono fun vs H2 ⟨ds, m2, R2, hl, h2⟩ =>
    ⟨d1 :: ds, m2, R2.pop, .cons R2.top hl, h2⟩)⟩
theorem Good.callK (G : Good P w K mg base N sc fr k X) {j : Nat} {x : Str} {st : Stmt} {ps ks : List Str} {F : FS} {p : Pos} {kws : List Keyword} (Fx : Fn P w K mg base j x st ps F) (hj : j ≤ k) (hg : sc.names.lookup x = some .globalImplicit) (p0 q0 : Nat) (ix : List Nat)
    (h0 : ps ≠ []) (hb : ∀ (kV doc pm : Value) (an : Option Addr) (cdv ct : Value) (us ws : List Value), us.length = p0 → ws.length = q0 → bindArgs (PySem.W.fnOf x x (defArgs st) (defBody st) (defScope st) .none kV doc pm an cdv ct) ⟨us, ks.zip ws⟩ = pure (ps.zip (pick ix (us ++ ws))))
    (h : DA X C r m (e :: es) fun ds m1 => DK X C r m1 kws fun zs m2 => F (gK p0 q0 ix ds zs) m2 Φ) (hall : (backToKw pos (keywordEach kws X.env)).all (·.1.isSome) = true := by rfl) (hks : (backToKw pos (keywordEach kws X.env)).filterMap (·.1) = ks := by rfl)
    (hdb : (x == ("__debug__" : Str)) = false := by decide) (he : starEach (e :: es) X.env = (false, eval e X.env) :: starEach es X.env := by rfl)
    (hpl : ((backTo pos (starEach (e :: es) X.env)).any (·.1) || (backToKw pos (keywordEach kws X.env)).any (·.1.isNone)) = false := by rfl) :
    DE X C r m (.Call (.Name x p) (e :: es) kws pos) Φ := by
  obtain ⟨f, fd, Fu, hm, _, ok⟩ := Fx.ex
  have kb : KBinds K fd ps ks (gK p0 q0 ix) (gK p0 q0 ix) := by
    obtain ⟨oc, od, kV, doc, pm, an, cdv, ct, osl, rfl, lk, hcd⟩ := Fu.ex
    exact kbinds_of h0 (hb kV doc pm an cdv ct)
  have hgl := G.gl hg
  have hr := G.room.mono hj
  obtain ⟨rfl, rfl, rfl, rfl, rfl, _⟩ := G
  exact ⟨fun τ σ H R => we_of (pe_callK ok hr hgl hm Fu.kp kb pass0 wa_pa wk_pk hall hks hdb he hpl) ((h τ σ H R).mono fun vs H1 ⟨ds, m1, R1, l, q⟩ => (q (vs.zip ds ++ τ) σ H1 ⟨R1.toBase, R1.slots, R1.len, fun p hp => by
      rcases List.mem_append.mp hp with hp | hp
      · obtain ⟨i, hi⟩ := List.mem_iff_getElem?.mp hp
        obtain ⟨h3, h4⟩ := List.getElem?_zip_eq_some.mp hi
        obtain ⟨x, h5, h6⟩ := l.get' h3
        rw [h4] at h5; cases h5
        exact h6
      · exact R1.tmp p hp⟩).mono fun zs H2 ⟨es, m2, R2, l2, q2⟩ => by
    have key : ∀ (vs : List V) (ds : List D), vs.length = ds.length → (∀ p ∈ vs.zip ds, Den X.K H2 m2 p.1 p.2) → DenL X.K H2 m2 vs ds := by
      intro vs
      induction vs with
      | nil => intro ds hl _; cases ds with
        | nil => exact .nil
        | cons _ _ => cases hl
      | cons v vs ih => intro ds hl hz; cases ds with
        | nil => cases hl
        | cons d ds => exact .cons (hz (v, d) List.mem_cons_self) (ih ds (by simpa using hl) fun p hp => hz p (List.mem_cons_of_mem _ hp))
    have l1 := key vs ds l.length fun p hp => R2.tmp p (List.mem_append_left _ hp)
    refine call_end R2.popL ?_ q2
    unfold gK
    rw [l1.length, l2.length]
    split
    · exact pick_den ix (l1.append l2)
    · exact .nil)⟩
theorem Good.callK0 (G : Good P w K mg base N sc fr k X) {j : Nat} {x : Str} {st : Stmt} {ps ks : List Str} {F : FS} {p : Pos} {kws : List Keyword} (Fx : Fn P w K mg base j x st ps F) (hj : j ≤ k) (hg : sc.names.lookup x = some .globalImplicit) (q0 : Nat) (ix : List Nat)
    (h0 : ps ≠ []) (hb : ∀ (kV doc pm : Value) (an : Option Addr) (cdv ct : Value) (us ws : List Value), us.length = 0 → ws.length = q0 → bindArgs (PySem.W.fnOf x x (defArgs st) (defBody st) (defScope st) .none kV doc pm an cdv ct) ⟨us, ks.zip ws⟩ = pure (ps.zip (pick ix (us ++ ws))))
    (h : DK X C r m kws fun zs m2 => F (gK 0 q0 ix [] zs) m2 Φ) (hall : (backToKw pos (keywordEach kws X.env)).all (·.1.isSome) = true := by rfl) (hks : (backToKw pos (keywordEach kws X.env)).filterMap (·.1) = ks := by rfl)
    (hdb : (x == ("__debug__" : Str)) = false := by decide)
    (hpl : ((backTo pos (starEach [] X.env)).any (·.1) || (backToKw pos (keywordEach kws X.env)).any (·.1.isNone)) = false := by rfl) :
    DE X C r m (.Call (.Name x p) [] kws pos) Φ := by
  obtain ⟨f, fd, Fu, hm, _, ok⟩ := Fx.ex
  have kb : KBinds K fd ps ks (gK 0 q0 ix) (gK 0 q0 ix) := by
    obtain ⟨oc, od, kV, doc, pm, an, cdv, ct, osl, rfl, lk, hcd⟩ := Fu.ex
    exact kbinds_of h0 (hb kV doc pm an cdv ct)
  have hgl := G.gl hg
  have hr := G.room.mono hj
  obtain ⟨rfl, rfl, rfl, rfl, rfl, _⟩ := G
  refine ⟨fun τ σ H R pins s I => ?_⟩
  refine wpAny_Call_Name_kw (ld_glob I hgl hm ?_ hdb)
  refine PySem.W.callWith_KW0 (h₀ := X.base) I.ok.mod.kin Fu.kp hall (thn (h τ σ H R pos pins s I) fun us s1 ⟨vs, H1, I1, rv, ds, m1, R1, l, q⟩ => ⟨I1.kIn, ?_⟩) hpl
  rw [hks]
  refine run_fnk ok hr kb pass0 I1 .nil rv (call_end R1 ?_ q)
  show DenL _ _ _ (gK 0 q0 ix [] vs) (gK 0 q0 ix [] ds)
  unfold gK
  rw [l.length]
  by_cases hh : (([] : List V).length = 0 ∧ ds.length = q0)
  · rw [if_pos hh, if_pos ⟨rfl, hh.2⟩]; exact pick_den ix l
  · rw [if_neg hh, if_neg (fun z => hh ⟨rfl, z.2⟩)]; exact .nil

/-! ### a def keeps its promise -/
theorem start_rel {ds : List D} {vs : List V} {H : Hp} {m : Sto} (N : List Str) (s : StoRel K H m) (l : DenL K H m vs ds) : Rel K ⟨H, m⟩ (ds.map some ++ List.replicate (N.length - ds.length) none) m [] (start N vs) H := by
  refine ⟨⟨s, .refl, .refl⟩, fun i d q => ?_, ?_, fun _ h => nomatch h⟩
  · unfold L2.start
    by_cases hi : i < ds.length
    · rw [List.getElem?_append_left (by simpa using hi), List.getElem?_map] at q
      cases e : ds[i]? with
      | none => rw [e] at q; cases q
      | some x =>
        rw [e] at q
        cases q
        obtain ⟨v, h1, h2⟩ := l.get e
        refine ⟨v, ?_, h2⟩
        rw [List.getElem?_append_left (by simpa [l.length] using hi), List.getElem?_map, h1]
        rfl
    · rw [List.getElem?_append_right (by simpa using hi)] at q
      rw [List.getElem?_replicate] at q
      split at q <;> cases q
  · unfold L2.start
    simp [l.length]
theorem fn_ok {x : Str} {st : Stmt} {f : Addr} {fd : FuncData} {N ps : List Str} {k : Nat} {F : FS} (Fu : Fun K x x st f fd) (S : FnScope N ps (defScope st)) (hl : ∀ ds m Φ, F ds m Φ → ds.length = ps.length)
    (hb : ∀ X C, Good P w K mg base N (defScope st) (fun _ => false) k X → ∀ ds m Φ, F ds m Φ → DS X C (ds.map some ++ List.replicate (N.length - ds.length) none) m (defBody st) { nx := fun _ m => Φ .non m, rt := Φ }) : FnOk P w K mg base CX0 (k + 1) f fd ps (spG K F) := by
  refine Fu.ok S (fun vs H Q E h => ?_) (fun cdv A outer s H vs Q E hr h => ?_)
  · obtain ⟨m, ds, Φ, s, l, h, _⟩ := h
    rw [l.length]; exact hl ds m Φ h
  · obtain ⟨m, ds, Φ, sr, l, h, q⟩ := h
    refine ⟨_, ws_ps, ?_⟩
    have D0 := hb ((cxOf CX0 P w K mg base N x (defScope st) f cdv A outer s H E).nox) ⟨H, m⟩ ⟨rfl, rfl, rfl, rfl, rfl, rfl, rfl, S.nd, S.kind, rfl, rfl, hr, fun _ _ _ => .inl rfl⟩ ds m Φ h
    intro pins s1 I
    refine thn (D0 [] _ H (start_rel N sr l) pins s1 I) fun fl s2 z => ?_
    cases fl with
    | next =>
      obtain ⟨σ', H', I', r', m', R', z⟩ := z
      exact ⟨σ', H', I', q .non m' .non H' z R'.sto R'.ext R'.dom .non⟩
    | ret u =>
      obtain ⟨v, σ', H', I', rv, d, m', B', t, z⟩ := z
      exact ⟨v, σ', H', I', rv, q d m' v H' z B'.sto B'.ext B'.dom t⟩
    | brk =>
      obtain ⟨σ', H', I', r', m', R', z⟩ := z
      exact ⟨σ', H', I', z⟩
    | cont =>
      obtain ⟨σ', H', I', r', m', R', z⟩ := z
      exact ⟨σ', H', I', z⟩
end

/-! ### what is walked -/
def WI (X : Cx) (tg iter : Expr) : TI := fun σ H R => ∀ (pins : List (Addr × Obj)) (s : Shared), Inv X pins σ H s →
  wpAny (model X.prog X.w) X.A (eval iter X.env) (fun v s1 => wpAny (model X.prog X.w) X.A (pyIter v) (PIE X pins σ tg R) X.xe s1) X.xe s
section
variable {X : Cx} {C : Ctx} {r : Slo} {m : Sto} {tg iter e a b c : Expr} {pos : Pos}
theorem wi_pi : PI X tg iter (WI X tg iter) := ⟨fun pins s σ H R I h => h pins s I⟩
theorem wi_of {t : TI} (h : PI X tg iter t) {σ : L2.St} {H : Hp} {R : It → Hp → Prop} (q : t σ H R) : WI X tg iter σ H R := fun pins s I => h.run pins s σ H R I q
theorem WI.mono {σ : L2.St} {H : Hp} {R R' : It → Hp → Prop} (h : WI X tg iter σ H R) (k : ∀ J H', R J H' → R' J H') : WI X tg iter σ H R' := fun pins s I =>
  thn (h pins s I) fun _ _ z => thn z fun _ _ ⟨it, fp, tn, J, H', e1, I', T, st, hf, q⟩ => ⟨it, fp, tn, J, H', e1, I', T, st, hf, k J H' q⟩
/-- a list's or a tuple's iterator -/
theorem wi_seq {σ : L2.St} {H : Hp} {R : It → Hp → Prop} (h : WE X iter σ H fun v H1 => (∃ p vs, v = .ref p ∧ SqL X.K H1 p vs ∧ R (Itl X.K p) H1) ∨ ∃ p vs, v = .ref p ∧ SqT X.K H1 p vs ∧ R (Itt X.K p) H1) : WI X tg iter σ H R := fun pins s I => by
  refine thn (h pins s I) fun u s1 ⟨v, H1, I1, rv, q⟩ => ?_
  have fpk : ∀ b ∈ [s1.heap.objs.size], FpOk X pins H1 b := fun b hb => by
    rw [List.mem_singleton.mp hb]
    exact I1.fpOk (Nat.le_refl _) (I1.hok.fresh (Nat.le_refl _))
  have kp : ∀ (o : Obj), Inv X pins σ H1 { s1 with heap := s1.heap.push o } := fun o => I1.kept (t' := s1.toks) fun b u z => Heap.get?_push_of_some _ z
  rcases q with ⟨p, vs, rfl, hq, q⟩ | ⟨p, vs, rfl, hq, q⟩
  · cases rv
    obtain ⟨its, r1, pl, _⟩ := I1.list hq
    exact wpAny_pyIter_list pl.isList ⟨s1.heap.objs.size, _, _, _, H1, rfl, kp _, turn_list p _, ⟨_, Heap.get?_push_size _ rfl, rfl, rfl⟩, fpk, q⟩
  · cases rv
    obtain ⟨its, r1, pl, _⟩ := I1.tuple hq
    exact wpAny_pyIter_tuple (show s1.heap.IsTuple p its.toArray from pl) ⟨s1.heap.objs.size, _, _, _, H1, rfl, kp _, turn_tuple p _, ⟨_, Heap.get?_push_size _ rfl, rfl, rfl⟩, fpk, q⟩
/-- J yields the data ds, one after the other, while what stands in τx denotes what it did and S holds of the store -/
structure Walks (K : PySem.W.Frag) (J : It) (τx : List (V × D)) (S : Sto → Prop) (ds : List D) : Prop where
  go : ∀ i H m, StoRel K H m → (∀ p ∈ τx, Den K H m p.1 p.2) → S m → i < ds.length → J.go i H
  yld : ∀ i H m x H', StoRel K H m → (∀ p ∈ τx, Den K H m p.1 p.2) → S m → i < ds.length → J.yld i H x H' → ∃ d, ds[i]? = some d ∧ Den K H' m x d ∧ Ext m H H' ∧ StoRel K H' m
  stop : ∀ i H m, StoRel K H m → (∀ p ∈ τx, Den K H m p.1 p.2) → S m → ds.length ≤ i → J.stop i H
structure DI (X : Cx) (C : Ctx) (r : Slo) (m : Sto) (tg iter : Expr) (Φ : List D → (Sto → Prop) → Sto → Prop) : Prop where
  run : ∀ τ σ H, Rel X.K C r m τ σ H → WI X tg iter σ H fun J H1 => ∃ ds S m1 τx, Rel X.K C r m1 (τx ++ τ) σ H1 ∧ Walks X.K J τx S ds ∧ Φ ds S m1
instance {X : Cx} {C : Ctx} {r : Slo} {m : Sto} {tg iter : Expr} {Φ : List D → (Sto → Prop) → Sto → Prop} : CoeFun (DI X C r m tg iter Φ) (fun _ => ∀ τ σ H, Rel X.K C r m τ σ H → WI X tg iter σ H fun J H1 => ∃ ds S m1 τx, Rel X.K C r m1 (τx ++ τ) σ H1 ∧ Walks X.K J τx S ds ∧ Φ ds S m1) := ⟨fun h => h.run⟩
theorem get_lt {α : Type} {l : List α} {i : Nat} (h : i < l.length) : l[i]? = some l[i] := List.getElem?_eq_getElem h
theorem walks_lst {K : PySem.W.Frag} {p : Addr} {ds : List D} : Walks K (Itl K p) [(.ref p, .lst ds)] (fun _ => True) ds where
  go := fun i H m s t _ hi => by
    have h := t _ List.mem_cons_self
    cases h with
    | @lst _ vs _ hs l =>
      obtain ⟨v, h1, _⟩ := l.get (get_lt hi)
      exact ⟨vs, v, hs.sq, h1⟩
  yld := fun i H m x H' s t _ hi y => by
    have h := t _ List.mem_cons_self
    cases h with
    | @lst _ vs _ hs l =>
      obtain ⟨v, h1, h2⟩ := l.get (get_lt hi)
      obtain ⟨rfl, y⟩ := y
      have e := y vs hs.sq
      rw [h1] at e; cases e
      exact ⟨_, get_lt hi, h2, .refl, s⟩
  stop := fun i H m s t _ hi => by
    have h := t _ List.mem_cons_self
    cases h with
    | @lst _ vs _ hs l => exact ⟨vs, hs.sq, by rw [l.length]; exact hi⟩
theorem walks_tup {K : PySem.W.Frag} {p : Addr} {ds : List D} : Walks K (Itt K p) [(.ref p, .tup ds)] (fun _ => True) ds where
  go := fun i H m s t _ hi => by
    have h := t _ List.mem_cons_self
    cases h with
    | @tup _ vs _ hs l =>
      obtain ⟨v, h1, _⟩ := l.get (get_lt hi)
      exact ⟨vs, v, hs, h1⟩
  yld := fun i H m x H' s t _ hi y => by
    have h := t _ List.mem_cons_self
    cases h with
    | @tup _ vs _ hs l =>
      obtain ⟨v, h1, h2⟩ := l.get (get_lt hi)
      obtain ⟨rfl, y⟩ := y
      have e := y vs hs
      rw [h1] at e; cases e
      exact ⟨_, get_lt hi, h2, .refl, s⟩
  stop := fun i H m s t _ hi => by
    have h := t _ List.mem_cons_self
    cases h with
    | @tup _ vs _ hs l => exact ⟨vs, hs, by rw [l.length]; exact hi⟩
theorem walks_loc {K : PySem.W.Frag} {p : Addr} {ds : List D} : Walks K (Itl K p) [] (fun m => m p = some (.lst ds)) ds where
  go := fun i H m s t hp hi => by
    obtain ⟨vs, hv, l⟩ := s p _ hp
    obtain ⟨v, h1, _⟩ := l.get (get_lt hi)
    exact ⟨vs, v, SqL.of hv, h1⟩
  yld := fun i H m x H' s t hp hi y => by
    obtain ⟨vs, hv, l⟩ := s p _ hp
    obtain ⟨v, h1, h2⟩ := l.get (get_lt hi)
    obtain ⟨rfl, y⟩ := y
    have e := y vs (SqL.of hv)
    rw [h1] at e; cases e
    exact ⟨_, get_lt hi, h2, .refl, s⟩
  stop := fun i H m s t hp hi => by
    obtain ⟨vs, hv, l⟩ := s p _ hp
    exact ⟨vs, SqL.of hv, by rw [l.length]; exact hi⟩
theorem di_l {Φ : List D → (Sto → Prop) → Sto → Prop} (h : DE X C r m iter fun d m1 => ∃ ds, d = .lst ds ∧ Φ ds (fun _ => True) m1) : DI X C r m tg iter Φ := ⟨fun τ σ H R =>
  wi_seq ((h τ σ H R).mono fun v H1 ⟨d, m1, R1, ds, e1, q⟩ => by
    subst e1
    have t := R1.top
    cases t with
    | lst hs l => exact .inl ⟨_, _, rfl, hs.sq, ds, _, m1, _, R1, walks_lst, q⟩)⟩
theorem di_t {Φ : List D → (Sto → Prop) → Sto → Prop} (h : DE X C r m iter fun d m1 => ∃ ds, d = .tup ds ∧ Φ ds (fun _ => True) m1) : DI X C r m tg iter Φ := ⟨fun τ σ H R =>
  wi_seq ((h τ σ H R).mono fun v H1 ⟨d, m1, R1, ds, e1, q⟩ => by
    subst e1
    have t := R1.top
    cases t with
    | tup hs l => exact .inr ⟨_, _, rfl, hs, ds, _, m1, _, R1, walks_tup, q⟩)⟩
theorem di_p {Φ : List D → (Sto → Prop) → Sto → Prop} (h : DE X C r m iter fun d m1 => ∃ p ds, d = .loc p ∧ m1 p = some (.lst ds) ∧ Φ ds (fun m' => m' p = some (.lst ds)) m1) : DI X C r m tg iter Φ := ⟨fun τ σ H R =>
  wi_seq ((h τ σ H R).mono fun v H1 ⟨d, m1, R1, p, ds, e1, hp, q⟩ => by
    subst e1
    have t := R1.top
    cases t
    obtain ⟨vs, hv, l⟩ := R1.sto p _ hp
    exact .inl ⟨p, vs, rfl, SqL.of hv, ds, _, m1, [], R1.pop, walks_loc, q⟩)⟩
/-- lo, lo + 1, .. -/
def rngD (lo : Int) (n : Nat) : List D := (List.range n).map fun (i : Nat) => D.int (lo + (i : Int))
theorem rngD_length (lo : Int) (n : Nat) : (rngD lo n).length = n := by simp [rngD]
theorem rngD_get {lo : Int} {n i : Nat} (h : i < n) : (rngD lo n)[i]? = some (.int (lo + (i : Int))) := by
  unfold rngD
  rw [List.getElem?_map, List.getElem?_range h]
  rfl
theorem walks_rng {K : PySem.W.Frag} {lo : Int} {n : Nat} : Walks K (Itr lo n) [] (fun _ => True) (rngD lo n) where
  go := fun i H m s t _ hi => by rw [rngD_length] at hi; exact hi
  yld := fun i H m x H' s t _ hi y => by
    rw [rngD_length] at hi
    obtain ⟨rfl, rfl⟩ := y
    exact ⟨_, rngD_get hi, .int _, .refl, s⟩
  stop := fun i H m s t _ hi => by rw [rngD_length] at hi; exact hi
end
section
variable {P : Program} {w : World} {K : PySem.W.Frag} {mg : Str → Option Value} {base : Heap} {N : List Str} {sc : Scope} {fr : Str → Bool} {k : Nat} {X : Cx} {C : Ctx} {r : Slo} {m : Sto} {tg iter e a b c : Expr} {es : List Expr} {pos : Pos} {κ : Kk}
theorem Good.rng1 (G : Good P w K mg base N sc fr k X) {p : Pos} {x : Str} (hx : x = "range") (hg : sc.names.lookup x = some .globalImplicit) (hm : mg x = none) {Φ : List D → (Sto → Prop) → Sto → Prop}
    (h : DA X C r m [a] fun ds m1 => ∃ n : Int, ds = [.int n] ∧ -(2 ^ 62) ≤ n ∧ n < 2 ^ 62 ∧ Φ (rngD 0 n.toNat) (fun _ => True) m1) (hs : starEach [a] X.env = [(false, eval a X.env)] := by rfl) : DI X C r m tg (.Call (.Name x p) [a] [] pos) Φ := by
  subst hx
  exact ⟨fun τ σ H R => wi_of (pi_range1 (G.gl hg) (by rw [G.emg]; exact hm) wa_pa hs) ((h τ σ H R).mono fun vs H1 ⟨ds, m1, R1, l, n, e1, h1, h2, q⟩ => by
    subst e1
    cases l with
    | cons t l =>
      cases l
      cases t
      exact ⟨n, rfl, h1, h2, _, _, m1, [], R1, walks_rng, q⟩)⟩
theorem Good.rng2 (G : Good P w K mg base N sc fr k X) {p : Pos} {x : Str} (hx : x = "range") (hg : sc.names.lookup x = some .globalImplicit) (hm : mg x = none) {Φ : List D → (Sto → Prop) → Sto → Prop}
    (h : DA X C r m [a, b] fun ds m1 => ∃ i j : Int, ds = [.int i, .int j] ∧ (-(2 ^ 62) ≤ i ∧ i < 2 ^ 62 ∧ -(2 ^ 62) ≤ j ∧ j < 2 ^ 62) ∧ Φ (rngD i (j - i).toNat) (fun _ => True) m1)
    (hs : starEach [a, b] X.env = [(false, eval a X.env), (false, eval b X.env)] := by rfl) (hs2 : starEach [b] X.env = [(false, eval b X.env)] := by rfl) : DI X C r m tg (.Call (.Name x p) [a, b] [] pos) Φ := by
  subst hx
  exact ⟨fun τ σ H R => wi_of (pi_range2 (G.gl hg) (by rw [G.emg]; exact hm) wa_pa hs hs2) ((h τ σ H R).mono fun vs H1 ⟨ds, m1, R1, l, i, j, e1, h1, q⟩ => by
    subst e1
    cases l with
    | cons t l =>
      cases l with
      | cons t' l =>
        cases l
        cases t
        cases t'
        exact ⟨i, j, rfl, h1, _, _, m1, [], R1, walks_rng, q⟩)⟩

/-! ### for -/
theorem Rel.xs {K : PySem.W.Frag} {τx τ : List (V × D)} {σ : L2.St} {H : Hp} (R : Rel K C r m (τx ++ τ) σ H) : ∀ p ∈ τx, Den K H m p.1 p.2 := fun p hp => R.tmp p (List.mem_append_left _ hp)
theorem Rel.popX {K : PySem.W.Frag} {τx τ : List (V × D)} {σ : L2.St} {H : Hp} (R : Rel K C r m (τx ++ τ) σ H) : Rel K C r m τ σ H := ⟨R.toBase, R.slots, R.len, fun p hp => R.tmp p (List.mem_append_right _ hp)⟩
theorem Good.for_ (G : Good P w K mg base N sc fr k X) {body : List Stmt} (h : DI X C r m tg iter fun ds S m1 => ∃ I : Nat → Slo → Sto → Prop, I 0 r m1 ∧ (∀ i r' m', I i r' m' → S m') ∧
      (∀ i d r' m', ds[i]? = some d → I i r' m' → DG X C r' m' tg d (fun _ => True) fun r2 m2 => DS X C r2 m2 body { κ with nx := I (i + 1), ct := I (i + 1), bk := κ.nx }) ∧ (∀ r' m', I ds.length r' m' → κ.nx r' m'))
    (hs : ∀ x, foldedSetIterable iter X.env x = pure x := by intro _; rfl) : D1 X C r m (.For tg iter body [] pos) κ := ⟨fun τ σ H R =>
  w1_of (ps_for (by rw [G.xe]; exact PassesOwn.never) G.calm wi_pi wg_pg ws_ps hs) ((h τ σ H R).mono fun J H1 ⟨ds, S, m1, τx, R1, W, I, h0, hS, step, last⟩ => by
    refine ⟨fun i n σ H => n = ds.length - i ∧ i ≤ ds.length ∧ ∃ r' m', Rel X.K C r' m' (τx ++ τ) σ H ∧ I i r' m', ⟨ds.length, by simp, Nat.zero_le _, r, m1, R1, h0⟩, ?_⟩
    rintro i n σ2 H2 ⟨rfl, hi, r2, m2, R2, i2⟩
    by_cases hlt : i < ds.length
    · refine .inr ⟨W.go i H2 m2 R2.sto R2.xs (hS i r2 m2 i2) hlt, fun σ H => ∃ r' m', Rel X.K C r' m' (τx ++ τ) σ H ∧ I (i + 1) r' m', fun σ' H' ⟨r', m', R', i'⟩ => ⟨ds.length - (i + 1), by omega, rfl, hlt, r', m', R', i'⟩, fun x H3 y => ?_⟩
      obtain ⟨d, hd, t, e1, s1⟩ := W.yld i H2 m2 x H3 R2.sto R2.xs (hS i r2 m2 i2) hlt y
      refine (step i d r2 m2 hd i2 (τx ++ τ) σ2 H3 x (R2.step e1 .refl s1) t).mono fun σ4 H4 ⟨r4, m4, R4, _, z⟩ => ?_
      intro pins s Iv
      refine thn (z (τx ++ τ) σ4 H4 R4 pins s Iv) fun f s' q => ?_
      cases f with
      | next => exact q
      | cont => exact q
      | brk =>
        obtain ⟨σ5, H5, I5, r5, m5, R5, q⟩ := q
        exact ⟨σ5, H5, I5, r5, m5, R5.popX, q⟩
      | ret v => exact q
    · have e1 : i = ds.length := by omega
      subst e1
      exact .inl ⟨W.stop _ H2 m2 R2.sto R2.xs (hS _ r2 m2 i2) (Nat.le_refl _), r2, m2, R2.popX, last r2 m2 i2⟩)⟩
/-- turn by turn -/
def loopD (X : Cx) (C : Ctx) (tg : Expr) (body : List Stmt) (κ : Kk) : List D → Slo → Sto → Prop
  | [], r, m => κ.nx r m
  | d :: ds, r, m => DG X C r m tg d (fun _ => True) fun r2 m2 => DS X C r2 m2 body { κ with nx := loopD X C tg body κ ds, ct := loopD X C tg body κ ds, bk := κ.nx }
theorem Good.forU (G : Good P w K mg base N sc fr k X) {body : List Stmt} (h : DI X C r m tg iter fun ds S m1 => (∀ m', S m') ∧ loopD X C tg body κ ds r m1) (hs : ∀ x, foldedSetIterable iter X.env x = pure x := by intro _; rfl) : D1 X C r m (.For tg iter body [] pos) κ := by
  refine G.for_ ⟨fun τ σ H R => (h τ σ H R).mono fun J H1 ⟨ds, S, m1, τx, R1, W, hS, q⟩ => ⟨ds, S, m1, τx, R1, W, fun i r' m' => loopD X C tg body κ (ds.drop i) r' m', q, fun _ _ m' _ => hS m', fun i d r' m' hd z => ?_, fun r' m' z => ?_⟩⟩ hs
  · have hi : i < ds.length := (List.getElem?_eq_some_iff.mp hd).1
    have e1 : ds.drop i = d :: ds.drop (i + 1) := by
      rw [List.drop_eq_getElem_cons hi]
      rw [List.getElem?_eq_getElem hi] at hd
      cases hd
      rfl
    have z : loopD X C tg body κ (ds.drop i) r' m' := z
    rw [e1] at z
    exact z
  · have z : loopD X C tg body κ (ds.drop ds.length) r' m' := z
    rw [List.drop_length] at z
    exact z
theorem Good.while_ (G : Good P w K mg base N sc fr k X) {body : List Stmt} (I : Nat → Slo → Sto → Prop) (n0 : Nat) (h0 : I n0 r m)
    (hs : ∀ n r' m', I n r' m' → DT X C r' m' c fun b m1 => (b = true → DS X C r' m1 body { κ with nx := fun r2 m2 => ∃ n', n' < n ∧ I n' r2 m2, ct := fun r2 m2 => ∃ n', n' < n ∧ I n' r2 m2, bk := κ.nx }) ∧ (b = false → κ.nx r' m1)) :
    D1 X C r m (.While c body [] pos) κ := d1_while (by rw [G.xe]; exact PassesOwn.never) I n0 h0 hs

/-! ### list comprehensions -/
/-- a comprehension's block -/
def Blk (X : Cx) (scope : Scope) (X' : Cx) : Prop := ∃ (s : Shared) (H : Hp) (Cc : Addr) (cl : List (Str × Addr)) (fp : List Addr), X' = X.blk s H scope (compEnvC scope cl Cc X.env) fp
def frB (scope : Scope) (x : Str) : Bool := match scope.names.lookup x with
  | some .free => true
  | _ => false
theorem Good.blk (G : Good P w K mg base N sc fr k X) {scope : Scope} {X' : Cx} (hk : scope.kind = .function) (B : Blk X scope X') : Good P w K mg base N (relS scope sc) (frB scope) k X' := by
  obtain ⟨s, H, Cc, cl, fp, rfl⟩ := B
  refine ⟨G.eP, G.ew, G.eK, G.emg, G.ebase, G.eN, ?_, G.nd, hk, G.calm, rfl, G.room, fun x hx hf => ?_⟩
  · show relabel scope X.env = relS scope sc
    have e1 := G.esc
    cases hX : X.env with
    | mk s1 => rw [hX] at e1; cases e1; rfl
  · rcases hx with hx | hx
    · exact .inr hx
    · obtain ⟨k', h1, h2⟩ := lookup_relS hx
      rcases h2 with rfl | ⟨rfl, _⟩
      · refine .inl ?_
        show (scope.names.lookup x == some .cell) = true
        rw [h1]; rfl
      · unfold frB at hf
        rw [h1] at hf
        cases hf
def wipeR (r : Slo) : List Nat → Slo
  | [] => r
  | v :: vs => (wipeR r vs).set v none
theorem Rel.setN {K : PySem.W.Frag} {τ : List (V × D)} {σ : L2.St} {H : Hp} {i : Nat} (R : Rel K C r m τ σ H) : Rel K C (r.set i none) m τ (σ.set i none) H :=
  ⟨R.toBase, fun j x q => by
    by_cases hj : j = i
    · subst hj
      by_cases hl : j < r.length
      · rw [List.getElem?_set_self hl] at q; cases q
      · rw [List.getElem?_eq_none (by rw [List.length_set]; omega)] at q; cases q
    · rw [List.getElem?_set_ne (Ne.symm hj)] at q
      obtain ⟨w, h1, h2⟩ := R.slots j x q
      exact ⟨w, by rw [List.getElem?_set_ne (Ne.symm hj)]; exact h1, h2⟩, by rw [List.length_set, List.length_set]; exact R.len, R.tmp⟩
theorem Rel.wipe {K : PySem.W.Frag} {τ : List (V × D)} {σ : L2.St} {H : Hp} (R : Rel K C r m τ σ H) : ∀ vs : List Nat, Rel K C (wipeR r vs) m τ (L2.wipe σ vs) H
  | [] => R
  | v :: vs => (Rel.wipe R vs).setN
theorem wipe_len (σ : L2.St) : ∀ vs : List Nat, (L2.wipe σ vs).length = σ.length := wipe_length σ
theorem wipe_get {σ : L2.St} : ∀ (vs : List Nat) (j : Nat), (L2.wipe σ vs)[j]? = if j ∈ vs then (if j < σ.length then some none else none) else σ[j]?
  | [], j => by simp [L2.wipe]
  | v :: vs, j => by
    unfold L2.wipe
    by_cases hj : j = v
    · subst hj
      by_cases hl : j < σ.length
      · rw [List.getElem?_set_self (by rw [wipe_length]; exact hl)]; simp [hl]
      · rw [List.getElem?_eq_none (by rw [List.length_set, wipe_length]; omega)]; simp [hl]
    · rw [List.getElem?_set_ne (Ne.symm hj), wipe_get vs j]
      simp [hj]
theorem wipe_eq {σ σ' : L2.St} {vs : List Nat} (hl : σ'.length = σ.length) (h : ∀ j, ¬ j ∈ vs → σ'[j]? = (L2.wipe σ vs)[j]?) : L2.wipe σ' vs = L2.wipe σ vs := by
  apply List.ext_getElem?
  intro j
  rw [wipe_get vs j]
  by_cases hj : j ∈ vs
  · rw [wipe_get vs j, if_pos hj, if_pos hj, hl]
  · rw [if_neg hj, h j hj]
/-- a clause's tests -/
def WTs (X : Cx) (ifs : List Expr) : TT := fun σ H Q => ∀ (pins : List (Addr × Obj)) (s : Shared), Inv X pins σ H s →
    wpAny (model X.prog X.w) X.A (forIn ifs true fun c r => if r = true then do let ok ← isTrue c X.env (eval c X.env); pure (ForInStep.yield ok) else pure (ForInStep.yield r)) (TP X pins σ Q) X.xe s
theorem wts_of {ifs : List Expr} {t : TT} (h : PTs X ifs t) {σ : L2.St} {H : Hp} {Q : Bool → Hp → Prop} (q : t σ H Q) : WTs X ifs σ H Q := fun pins s I => h.run pins s σ H Q I q
theorem WTs.mono {ifs : List Expr} {σ : L2.St} {H : Hp} {Q Q' : Bool → Hp → Prop} (h : WTs X ifs σ H Q) (k : ∀ v H', Q v H' → Q' v H') : WTs X ifs σ H Q' := fun pins s I =>
  thn (h pins s I) fun _ _ ⟨H', I', q⟩ => ⟨H', I', k _ H' q⟩
structure DTs (X : Cx) (C : Ctx) (r : Slo) (m : Sto) (ifs : List Expr) (Φ : Bool → Sto → Prop) : Prop where
  run : ∀ τ σ H, Rel X.K C r m τ σ H → WTs X ifs σ H fun b H' => ∃ m', Rel X.K C r m' τ σ H' ∧ Φ b m'
instance {X : Cx} {C : Ctx} {r : Slo} {m : Sto} {ifs : List Expr} {Φ : Bool → Sto → Prop} : CoeFun (DTs X C r m ifs Φ) (fun _ => ∀ τ σ H, Rel X.K C r m τ σ H → WTs X ifs σ H fun b H' => ∃ m', Rel X.K C r m' τ σ H' ∧ Φ b m') := ⟨fun h => h.run⟩
theorem dts_nil {Φ : Bool → Sto → Prop} (q : Φ true m) : DTs X C r m [] Φ := ⟨fun τ σ H R => wts_of pts_nil ⟨m, R, q⟩⟩
theorem dts_one {Φ : Bool → Sto → Prop} (h : DT X C r m c Φ) : DTs X C r m [c] Φ := ⟨fun τ σ H R => wts_of (pts_one wt_pt) (h τ σ H R)⟩
/-- what a turn of a comprehension asks -/
def CTurn (X : Cx) (C : Ctx) (r : Slo) (vs : List Nat) (scope : Scope) (tg elt : Expr) (ifs : List Expr) (p : Addr) (d : D) (m : Sto) (Nx : Sto → Prop) : Prop :=
  ∀ X1, Blk X scope X1 → DG X1 C (wipeR r vs) m tg d (· ∈ vs) fun r1 m1 => ∀ X2, Blk X scope X2 → DTs X2 C r1 m1 ifs fun b m2 =>
    (b = true → ∀ X3, Blk X scope X3 → DE X3 C r1 m2 elt fun y m3 => ∃ acc, m3 p = some (.lst acc) ∧ acc.length < sizeLine ∧ Nx (up m3 p (.lst (acc ++ [y])))) ∧ (b = false → Nx m2)
section
variable {scope : Scope} {own : List (Str × Nat)} {elt : Expr} {ifs : List Expr}
def gB (X : Cx) (scope : Scope) (tg : Expr) : TG := fun v σ H Q => ∀ X', Blk X scope X' → WG X' tg v σ H Q
def ttB (X : Cx) (scope : Scope) (ifs : List Expr) : TT := fun σ H Q => ∀ X', Blk X scope X' → WTs X' ifs σ H Q
def teB (X : Cx) (scope : Scope) (elt : Expr) : TE := fun σ H Q => ∀ X', Blk X scope X' → WE X' elt σ H Q
/-- the slots' values and data, as temporaries -/
def held (σ : L2.St) (r : Slo) : List (V × D) := (σ.zip r).filterMap fun q => match q with
  | (some v, some d) => some (v, d)
  | _ => none
theorem held_mem {σ : L2.St} {r : Slo} {j : Nat} {v : V} {d : D} (h1 : σ[j]? = some (some v)) (h2 : r[j]? = some (some d)) : (v, d) ∈ held σ r :=
  List.mem_filterMap.mpr ⟨(some v, some d), List.mem_iff_getElem?.mpr ⟨j, List.getElem?_zip_eq_some.mpr ⟨h1, h2⟩⟩, rfl⟩
theorem of_held {σ : L2.St} {r : Slo} {x : V × D} (h : x ∈ held σ r) : ∃ j : Nat, σ[j]? = some (some x.1) ∧ r[j]? = some (some x.2) := by
  obtain ⟨⟨a1, b1⟩, h1, h2⟩ := List.mem_filterMap.mp h
  obtain ⟨j, hj⟩ := List.mem_iff_getElem?.mp h1
  obtain ⟨h3, h4⟩ := List.getElem?_zip_eq_some.mp hj
  cases a1 with
  | none => cases h2
  | some v =>
    cases b1 with
    | none => cases h2
    | some d => cases h2; exact ⟨j, h3, h4⟩
theorem Rel.hold {K : PySem.W.Frag} {τ : List (V × D)} {σ : L2.St} {H : Hp} (R : Rel K C r m τ σ H) : Rel K C r m (τ ++ held σ r) σ H :=
  ⟨R.toBase, R.slots, R.len, fun x hx => by
    rcases List.mem_append.mp hx with hx | hx
    · exact R.tmp x hx
    · obtain ⟨j, h3, h4⟩ := of_held hx
      obtain ⟨v', h5, h6⟩ := R.slots j _ h4
      rw [h3] at h5; cases h5
      exact h6⟩
theorem Rel.back {K : PySem.W.Frag} {τ : List (V × D)} {σ σ' : L2.St} {H H' : Hp} {r' : Slo} {m' : Sto} (R : Rel K C r m τ σ H) (R' : Rel K C r' m' (τ ++ held σ r) σ' H') : Rel K C r m' τ σ H' :=
  ⟨R'.toBase, fun j d q => by
    obtain ⟨v, h1, _⟩ := R.slots j d q
    exact ⟨v, h1, R'.tmp (v, d) (List.mem_append_right _ (held_mem h1 q))⟩, R.len, fun x hx => R'.tmp x (List.mem_append_left _ hx)⟩
theorem blk_K {X X' : Cx} (B : Blk X scope X') : X'.K = X.K := by obtain ⟨s, H, Cc, cl, fp, rfl⟩ := B; rfl
theorem lc_read {τ : List (V × D)} {σ : L2.St} {H : Hp} {Q : VK} (vs : List Nat)
    (h : DI X C r m tg iter fun ds S m1 => ∀ p, m1 p = none → ∃ I : Nat → Sto → Prop, I 0 (up m1 p (.lst [])) ∧ (∀ i m', I i m' → S m') ∧
      (∀ i d m', ds[i]? = some d → I i m' → CTurn X C r vs scope tg elt ifs p d m' (I (i + 1))) ∧
      (∀ m' H', I ds.length m' → Rel X.K C r m' ((.ref p, .loc p) :: τ) σ H' → Q (.ref p) H')) (R : Rel X.K C r m τ σ H) :
    tLc (WI X tg iter) (gB X scope tg) (ttB X scope ifs) (teB X scope elt) vs σ H Q := by
  refine (h τ σ H R).mono fun J H1 ⟨ds, S, m1, τx, R1, W, q⟩ => ?_
  intro p hp
  have hpm : m1 p = none := sto_free R1.sto hp
  obtain ⟨I, h0, hS, step, last⟩ := q p hpm
  refine ⟨fun i n H => n = ds.length - i ∧ i ≤ ds.length ∧ ∃ m', Rel X.K C r m' (τx ++ ((.ref p, .loc p) :: τ)) σ H ∧ I i m', ⟨ds.length, by simp, Nat.zero_le _, _, ?_, h0⟩, ?_⟩
  · have R2 := R1.newLoc (vs := []) (ds := []) hp .nil
    exact ⟨R2.toBase, R2.slots, R2.len, fun x hx => by
      rcases List.mem_append.mp hx with hx | hx
      · exact R2.tmp x (List.mem_cons_of_mem _ (List.mem_append_left _ hx))
      · rcases List.mem_cons.mp hx with rfl | hx
        · exact .loc p
        · exact R2.tmp x (List.mem_cons_of_mem _ (List.mem_append_right _ hx))⟩
  · rintro i n H2 ⟨rfl, hi, m2, R2, i2⟩
    by_cases hlt : i < ds.length
    · refine .inr ⟨W.go i H2 m2 R2.sto R2.xs (hS i m2 i2) hlt, fun H => ∃ m', Rel X.K C r m' (τx ++ ((.ref p, .loc p) :: τ)) σ H ∧ I (i + 1) m', fun H' ⟨m', R', i'⟩ => ⟨ds.length - (i + 1), by omega, rfl, hlt, m', R', i'⟩, fun x H3 y => ?_⟩
      obtain ⟨d, hd, t, e1, s1⟩ := W.yld i H2 m2 x H3 R2.sto R2.xs (hS i m2 i2) hlt y
      have R3 := R2.step e1 .refl s1
      have st := step i d m2 hd i2
      intro X1 B1
      have K1 := blk_K B1
      refine (st X1 B1 (τx ++ ((.ref p, .loc p) :: τ) ++ held σ r) (L2.wipe σ vs) H3 x (by rw [K1]; exact (R3.hold).wipe vs) (by rw [K1]; exact t)).mono fun σ4 H4 ⟨r4, m4, R4, hw, z⟩ => ⟨?_, ?_⟩
      · exact wipe_eq (by rw [hw.1, wipe_length]) hw.2
      intro X2 B2
      have K2 := blk_K B2
      refine (z X2 B2 (τx ++ ((.ref p, .loc p) :: τ) ++ held σ r) σ4 H4 (by rw [K2, ← K1]; exact R4)).mono fun b H5 ⟨m5, R5, zt, zf⟩ => ?_
      rw [K2] at R5
      cases b with
      | false =>
        rw [if_neg Bool.false_ne_true]
        exact ⟨m5, R3.back R5, zf rfl⟩
      | true =>
        rw [if_pos rfl]
        intro X3 B3
        have K3 := blk_K B3
        refine (zt rfl X3 B3 (τx ++ ((.ref p, .loc p) :: τ) ++ held σ r) σ4 H5 (by rw [K3]; exact R5)).mono fun v H6 ⟨yd, m6, R6, acc, ha, hz, nx⟩ => ?_
        rw [K3] at R6
        obtain ⟨ws, hv, l⟩ := R6.sto p _ ha
        have hne : m6 p ≠ none := by rw [ha]; exact fun z => nomatch z
        refine ⟨ws, hv, by rw [l.length]; exact hz, up m6 p (.lst (acc ++ [yd])), ?_, nx⟩
        have R7 := R6.step (ext_set hne) (dom_set hne) (sto_set (vs := ws ++ [v]) R6.sto hne (l.append (.cons R6.top .nil)))
        exact R3.back R7.pop
    · have e1 : i = ds.length := by omega
      subst e1
      exact .inl ⟨W.stop _ H2 m2 R2.sto R2.xs (hS _ m2 i2) (Nat.le_refl _), last m2 H2 i2 R2.popX⟩
theorem gB_pg {s : Shared} {H : Hp} {Cc : Addr} {cl : List (Str × Addr)} {fp : List Addr} : PG (X.blk s H scope (compEnvC scope cl Cc X.env) fp) tg (gB X scope tg) := ⟨fun pins s σ H v u Q I r h => h _ ⟨_, _, _, _, _, rfl⟩ pins s u I r⟩
theorem ttB_pt {s : Shared} {H : Hp} {Cc : Addr} {cl : List (Str × Addr)} {fp : List Addr} : PTs (X.blk s H scope (compEnvC scope cl Cc X.env) fp) ifs (ttB X scope ifs) := ⟨fun pins s σ H Q I h => h _ ⟨_, _, _, _, _, rfl⟩ pins s I⟩
theorem teB_pe {s : Shared} {H : Hp} {Cc : Addr} {cl : List (Str × Addr)} {fp : List Addr} : PE (X.blk s H scope (compEnvC scope cl Cc X.env) fp) elt (teB X scope elt) := ⟨fun pins s σ H Q I h => h _ ⟨_, _, _, _, _, rfl⟩ pins s I⟩
/-- [elt for tg in iter if ..]: a new mutable list p -/
theorem Good.lc (G : Good P w K mg base N sc fr k X) {Φ : D → Sto → Prop} (own : List (Str × Nat)) (ok : blkC N sc scope own = true)
    (h : DI X C r m tg iter fun ds S m1 => ∀ p, m1 p = none → ∃ I : Nat → Sto → Prop, I 0 (up m1 p (.lst [])) ∧ (∀ i m', I i m' → S m') ∧
      (∀ i d m', ds[i]? = some d → I i m' → CTurn X C r (own.map (·.2)) scope tg elt ifs p d m' (I (i + 1))) ∧ (∀ m', I ds.length m' → Φ (.loc p) m'))
    (hs : ∀ x, foldedSetIterable iter X.env x = pure x := by intro _; rfl) : DE X C r m (.ListComp elt [⟨tg, iter, ifs, 0⟩] scope pos) Φ := ⟨fun τ σ H R =>
  we_of (pe_lc G.calm (by rw [G.eN]; exact G.nd) wi_pi (by rw [G.eN, G.esc]; exact blkOk_by ok) (fun _ _ _ _ _ => gB_pg) (fun _ _ _ _ _ => ttB_pt) (fun _ _ _ _ _ => teB_pe) hs)
    (lc_read (own.map (·.2)) ⟨fun τ' σ' H' R' => (h τ' σ' H' R').mono fun J H1 ⟨ds, S, m1, τx, R1, W, q⟩ => ⟨ds, S, m1, τx, R1, W, fun p hp => let ⟨I, h0, hS, st, last⟩ := q p hp; ⟨I, h0, hS, st, fun m' H' i' R' => ⟨_, m', R', last m' i'⟩⟩⟩⟩ R)⟩
/-- name = [..] -/
theorem Good.setLc (G : Good P w K mg base N sc fr k X) {i : Nat} {y : Str} {py spos : Pos} (own : List (Str × Nat)) (ok : blkC N sc scope own = true) (hi : N[i]? = some y) (hyl : sc.names.lookup y = some .local)
    (hsw : ∀ env : PySem.Env, env.scope = sc → swapsWith (.ListComp elt [⟨tg, iter, ifs, 0⟩] scope pos) (some (.Name y py)) spos.line env = pure true)
    (h : DI X C r m tg iter fun ds S m1 => ∀ p, m1 p = none → ∃ I : Nat → Sto → Prop, I 0 (up m1 p (.lst [])) ∧ (∀ i m', I i m' → S m') ∧
      (∀ i d m', ds[i]? = some d → I i m' → CTurn X C r (own.map (·.2)) scope tg elt ifs p d m' (I (i + 1))) ∧ (∀ m', I ds.length m' → κ.nx (r.set i (some (.loc p))) m'))
    (hs : ∀ x, foldedSetIterable iter X.env x = pure x := by intro _; rfl) : D1 X C r m (.Assign [.Name y py] (.ListComp elt [⟨tg, iter, ifs, 0⟩] scope pos) spos) κ := ⟨fun τ σ H R =>
  w1_of (ps_setLc G.calm (by rw [G.eN]; exact G.nd) (by rw [G.eN]; exact hi) (by rw [G.esc]; exact hyl) (hsw _ G.esc) wi_pi (by rw [G.eN, G.esc]; exact blkOk_by ok) (fun _ _ _ _ _ => gB_pg) (fun _ _ _ _ _ => ttB_pt) (fun _ _ _ _ _ => teB_pe) hs)
    (lc_read (own.map (·.2)) ⟨fun τ' σ' H' R' => (h τ' σ' H' R').mono fun J H1 ⟨ds, S, m1, τx, R1, W, q⟩ => ⟨ds, S, m1, τx, R1, W, fun p hp => let ⟨I, h0, hS, st, last⟩ := q p hp; ⟨I, h0, hS, st, fun m' H' i' R' => ⟨_, m', R'.pop.set (.loc p), last m' i'⟩⟩⟩⟩ R)⟩

/-- the store at what stood -/
def Agr (m m' : Sto) : Prop := ∀ a, m a ≠ none → m' a = m a
theorem agr_up {p : Addr} {o : DO} (h : m p = none) : Agr m (up m p o) := fun a ha => up_ne fun e => ha (e ▸ h)
theorem sub_up {p : Addr} {o : DO} (h : m p = none) : Sub m (up m p o) := fun a u e => by
  rw [up_ne]
  · exact e
  · intro z; subst z; rw [h] at e; cases e
theorem take_fm {f : D → Option D} {ds : List D} {i : Nat} {d : D} (h : ds[i]? = some d) : (ds.take (i + 1)).filterMap f = (ds.take i).filterMap f ++ (match f d with
  | some y => [y]
  | none => []) := by
  rw [List.take_add_one, h, List.filterMap_append]
  simp only [Option.toList, List.filterMap_cons, List.filterMap_nil]
  cases f d <;> rfl
/-- a turn that leaves the store as it is -/
def PTurn (X : Cx) (C : Ctx) (r : Slo) (vs : List Nat) (scope : Scope) (tg elt : Expr) (ifs : List Expr) (d : D) (m : Sto) (y : Option D) : Prop :=
  ∀ X1, Blk X scope X1 → DG X1 C (wipeR r vs) m tg d (· ∈ vs) fun r1 m1 => ∀ X2, Blk X scope X2 → DTs X2 C r1 m1 ifs fun b m2 =>
    (b = true → ∀ X3, Blk X scope X3 → DE X3 C r1 m2 elt fun z m3 => m3 = m ∧ y = some z) ∧ (b = false → m2 = m ∧ y = none)
theorem DG.mono {ws : Nat → Prop} {d : D} {Φ Φ' : Slo → Sto → Prop} (h : DG X C r m tg d ws Φ) (k : ∀ r' m', Φ r' m' → Φ' r' m') : DG X C r m tg d ws Φ' := ⟨fun τ σ H v R t =>
  (h τ σ H v R t).mono fun _ _ ⟨r', m', R', hw, q⟩ => ⟨r', m', R', hw, k _ _ q⟩⟩
theorem DTs.mono {Φ Φ' : Bool → Sto → Prop} (h : DTs X C r m ifs Φ) (k : ∀ r' m', Φ r' m' → Φ' r' m') : DTs X C r m ifs Φ' := ⟨fun τ σ H R =>
  (h τ σ H R).mono fun _ _ ⟨m', R', q⟩ => ⟨m', R', k _ _ q⟩⟩
theorem DI.mono {Φ Φ' : List D → (Sto → Prop) → Sto → Prop} (h : DI X C r m tg iter Φ) (k : ∀ a b c, Φ a b c → Φ' a b c) : DI X C r m tg iter Φ' := ⟨fun τ σ H R =>
  (h τ σ H R).mono fun J H' ⟨ds, S, m', τx, R', W, q⟩ => ⟨ds, S, m', τx, R', W, k _ _ _ q⟩⟩
def MapQ (X : Cx) (C : Ctx) (r : Slo) (vs : List Nat) (scope : Scope) (tg elt : Expr) (ifs : List Expr) (ds : List D) (S : Sto → Prop) (m1 : Sto) (Ψ : List D → Sto → Prop) : Prop :=
  ds.length ≤ sizeLine ∧ (∀ m', Agr m1 m' → S m') ∧ ∃ f : D → Option D, (∀ d ∈ ds, ∀ m', Agr m1 m' → PTurn X C r vs scope tg elt ifs d m' (f d)) ∧ Ψ (ds.filterMap f) m1
theorem map_core {vs : List Nat} {ds : List D} {S : Sto → Prop} {m1 : Sto} {Ψ : List D → Sto → Prop} (h : MapQ X C r vs scope tg elt ifs ds S m1 Ψ) {p : Addr} (hp : m1 p = none) : ∃ I : Nat → Sto → Prop, I 0 (up m1 p (.lst [])) ∧ (∀ i m', I i m' → S m') ∧
      (∀ i d m', ds[i]? = some d → I i m' → CTurn X C r vs scope tg elt ifs p d m' (I (i + 1))) ∧ (∀ m', I ds.length m' → ∃ xs, m' = up m1 p (.lst xs) ∧ Ψ xs m1) := by
  obtain ⟨hz, hS, f, step, last⟩ := h
  refine ⟨fun i m' => m' = up m1 p (.lst ((ds.take i).filterMap f)), rfl, fun i m' e => hS m' (by rw [e]; exact agr_up hp), fun i d m' hd e => ?_, fun m' e => ⟨_, e, by rw [List.take_length]; exact last⟩⟩
  subst e
  have hi : i < ds.length := (List.getElem?_eq_some_iff.mp hd).1
  have hl : ((ds.take i).filterMap f).length < sizeLine := Nat.lt_of_le_of_lt (Nat.le_trans (List.length_filterMap_le ..) (List.length_take_le ..)) (Nat.lt_of_lt_of_le hi hz)
  have st := step d (List.mem_of_getElem? hd) _ (agr_up (o := .lst ((ds.take i).filterMap f)) hp)
  intro X1 B1
  refine (st X1 B1).mono fun r1 m2 z1 => ?_
  intro X2 B2
  refine (z1 X2 B2).mono fun b m3 z2 => ⟨fun hb X3 B3 => (z2.1 hb X3 B3).mono fun y m4 ⟨e4, ey⟩ => ?_, fun hb => ?_⟩
  · subst e4
    refine ⟨_, up_same, hl, ?_⟩
    show up (up m1 p _) p _ = up m1 p (.lst ((ds.take (i + 1)).filterMap f))
    rw [up_up, take_fm hd, ey]
  · obtain ⟨e4, ey⟩ := z2.2 hb
    subst e4
    show up m1 p _ = up m1 p (.lst ((ds.take (i + 1)).filterMap f))
    rw [take_fm hd, ey, List.append_nil]
/-- [elt for tg in iter if ..] whose turns leave the store: by value -/
theorem Good.map (G : Good P w K mg base N sc fr k X) {Φ : D → Sto → Prop} (own : List (Str × Nat)) (ok : blkC N sc scope own = true)
    (h : DI X C r m tg iter fun ds S m1 => MapQ X C r (own.map (·.2)) scope tg elt ifs ds S m1 fun xs m1 => Φ (.lst xs) m1) (hs : ∀ x, foldedSetIterable iter X.env x = pure x := by intro _; rfl) : DE X C r m (.ListComp elt [⟨tg, iter, ifs, 0⟩] scope pos) Φ :=
  de_freeze (G.lc own ok (h.mono fun ds S m1 q p hp => let ⟨I, h0, h1, h2, h3⟩ := map_core q hp; ⟨I, h0, h1, h2, fun m' i' => let ⟨xs, e, z⟩ := h3 m' i'; ⟨p, xs, rfl, by rw [e]; exact up_same, m1, by rw [e]; exact sub_up hp, hp, z⟩⟩) hs)
/-- .. as a mutable list -/
theorem Good.mapL (G : Good P w K mg base N sc fr k X) {Φ : D → Sto → Prop} (own : List (Str × Nat)) (ok : blkC N sc scope own = true)
    (h : DI X C r m tg iter fun ds S m1 => MapQ X C r (own.map (·.2)) scope tg elt ifs ds S m1 fun xs m1 => ∀ p, m1 p = none → Φ (.loc p) (up m1 p (.lst xs))) (hs : ∀ x, foldedSetIterable iter X.env x = pure x := by intro _; rfl) : DE X C r m (.ListComp elt [⟨tg, iter, ifs, 0⟩] scope pos) Φ :=
  G.lc own ok (h.mono fun ds S m1 q p hp => let ⟨I, h0, h1, h2, h3⟩ := map_core q hp; ⟨I, h0, h1, h2, fun m' i' => let ⟨xs, e, z⟩ := h3 m' i'; by rw [e]; exact z p hp⟩) hs
theorem Good.setMap (G : Good P w K mg base N sc fr k X) {i : Nat} {y : Str} {py spos : Pos} (own : List (Str × Nat)) (ok : blkC N sc scope own = true) (hi : N[i]? = some y) (hyl : sc.names.lookup y = some .local)
    (hsw : ∀ env : PySem.Env, env.scope = sc → swapsWith (.ListComp elt [⟨tg, iter, ifs, 0⟩] scope pos) (some (.Name y py)) spos.line env = pure true)
    (h : DI X C r m tg iter fun ds S m1 => MapQ X C r (own.map (·.2)) scope tg elt ifs ds S m1 fun xs m1 => κ.nx (r.set i (some (.lst xs))) m1) (hs : ∀ x, foldedSetIterable iter X.env x = pure x := by intro _; rfl) :
    D1 X C r m (.Assign [.Name y py] (.ListComp elt [⟨tg, iter, ifs, 0⟩] scope pos) spos) κ := ⟨fun τ σ H R =>
  w1_of (ps_setLc G.calm (by rw [G.eN]; exact G.nd) (by rw [G.eN]; exact hi) (by rw [G.esc]; exact hyl) (hsw _ G.esc) wi_pi (by rw [G.eN, G.esc]; exact blkOk_by ok) (fun _ _ _ _ _ => gB_pg) (fun _ _ _ _ _ => ttB_pt) (fun _ _ _ _ _ => teB_pe) hs)
    (lc_read (own.map (·.2)) ⟨fun τ' σ' H' R' => (h τ' σ' H' R').mono fun J H1 ⟨ds, S, m1, τx, R1, W, q⟩ => ⟨ds, S, m1, τx, R1, W, fun p hp => let ⟨I, h0, hS, st, last⟩ := map_core q hp; ⟨I, h0, hS, st, fun m' H' i' R' => by
      obtain ⟨xs, e, z⟩ := last m' i'
      subst e
      have t := R'.sto p _ up_same
      obtain ⟨ws, hv, l⟩ := t
      have R2 := R'.pop.sub (sub_up hp)
      exact ⟨_, m1, R2.set (.lst (.inl ⟨.inl hv, hp⟩) (l.sub (sub_up hp))), z⟩⟩⟩⟩ R)⟩
end
end

section
variable {P : Program} {w : World} {K : PySem.W.Frag} {mg : Str → Option Value} {base : Heap} {N : List Str} {sc : Scope} {fr : Str → Bool} {k : Nat} {X : Cx} {C : Ctx} {r : Slo} {m : Sto} {tg elt c : Expr} {ifs : List Expr} {vs : List Nat} {scope : Scope} {d : D} {p : Addr}
/-- a turn without tests -/
theorem Good.pturn0 (G : Good P w K mg base N sc fr k X) {y : Option D} (hk : scope.kind = .function)
    (h : ∀ X1, Good P w K mg base N (relS scope sc) (frB scope) k X1 → DG X1 C (wipeR r vs) m tg d (· ∈ vs) fun r1 m1 => ∀ X3, Good P w K mg base N (relS scope sc) (frB scope) k X3 → DE X3 C r1 m1 elt fun z m3 => m3 = m ∧ y = some z) :
    PTurn X C r vs scope tg elt [] d m y := fun X1 B1 =>
  (h X1 (G.blk hk B1)).mono fun r1 m1 z X2 B2 => dts_nil ⟨fun _ X3 B3 => z X3 (G.blk hk B3), fun z => Bool.noConfusion z⟩
/-- a turn with a test -/
theorem Good.pturn1 (G : Good P w K mg base N sc fr k X) {y : Option D} (hk : scope.kind = .function)
    (h : ∀ X1, Good P w K mg base N (relS scope sc) (frB scope) k X1 → DG X1 C (wipeR r vs) m tg d (· ∈ vs) fun r1 m1 => ∀ X2, Good P w K mg base N (relS scope sc) (frB scope) k X2 → DT X2 C r1 m1 c fun b m2 =>
      (b = true → ∀ X3, Good P w K mg base N (relS scope sc) (frB scope) k X3 → DE X3 C r1 m2 elt fun z m3 => m3 = m ∧ y = some z) ∧ (b = false → m2 = m ∧ y = none)) : PTurn X C r vs scope tg elt [c] d m y := fun X1 B1 =>
  (h X1 (G.blk hk B1)).mono fun r1 m1 z X2 B2 => dts_one ((z X2 (G.blk hk B2)).mono fun b m2 q => ⟨fun hb X3 B3 => q.1 hb X3 (G.blk hk B3), q.2⟩)
/-- a turn of any kind, without tests: the store may change -/
theorem Good.cturn0 (G : Good P w K mg base N sc fr k X) {Nx : Sto → Prop} (hk : scope.kind = .function)
    (h : ∀ X1, Good P w K mg base N (relS scope sc) (frB scope) k X1 → DG X1 C (wipeR r vs) m tg d (· ∈ vs) fun r1 m1 => ∀ X3, Good P w K mg base N (relS scope sc) (frB scope) k X3 → DE X3 C r1 m1 elt fun y m3 => ∃ acc, m3 p = some (.lst acc) ∧ acc.length < sizeLine ∧ Nx (up m3 p (.lst (acc ++ [y])))) :
    CTurn X C r vs scope tg elt [] p d m Nx := fun X1 B1 =>
  (h X1 (G.blk hk B1)).mono fun r1 m1 z X2 B2 => dts_nil ⟨fun _ X3 B3 => z X3 (G.blk hk B3), fun z => Bool.noConfusion z⟩
end
/-! ### texts -/
section
variable {X : Cx} {C : Ctx} {r : Slo} {m : Sto} {Φ : D → Sto → Prop}
theorem op_mulS : OpR X (binaryOp .Mult) (fun x y H Q => ∃ i n, x = .str i ∧ y = .int n ∧ PySem.MulOk i n ∧ Q (.str (PySem.Txt.mul i n)) H) := by
  intro pins s σ H x y v u Q I rx ry h
  obtain ⟨i, n, rfl, rfl, hk, q⟩ := h
  obtain ⟨t, rfl⟩ := rx
  obtain ⟨t', rfl⟩ := ry
  exact PySem.SB.mul hk fun t' k => ⟨.str _, H, I.tok k, ⟨_, rfl⟩, q⟩
theorem od_mulS {i : Str} {n : Int} (hk : PySem.MulOk i n) (q : Φ (.str (PySem.Txt.mul i n)) m) : OpD X C r (binaryOp .Mult) (.str i) (.int n) m Φ := ⟨fun τ σ H v1 v2 R t1 t2 => by
  cases t1; cases t2; exact ⟨_, op_mulS, i, n, rfl, rfl, hk, _, m, R.push (.str _), q⟩⟩
theorem cd_intS {a : Str} {n : Int} (hn : PySem.intText? a = some n) (hl : a.length ≤ 640) (q : Φ (.int n) m) : CallD X C r (.type "int") [.str a] m Φ := ⟨fun τ σ H vs R l => by
  cases l with | cons h1 l => cases l; cases h1; exact ⟨_, call_int_str, a, n, rfl, hn, hl, _, m, R.push (.int _), q⟩⟩
/-- xs + ys, both only read -/
theorem op_catR : OpR X (binaryOp .Add) (fun x y H Q => ∃ l b xs zs, x = .ref l ∧ y = .ref b ∧ SqL X.K H l xs ∧ SqL X.K H b zs ∧ xs.length + zs.length ≤ sizeLine ∧ ∀ p, H p = none → Q (.ref p) (upd H p (.lst (xs ++ zs)))) := fun pins s σ H x y v u Q I rx ry h => by
  obtain ⟨l, b, xs, zs, rfl, rfl, h1, h2, hz, q⟩ := h
  cases rx
  cases ry
  obtain ⟨its, r, ⟨⟨cls, dd, data, sl⟩, n, ho, hc, _, hd⟩, _⟩ := I.list h1
  obtain ⟨its2, r2, ⟨⟨cls2, dd2, data2, sl2⟩, n2, ho2, hc2, _, hd2⟩, _⟩ := I.list h2
  have k1 := r.length
  have k2 := r2.length
  simp only at hc hd hc2 hd2
  subst hc hd hc2 hd2
  refine concat_meets ⟨_, ho, rfl⟩ ⟨_, ho2, rfl⟩ noFill_list_add seq_list_add PySem.F.slot_list_add
    PySem.F.entry_list_add (PySem.F.args_list_add_2 _ _) (list_addW l b its.toArray its2.toArray n n2 dd dd2 sl sl2
      (by simp only [List.size_toArray]; omega)) ⟨ho, ho2, ?_⟩
  rw [show its.toArray ++ its2.toArray = (its ++ its2).toArray by simp only [List.append_toArray]]
  exact ⟨.ref _, _, I.lnew (t' := s.toks) (r.append r2) (by simp only [List.length_append]; omega), rfl, q _ I.fresh⟩
theorem od_catL {d1 d2 : D} {xs ys : List D} (h1 : LstOf m d1 xs) (h2 : LstOf m d2 ys) (hz : xs.length + ys.length ≤ sizeLine) (q : Φ (.lst (xs ++ ys)) m) : OpD X C r (binaryOp .Add) d1 d2 m Φ := ⟨fun τ σ H v1 v2 R t1 t2 => by
  obtain ⟨p1, vs, rfl, r1, l1⟩ := lst_of R.sto t1 h1
  obtain ⟨p2, ws, rfl, r2, l2⟩ := lst_of R.sto t2 h2
  exact ⟨_, op_catR, p1, p2, vs, ws, rfl, rfl, r1, r2, by rw [l1.length, l2.length]; exact hz, fun p hp => ⟨_, m, R.newLst hp (l1.append l2), q⟩⟩⟩
/-- a mutable list times an int -/
theorem rep_den {K : PySem.W.Frag} {H : Hp} {vs : List V} {xs : List D} (l : DenL K H m vs xs) : ∀ n : Nat, DenL K H m (List.replicate n vs).flatten (List.replicate n xs).flatten
  | 0 => .nil
  | n + 1 => by
    rw [List.replicate_succ, List.flatten_cons, List.replicate_succ, List.flatten_cons]
    exact l.append (rep_den l n)
theorem od_repP {p : Addr} {xs : List D} {n : Int} (h : m p = some (.lst xs)) (h0 : 0 ≤ n) (hz : xs.length * n.toNat ≤ sizeLine) (q : Φ (.lst (List.replicate n.toNat xs).flatten) m) (hn : n < 2 ^ 63 := by omega) : OpD X C r (binaryOp .Mult) (.loc p) (.int n) m Φ := ⟨fun τ σ H v1 v2 R t1 t2 => by
  cases t1
  cases t2
  obtain ⟨vs, hv, l⟩ := R.sto p _ h
  exact ⟨_, op_rep, p, n, vs, rfl, rfl, hv, by omega, hn, by rw [l.length]; exact hz, fun q' hp => ⟨_, m, R.newLst hp (rep_den l n.toNat), q⟩⟩⟩
end

/-! ### the built-ins' names -/
theorem bb_len : bootBuiltins "len" = some (.builtin "len") := by decide +kernel
theorem bb_abs : bootBuiltins "abs" = some (.builtin "abs") := by decide +kernel
theorem bb_max : bootBuiltins "max" = some (.builtin "max") := by decide +kernel
theorem bb_min : bootBuiltins "min" = some (.builtin "min") := by decide +kernel
theorem bb_sum : bootBuiltins "sum" = some (.builtin "sum") := by decide +kernel
theorem bb_all : bootBuiltins "all" = some (.builtin "all") := by decide +kernel
theorem bb_any : bootBuiltins "any" = some (.builtin "any") := by decide +kernel
theorem bb_isinstance : bootBuiltins "isinstance" = some (.builtin "isinstance") := by decide +kernel
theorem bb_sorted : bootBuiltins "sorted" = some (.builtin "sorted") := by decide +kernel
theorem bb_int : bootBuiltins "int" = some (.type "int") := by decide +kernel
theorem bb_bool : bootBuiltins "bool" = some (.type "bool") := by decide +kernel
theorem bb_str : bootBuiltins "str" = some (.type "str") := by decide +kernel
theorem bb_list : bootBuiltins "list" = some (.type "list") := by decide +kernel
theorem bb_tuple : bootBuiltins "tuple" = some (.type "tuple") := by decide +kernel
theorem bb_dict : bootBuiltins "dict" = some (.type "dict") := by decide +kernel
/-- the script -/
theorem denL_ints {K : PySem.W.Frag} {H : Hp} {m : Sto} : ∀ ns : List Int, DenL K H m (ns.map V.int) (ns.map D.int)
  | [] => .nil
  | n :: ns => .cons (.int n) (denL_ints ns)
theorem den_script {K : PySem.W.Frag} {H : Hp} {a : Addr} {ns : List Int} (h : SqL K H a (ns.map V.int)) : Den K H (fun _ => none) (.ref a) (.lst (ns.map D.int)) :=
  .lst (h.imp (fun h => ⟨h, rfl⟩) id) (denL_ints ns)
end Sy
/-! numbers: bounds by bits -/
namespace Sy
open PySem PySem.Spec PyProof.Rows L2
structure Bd (n : Nat) (i : Int) : Prop where
  lt : i.natAbs < 2 ^ n
theorem Bd.mono {a b : Nat} {i : Int} (h : Bd a i) (hab : a ≤ b) : Bd b i := ⟨Nat.lt_of_lt_of_le h.lt (Nat.pow_le_pow_right (by decide) hab)⟩
theorem Bd.mul {a b : Nat} {i j : Int} (h1 : Bd a i) (h2 : Bd b j) : Bd (a + b) (i * j) := ⟨wide_lt h1.lt h2.lt⟩
theorem Bd.add {a b : Nat} {i j : Int} (h1 : Bd a i) (h2 : Bd b j) : Bd (max a b + 1) (i + j) := ⟨by
  have e1 := (h1.mono (Nat.le_max_left a b)).lt
  have e2 := (h2.mono (Nat.le_max_right a b)).lt
  rw [Nat.pow_succ]
  omega⟩
theorem Bd.sub {a b : Nat} {i j : Int} (h1 : Bd a i) (h2 : Bd b j) : Bd (max a b + 1) (i - j) := ⟨by
  have e1 := (h1.mono (Nat.le_max_left a b)).lt
  have e2 := (h2.mono (Nat.le_max_right a b)).lt
  rw [Nat.pow_succ]
  omega⟩
theorem Bd.neg {a : Nat} {i : Int} (h : Bd a i) : Bd a (-i) := ⟨by rw [Int.natAbs_neg]; exact h.lt⟩
theorem Bd.le {a : Nat} {i j : Int} (h : Bd a j) (h0 : 0 ≤ i) (h1 : i ≤ j) : Bd a i := ⟨by have := h.lt; omega⟩
theorem natAbs_div_le {i j : Int} (h : 0 < j) : (i / j).natAbs ≤ i.natAbs := by
  by_cases h0 : 0 ≤ i
  · have h1 : 0 ≤ i / j := Int.ediv_nonneg h0 (by omega)
    have h2 : i / j ≤ i := Int.ediv_le_self j h0
    omega
  · have h1 : i / j ≤ 0 := by
      have := Int.ediv_le_ediv h (show i ≤ 0 by omega)
      simpa using this
    have h2 : i ≤ i / j := by
      have e1 := Int.mul_ediv_self_le (x := i) (k := j) (by omega)
      have e2 := Int.lt_mul_ediv_self_add (x := i) (k := j) h
      by_cases hq : i ≤ i / j
      · exact hq
      · exfalso
        have h3 : i / j ≤ i - 1 := by omega
        have h4 : j * (i / j) ≤ j * (i - 1) := Int.mul_le_mul_of_nonneg_left h3 (by omega)
        have h5 : j * (i - 1) = j * i - j := by rw [Int.mul_sub, Int.mul_one]
        have h6 : i < j * i := by omega
        have h7 : j * i ≤ 1 * i := by
          have := Int.mul_le_mul_of_nonpos_right (show (1 : Int) ≤ j by omega) (show i ≤ 0 by omega)
          exact this
        omega
    omega
theorem Bd.div {a : Nat} {i j : Int} (h : Bd a i) (hj : 0 < j) : Bd a (i / j) := ⟨Nat.lt_of_le_of_lt (natAbs_div_le hj) h.lt⟩
theorem Bd.mod {b : Nat} {i j : Int} (h : Bd b j) (hj : 0 < j) : Bd b (i % j) := by
  have h1 := Int.emod_nonneg i (show j ≠ 0 by omega)
  have h2 := Int.emod_lt_of_pos i hj
  exact h.le h1 (by omega)
theorem cmul_of {a b : Nat} {i j : Int} (h1 : Bd a i) (h2 : Bd b j) (h : a + b ≤ 900000) : CMulW i j :=
  wide_mul (a := a + 1) (b := b + 1) (h1.mono (Nat.le_succ a)).lt (h2.mono (Nat.le_succ b)).lt (Nat.succ_pos _) (Nat.succ_pos _) (by omega)
theorem cdiv_of {b : Nat} {i j : Int} (hj : 0 < j) (h2 : Bd b j) (h : b ≤ 8000) : CDivW i j := wide_div (b := b + 1) hj (h2.mono (Nat.le_succ b)).lt (Nat.succ_pos _) (by omega)
theorem Bd.lit {n : Nat} {i : Int} (h : i.natAbs < 2 ^ n) : Bd n i := ⟨h⟩
theorem Bd.of {n : Nat} {i : Int} (h1 : -(2 ^ n : Int) < i) (h2 : i < (2 ^ n : Int)) : Bd n i := ⟨by
  have e : ((2 ^ n : Nat) : Int) = (2 ^ n : Int) := by simp
  omega⟩
theorem Bd.ite {n : Nat} {c : Prop} [Decidable c] {i j : Int} (h1 : Bd n i) (h2 : Bd n j) : Bd n (if c then i else j) := by split <;> assumption
theorem Bd.gcd {b : Nat} {i j : Int} (hj : 0 < j) (h : Bd b j) : Bd b ((Nat.gcd i.natAbs j.natAbs : Nat) : Int) := ⟨by
  have h1 : Nat.gcd i.natAbs j.natAbs ≤ j.natAbs := Nat.gcd_le_right _ (by omega)
  have h2 := h.lt
  rw [Int.natAbs_natCast]
  omega⟩
/-- a fraction in lowest terms -/
def lw (a b : Int) : Int × Int := (a / ((Nat.gcd a.natAbs b.natAbs : Nat) : Int), b / ((Nat.gcd a.natAbs b.natAbs : Nat) : Int))
def fD (p : Int × Int) : D := .tup [.int p.1, .int p.2]
theorem gcd_pos' {a b : Int} (h : 0 < b) : 0 < ((Nat.gcd a.natAbs b.natAbs : Nat) : Int) := by
  have : 0 < Nat.gcd a.natAbs b.natAbs := Nat.gcd_pos_of_pos_right _ (by omega)
  omega
theorem lw_bot {a b : Int} (h : 0 < b) : 0 < (lw a b).2 := by
  unfold lw
  have hd : ((Nat.gcd a.natAbs b.natAbs : Nat) : Int) ∣ b := by
    have := Nat.gcd_dvd_right a.natAbs b.natAbs
    exact Int.ofNat_dvd_left.mpr this
  exact Int.ediv_pos_of_pos_of_dvd h (by have := gcd_pos' (a := a) h; omega) hd
theorem lw_mul {a b : Int} (h : 0 < b) : ∃ g : Int, 0 < g ∧ a = g * (lw a b).1 ∧ b = g * (lw a b).2 := by
  refine ⟨((Nat.gcd a.natAbs b.natAbs : Nat) : Int), gcd_pos' h, ?_, ?_⟩
  · unfold lw
    exact (Int.mul_ediv_cancel' (Int.ofNat_dvd_left.mpr (Nat.gcd_dvd_left a.natAbs b.natAbs))).symm
  · unfold lw
    exact (Int.mul_ediv_cancel' (Int.ofNat_dvd_left.mpr (Nat.gcd_dvd_right a.natAbs b.natAbs))).symm
theorem lw_bd1 {n : Nat} {a b : Int} (h : 0 < b) (ha : Bd n a) : Bd n (lw a b).1 := ha.div (gcd_pos' h)
theorem lw_bd2 {n : Nat} {a b : Int} (h : 0 < b) (hb : Bd n b) : Bd n (lw a b).2 := hb.div (gcd_pos' h)
theorem lw_cop {a b : Int} (h : 0 < b) : Nat.gcd (lw a b).1.natAbs (lw a b).2.natAbs = 1 := by
  unfold lw
  have hg : 0 < Nat.gcd a.natAbs b.natAbs := Nat.gcd_pos_of_pos_right _ (by omega)
  have e1 : (a / ((Nat.gcd a.natAbs b.natAbs : Nat) : Int)).natAbs = a.natAbs / Nat.gcd a.natAbs b.natAbs := by
    rw [Int.natAbs_ediv_of_dvd (Int.ofNat_dvd_left.mpr (Nat.gcd_dvd_left a.natAbs b.natAbs)), Int.natAbs_natCast]
  have e2 : (b / ((Nat.gcd a.natAbs b.natAbs : Nat) : Int)).natAbs = b.natAbs / Nat.gcd a.natAbs b.natAbs := by
    rw [Int.natAbs_ediv_of_dvd (Int.ofNat_dvd_left.mpr (Nat.gcd_dvd_right a.natAbs b.natAbs)), Int.natAbs_natCast]
  show Nat.gcd (a / _).natAbs (b / _).natAbs = 1
  rw [e1, e2]
  exact Nat.gcd_div_gcd_div_gcd_of_pos_right (by omega)
end Sy
/-! the mathematics of the ruler -/
namespace Sy
open PySem PySem.Spec PyProof.Rows L2
def rl (n : Nat) : Nat := n - (n &&& (n - 1))
theorem and_odd (j : Nat) : (2 * j + 1) &&& (2 * j) = 2 * j := by
  apply Nat.eq_of_testBit_eq
  intro i
  rw [Nat.testBit_and]
  cases i with
  | zero => simp
  | succ i =>
    rw [Nat.testBit_succ, Nat.testBit_succ]
    have e1 : (2 * j + 1) / 2 = j := by omega
    have e2 : (2 * j) / 2 = j := by omega
    rw [e1, e2]
    simp
theorem and_even (a b : Nat) : (2 * a) &&& (2 * b + 1) = 2 * (a &&& b) := by
  apply Nat.eq_of_testBit_eq
  intro i
  rw [Nat.testBit_and]
  cases i with
  | zero => simp
  | succ i =>
    rw [Nat.testBit_succ, Nat.testBit_succ, Nat.testBit_succ]
    have e1 : (2 * b + 1) / 2 = b := by omega
    have e2 : (2 * a) / 2 = a := by omega
    have e3 : (2 * (a &&& b)) / 2 = a &&& b := by omega
    rw [e1, e2, e3, Nat.testBit_and]
theorem rl_odd (j : Nat) : rl (2 * j + 1) = 1 := by
  unfold rl
  rw [show 2 * j + 1 - 1 = 2 * j by omega, and_odd]
  omega
theorem rl_even {j : Nat} (h : 0 < j) : rl (2 * j) = 2 * rl j := by
  unfold rl
  rw [show 2 * j - 1 = 2 * (j - 1) + 1 by omega, and_even]
  have := @Nat.and_le_left j (j - 1)
  omega
/-- n is its ruler times an odd number; the ruler is a power of two -/
theorem rl_spec : ∀ (n : Nat), 0 < n → ∃ e j, rl n = 2 ^ e ∧ n = 2 ^ e * (2 * j + 1) := by
  intro n
  induction n using Nat.strongRecOn with
  | ind n ih =>
    intro h
    rcases Nat.mod_two_eq_zero_or_one n with h0 | h1
    · obtain ⟨j, rfl⟩ : ∃ j, n = 2 * j := ⟨n / 2, by omega⟩
      obtain ⟨e, i, h2, h3⟩ := ih j (by omega) (by omega)
      refine ⟨e + 1, i, ?_, ?_⟩
      · rw [rl_even (by omega), h2, Nat.pow_succ]; omega
      · rw [Nat.pow_succ, Nat.mul_right_comm, ← h3]; omega
    · obtain ⟨j, rfl⟩ : ∃ j, n = 2 * j + 1 := ⟨n / 2, by omega⟩
      refine ⟨0, j, ?_, ?_⟩
      · exact rl_odd j
      · simp
theorem rl_of {e j : Nat} : rl (2 ^ e * (2 * j + 1)) = 2 ^ e := by
  induction e with
  | zero => rw [Nat.pow_zero, Nat.one_mul, rl_odd]
  | succ e ih =>
    have hp : 0 < 2 ^ e * (2 * j + 1) := Nat.mul_pos (Nat.pow_pos (by decide)) (by omega)
    rw [show 2 ^ (e + 1) * (2 * j + 1) = 2 * (2 ^ e * (2 * j + 1)) by rw [Nat.pow_succ, Nat.mul_comm (2 ^ e) 2, Nat.mul_assoc], rl_even hp, ih, Nat.pow_succ]
    omega
theorem rl_pos {n : Nat} (h : 0 < n) : 0 < rl n := by
  obtain ⟨e, j, h1, _⟩ := rl_spec n h
  rw [h1]; exact Nat.pow_pos (by decide)
theorem rl_le (n : Nat) : rl n ≤ n := Nat.sub_le _ _
theorem rl_dvd {n e : Nat} (h : 0 < n) : 2 ^ e ∣ n ↔ 2 ^ e ≤ rl n := by
  obtain ⟨a, j, h1, h2⟩ := rl_spec n h
  rw [h1]
  constructor
  · intro hd
    by_cases hle : e ≤ a
    · exact Nat.pow_le_pow_right (by decide) hle
    · exfalso
      obtain ⟨t, rfl⟩ : ∃ t, e = a + 1 + t := ⟨e - a - 1, by omega⟩
      obtain ⟨c, hc⟩ := hd
      rw [h2, Nat.pow_add, Nat.pow_succ, Nat.mul_assoc, Nat.mul_assoc] at hc
      have := Nat.eq_of_mul_eq_mul_left (Nat.pow_pos (by decide)) hc
      omega
  · intro hle
    have hle : e ≤ a := (Nat.pow_le_pow_iff_right (by decide)).mp hle
    rw [h2]
    exact Nat.dvd_trans (Nat.pow_dvd_pow 2 hle) (Nat.dvd_mul_right _ _)
/-- of an int -/
def rlI (k : Int) : Int := ((rl k.toNat : Nat) : Int)
theorem band_neg {k : Int} (h : 1 ≤ k) : Builtin.bitAnd k (-k) = rlI k := by
  rw [PyProof.Rows.bitAnd_pn (by omega) (by omega)]
  unfold rlI rl Builtin.bitNot
  rw [show (- -k - 1).toNat = k.toNat - 1 by omega]
  have := @Nat.and_le_left k.toNat (k.toNat - 1)
  omega
theorem rlI_pos {k : Int} (h : 1 ≤ k) : 1 ≤ rlI k := by
  have := rl_pos (n := k.toNat) (by omega)
  unfold rlI; omega
theorem rlI_le {k : Int} (h : 0 ≤ k) : rlI k ≤ k := by
  have := rl_le k.toNat
  unfold rlI; omega
theorem rlI_pow {k : Int} (h : 1 ≤ k) : ∃ e : Nat, rlI k = 2 ^ e := by
  obtain ⟨e, j, h1, _⟩ := rl_spec k.toNat (by omega)
  exact ⟨e, by unfold rlI; rw [h1]; simp⟩
/-- times an odd number -/
theorem rlI_odd {k t : Int} (h : 1 ≤ k) (ht : 0 ≤ t) : rlI (k * (1 + 2 * t)) = rlI k := by
  obtain ⟨e, j, h1, h2⟩ := rl_spec k.toNat (by omega)
  unfold rlI
  rw [h1]
  have e1 : (k * (1 + 2 * t)).toNat = 2 ^ e * (2 * (j + 2 * j * t.toNat + t.toNat) + 1) := by
    have hk : k = ((2 ^ e * (2 * j + 1) : Nat) : Int) := by omega
    have ht' : t = (t.toNat : Int) := by omega
    rw [hk, ht']
    rw [show ((1 : Int) + 2 * (t.toNat : Int)) = ((1 + 2 * t.toNat : Nat) : Int) by omega, ← Int.natCast_mul, Int.toNat_natCast, Int.toNat_natCast, Nat.mul_assoc]
    congr 1
    rw [Nat.add_mul, Nat.mul_add, Nat.mul_add, Nat.mul_add]
    have : 2 * j * (2 * t.toNat) = 2 * (2 * j * t.toNat) := by rw [Nat.mul_left_comm]
    omega
  rw [e1, rl_of]
/-- and a multiple of twice the ruler more -/
theorem rlI_more {k t : Int} (h : 1 ≤ k) (ht : 0 ≤ t) : rlI (k + 2 * rlI k * t) = rlI k := by
  obtain ⟨e, j, h1, h2⟩ := rl_spec k.toNat (by omega)
  have er : rlI k = ((2 ^ e : Nat) : Int) := by unfold rlI; rw [h1]
  rw [er]
  unfold rlI
  have e1 : (k + 2 * ((2 ^ e : Nat) : Int) * t).toNat = 2 ^ e * (2 * (j + t.toNat) + 1) := by
    have hk : k = ((2 ^ e * (2 * j + 1) : Nat) : Int) := by omega
    have ht' : t = (t.toNat : Int) := by omega
    rw [hk, ht']
    rw [show (2 : Int) * ((2 ^ e : Nat) : Int) * (t.toNat : Int) = ((2 * 2 ^ e * t.toNat : Nat) : Int) by simp, ← Int.natCast_add, Int.toNat_natCast, Int.toNat_natCast]
    rw [Nat.mul_add, Nat.mul_add, Nat.mul_add, Nat.mul_add, Nat.mul_comm 2 (2 ^ e), Nat.mul_assoc (2 ^ e) 2 t.toNat]
    omega
  rw [e1, rl_of]
theorem rlI_dvd {k : Int} {e : Nat} (h : 1 ≤ k) : k % (2 ^ e : Int) = 0 ↔ (2 ^ e : Int) ≤ rlI k := by
  have h1 := rl_dvd (n := k.toNat) (e := e) (by omega)
  have e2 : ((2 ^ e : Nat) : Int) = (2 ^ e : Int) := by simp
  unfold rlI
  rw [← e2]
  rw [show ((2 ^ e : Nat) : Int) ≤ ((rl k.toNat : Nat) : Int) ↔ 2 ^ e ≤ rl k.toNat by omega, ← h1]
  have e3 : k = (k.toNat : Int) := by omega
  constructor
  · intro hm
    have := Int.dvd_of_emod_eq_zero hm
    rw [e3] at this
    exact Int.natCast_dvd_natCast.mp this
  · intro hd
    rw [e3]
    exact Int.emod_eq_zero_of_dvd (Int.natCast_dvd_natCast.mpr hd)
/-- halving: turns i, found f, left l, of k -/
def HvI (k : Int) (i : Nat) (f l : Int) : Prop := 1 ≤ f ∧ 1 ≤ l ∧ f ≤ 2 ^ i ∧ l ≤ k ∧ f * rlI l = rlI k ∧ (l % 2 = 1 ∨ f * l = k ∧ f = 2 ^ i)
theorem hv_start {k : Int} (h : 1 ≤ k) : HvI k 0 1 k := ⟨by omega, h, by decide, by omega, by omega, .inr ⟨by omega, rfl⟩⟩
theorem rlI_half {l : Int} (h : 1 ≤ l) (h2 : l % 2 = 0) : rlI l = 2 * rlI (l / 2) := by
  have := rl_even (j := (l / 2).toNat) (by omega)
  unfold rlI
  rw [show l.toNat = 2 * (l / 2).toNat by omega, this]
  omega
theorem rlI_one {l : Int} (h : 1 ≤ l) (h2 : l % 2 = 1) : rlI l = 1 := by
  have := rl_odd ((l / 2).toNat)
  unfold rlI
  rw [show l.toNat = 2 * (l / 2).toNat + 1 by omega, this]
  rfl
theorem hv_even {k : Int} {i : Nat} {f l : Int} (h : HvI k i f l) (he : l % 2 = 0) : HvI k (i + 1) (2 * f) (l / 2) := by
  obtain ⟨h1, h2, h3, h4, h5, h6⟩ := h
  have hp : (2 : Int) ^ (i + 1) = 2 ^ i * 2 := by rw [Int.pow_succ]
  refine ⟨by omega, by omega, by omega, by omega, ?_, ?_⟩
  · rw [rlI_half h2 he] at h5
    rw [← h5, Int.mul_comm 2 f, Int.mul_assoc]
  · rcases h6 with h6 | ⟨h6, h7⟩
    · omega
    · refine .inr ⟨?_, by omega⟩
      rw [← h6, Int.mul_comm 2 f, Int.mul_assoc]
      congr 1
      omega
theorem hv_odd {k : Int} {i : Nat} {f l : Int} (h : HvI k i f l) (he : ¬ l % 2 = 0) : HvI k (i + 1) f l := by
  obtain ⟨h1, h2, h3, h4, h5, h6⟩ := h
  have hp : (2 : Int) ^ (i + 1) = 2 ^ i * 2 := by rw [Int.pow_succ]
  exact ⟨h1, h2, by omega, h4, h5, .inl (by omega)⟩
theorem hv_end {k f l : Int} (h : HvI k 70 f l) (hk : k < 2 ^ 70) : f = rlI k := by
  obtain ⟨h1, h2, h3, h4, h5, h6⟩ := h
  rcases h6 with h6 | ⟨h6, h7⟩
  · rw [rlI_one h2 h6] at h5; omega
  · exfalso
    have : 2 ^ 70 * 1 ≤ 2 ^ 70 * l := Int.mul_le_mul_of_nonneg_left h2 (by decide)
    rw [h7] at h6
    omega
/-! fractions -/
theorem lw_scale {g a b : Int} (hg : 0 < g) (hb : 0 < b) : lw (g * a) (g * b) = lw a b := by
  unfold lw
  have e1 : Nat.gcd (g * a).natAbs (g * b).natAbs = g.natAbs * Nat.gcd a.natAbs b.natAbs := by rw [Int.natAbs_mul, Int.natAbs_mul, Nat.gcd_mul_left]
  rw [e1, Int.natCast_mul, show ((g.natAbs : Nat) : Int) = g by omega]
  rw [Int.mul_ediv_mul_of_pos _ _ hg, Int.mul_ediv_mul_of_pos _ _ hg]
end Sy
namespace Sy
/-- a label's neighbour still nearer than the scale -/
def Pq (st lr : Int) (p : Int × Int) (f : Int) : Prop := f * st * p.2 < p.1 * lr
instance (st lr : Int) (p : Int × Int) (f : Int) : Decidable (Pq st lr p f) := inferInstanceAs (Decidable (f * st * p.2 < p.1 * lr))
theorem pq_lw {st lr f : Int} {p : Int × Int} (h : 0 < lr) : (lw (f * st) lr).1 * p.2 < p.1 * (lw (f * st) lr).2 ↔ Pq st lr p f := by
  obtain ⟨g, hg, h1, h2⟩ := lw_mul (a := f * st) (b := lr) h
  unfold Pq
  constructor
  · intro hl
    have := Int.mul_lt_mul_of_pos_left hl hg
    calc f * st * p.2 = g * ((lw (f * st) lr).1 * p.2) := by rw [← Int.mul_assoc, ← h1]
      _ < g * (p.1 * (lw (f * st) lr).2) := this
      _ = p.1 * lr := by rw [Int.mul_left_comm, ← h2]
  · intro hl
    refine Int.lt_of_mul_lt_mul_left (a := g) ?_ (by omega)
    calc g * ((lw (f * st) lr).1 * p.2) = f * st * p.2 := by rw [← Int.mul_assoc, ← h1]
      _ < p.1 * lr := hl
      _ = g * (p.1 * (lw (f * st) lr).2) := by rw [Int.mul_left_comm, ← h2]
theorem lw_times {st lr f : Int} (h : 0 < lr) : lw ((lw st lr).1 * f) (lw st lr).2 = lw (f * st) lr := by
  obtain ⟨g, hg, h1, h2⟩ := lw_mul (a := st) (b := lr) h
  have hb := lw_bot (a := st) h
  have := lw_scale (g := g) (a := (lw st lr).1 * f) (b := (lw st lr).2) hg hb
  rw [← this, ← h2, ← Int.mul_assoc, ← h1, Int.mul_comm st f]
theorem pq_mono {st lr f f' : Int} {p : Int × Int} (hs : 1 ≤ st) (hp : 0 < p.2) (h : f ≤ f') (hf : Pq st lr p f') : Pq st lr p f := by
  unfold Pq at *
  refine Int.lt_of_le_of_lt ?_ hf
  exact Int.mul_le_mul_of_nonneg_right (Int.mul_le_mul_of_nonneg_right h (by omega)) (by omega)
theorem pq_big {st lr f : Int} {p : Int × Int} (hs : 1 ≤ st) (hp : 0 < p.2) (hp1 : 0 ≤ p.1) (h1 : p.1 < 2 ^ 67) (hl0 : 0 < lr) (hl : lr < 2 ^ 68) (hf : 2 ^ 136 ≤ f) : ¬ Pq st lr p f := by
  unfold Pq
  have a1 : p.1 * lr ≤ 2 ^ 67 * 2 ^ 68 := Int.mul_le_mul (by omega) (by omega) (by omega) (by decide)
  have a2 : f * 1 ≤ f * st := Int.mul_le_mul_of_nonneg_left hs (by omega)
  have a3 : f * st * 1 ≤ f * st * p.2 := Int.mul_le_mul_of_nonneg_left (by omega) (by omega)
  omega
/-- the least power of two that reaches the scale -/
def Rch (st lr : Int) (p : Int × Int) (e : Nat) : Prop := ¬ Pq st lr p (2 ^ e) ∧ ∀ j, j < e → Pq st lr p (2 ^ j)
theorem rch_uni {st lr : Int} {p : Int × Int} {e e' : Nat} (h : Rch st lr p e) (h' : Rch st lr p e') : e = e' := by
  rcases Nat.lt_trichotomy e e' with q | q | q
  · exact absurd (h'.2 e q) h.1
  · exact q
  · exact absurd (h.2 e' q) h'.1
theorem rch_ex {st lr : Int} {p : Int × Int} (hs : 1 ≤ st) (hp : 0 < p.2) (hp1 : 0 ≤ p.1) (h1 : p.1 < 2 ^ 67) (hl0 : 0 < lr) (hl : lr < 2 ^ 68) : ∃ e, Rch st lr p e ∧ e ≤ 136 := by
  have key : ∀ n : Nat, (∃ e, e ≤ n ∧ Rch st lr p e) ∨ ∀ j, j ≤ n → Pq st lr p (2 ^ j) := by
    intro n
    induction n with
    | zero =>
      by_cases h : Pq st lr p (2 ^ 0)
      · exact .inr fun j hj => by rw [show j = 0 by omega]; exact h
      · exact .inl ⟨0, Nat.le_refl _, h, fun j hj => absurd hj (Nat.not_lt_zero _)⟩
    | succ n ih =>
      rcases ih with ⟨e, he, hr⟩ | ih
      · exact .inl ⟨e, by omega, hr⟩
      · by_cases h : Pq st lr p (2 ^ (n + 1))
        · exact .inr fun j hj => by
            by_cases e : j = n + 1
            · rw [e]; exact h
            · exact ih j (by omega)
        · exact .inl ⟨n + 1, Nat.le_refl _, h, fun j hj => ih j (by omega)⟩
  rcases key 136 with ⟨e, he, hr⟩ | h
  · exact ⟨e, hr, he⟩
  · exact absurd (h 136 (Nat.le_refl _)) (pq_big hs hp hp1 h1 hl0 hl (by decide))
theorem rch_shown {st lr k : Int} {p : Int × Int} {e : Nat} (hs : 1 ≤ st) (hp : 0 < p.2) (hk : 1 ≤ k) (h : Rch st lr p e) : ¬ Pq st lr p (rlI k) ↔ k % (2 ^ e : Int) = 0 := by
  rw [rlI_dvd hk]
  obtain ⟨a, ha⟩ := rlI_pow hk
  rw [ha]
  constructor
  · intro hn
    by_cases hle : e ≤ a
    · exact_mod_cast Nat.pow_le_pow_right (by decide : 0 < 2) hle
    · exact absurd (h.2 a (by omega)) hn
  · intro hle hq
    exact h.1 (pq_mono hs hp hle hq)
theorem count_eq {n q : Int} (hn : 1 ≤ n) (hq : 1 ≤ q) : (n - 1) / q + 1 = (n + q - 1) / q := by
  rw [show n + q - 1 = (n - 1) + q * 1 by omega, Int.add_mul_ediv_left _ _ (by omega)]
end Sy
namespace K45
open PySem PySem.Spec PyProof.Rows L2 Sy
def topS (i : Nat) : Stmt := PySem.Challenge.pw_stayshown_k45_ruler_far_out.main.body.getD i (.Pass ⟨0, 0, 0, 0⟩)
abbrev s_is_integer : Stmt := topS 6
abbrev s_is_between : Stmt := topS 7
abbrev s_is_from : Stmt := topS 8
abbrev s_is_tuple_of : Stmt := topS 9
abbrev s_lowest : Stmt := topS 10
abbrev s_is_fraction : Stmt := topS 12
abbrev s_is_scale : Stmt := topS 13
abbrev s_fraction : Stmt := topS 14
abbrev s_is_less : Stmt := topS 15
abbrev s_check_scale : Stmt := topS 16
abbrev s_check_even : Stmt := topS 19
abbrev s_check_many : Stmt := topS 20
abbrev s_ruler_of : Stmt := topS 21
abbrev s_ruler : Stmt := topS 22
abbrev s_far_apart : Stmt := topS 23
abbrev s_ruler_end_of : Stmt := topS 24
abbrev s_ruler_end : Stmt := topS 25
abbrev s_ruler_step_of : Stmt := topS 26
abbrev s_ruler_step : Stmt := topS 27
abbrev s_ruler_count : Stmt := topS 28
abbrev s_ruler_ends : Stmt := topS 29
abbrev s__law_cell : Stmt := topS 31
abbrev s__law_box : Stmt := topS 32
abbrev s__law_take : Stmt := topS 33
abbrev s__law_pick : Stmt := topS 34
abbrev s__law_same : Stmt := topS 35
abbrev s__law_divisor : Stmt := topS 36
abbrev s__law_fraction : Stmt := topS 37
abbrev s__law_less : Stmt := topS 38
abbrev s__law_times : Stmt := topS 39
abbrev s__law_halved : Stmt := topS 40
abbrev s__law_two : Stmt := topS 41
abbrev s__law_number : Stmt := topS 42
abbrev s__law_few : Stmt := topS 43
abbrev s__law_reached : Stmt := topS 44
abbrev s__law_ends_right : Stmt := topS 45
abbrev s__law_ruler_right : Stmt := topS 46
abbrev s__law_scale : Stmt := topS 47
abbrev s__law_counts_right : Stmt := topS 48
abbrev s__law_around_right : Stmt := topS 49
abbrev s_law : Stmt := topS 50
theorem sc_is_integer : FnScope ["value"] ["value"] (defScope s_is_integer) := ⟨rfl, rfl, rfl, by decide +kernel, rfl, by decide +kernel, by decide +kernel⟩
theorem sc_is_between : FnScope ["value", "least", "most"] ["value", "least", "most"] (defScope s_is_between) := ⟨rfl, rfl, rfl, by decide +kernel, rfl, by decide +kernel, by decide +kernel⟩
theorem sc_is_from : FnScope ["value", "least"] ["value", "least"] (defScope s_is_from) := ⟨rfl, rfl, rfl, by decide +kernel, rfl, by decide +kernel, by decide +kernel⟩
theorem sc_is_tuple_of : FnScope ["value", "length"] ["value", "length"] (defScope s_is_tuple_of) := ⟨rfl, rfl, rfl, by decide +kernel, rfl, by decide +kernel, by decide +kernel⟩
theorem sc_lowest : FnScope ["top", "bottom", "shared"] ["top", "bottom"] (defScope s_lowest) := ⟨rfl, rfl, rfl, by decide +kernel, rfl, by decide +kernel, by decide +kernel⟩
theorem sc_is_fraction : FnScope ["value", "item"] ["value"] (defScope s_is_fraction) := ⟨rfl, rfl, rfl, by decide +kernel, rfl, by decide +kernel, by decide +kernel⟩
theorem sc_is_scale : FnScope ["value"] ["value"] (defScope s_is_scale) := ⟨rfl, rfl, rfl, by decide +kernel, rfl, by decide +kernel, by decide +kernel⟩
theorem sc_fraction : FnScope ["top", "bottom"] ["top", "bottom"] (defScope s_fraction) := ⟨rfl, rfl, rfl, by decide +kernel, rfl, by decide +kernel, by decide +kernel⟩
theorem sc_is_less : FnScope ["one", "other"] ["one", "other"] (defScope s_is_less) := ⟨rfl, rfl, rfl, by decide +kernel, rfl, by decide +kernel, by decide +kernel⟩
theorem sc_check_scale : FnScope ["scale"] ["scale"] (defScope s_check_scale) := ⟨rfl, rfl, rfl, by decide +kernel, rfl, by decide +kernel, by decide +kernel⟩
theorem sc_check_even : FnScope ["step", "left", "right", "value"] ["step", "left", "right"] (defScope s_check_even) := ⟨rfl, rfl, rfl, by decide +kernel, rfl, by decide +kernel, by decide +kernel⟩
theorem sc_check_many : FnScope ["many"] ["many"] (defScope s_check_many) := ⟨rfl, rfl, rfl, by decide +kernel, rfl, by decide +kernel, by decide +kernel⟩
theorem sc_ruler_of : FnScope ["k"] ["k"] (defScope s_ruler_of) := ⟨rfl, rfl, rfl, by decide +kernel, rfl, by decide +kernel, by decide +kernel⟩
theorem sc_ruler : FnScope ["k"] ["k"] (defScope s_ruler) := ⟨rfl, rfl, rfl, by decide +kernel, rfl, by decide +kernel, by decide +kernel⟩
theorem sc_far_apart : FnScope ["number", "step", "left", "right"] ["number", "step", "left", "right"] (defScope s_far_apart) := ⟨rfl, rfl, rfl, by decide +kernel, rfl, by decide +kernel, by decide +kernel⟩
theorem sc_ruler_end_of : FnScope ["k", "step", "left", "right"] ["k", "step", "left", "right"] (defScope s_ruler_end_of) := ⟨rfl, rfl, rfl, by decide +kernel, rfl, by decide +kernel, by decide +kernel⟩
theorem sc_ruler_end : FnScope ["k", "step", "left", "right"] ["k", "step", "left", "right"] (defScope s_ruler_end) := ⟨rfl, rfl, rfl, by decide +kernel, rfl, by decide +kernel, by decide +kernel⟩
theorem sc_ruler_step_of : FnScope ["step", "left", "right", "scale", "found"] ["step", "left", "right", "scale"] (defScope s_ruler_step_of) := ⟨rfl, rfl, rfl, by decide +kernel, rfl, by decide +kernel, by decide +kernel⟩
theorem sc_ruler_step : FnScope ["step", "left", "right", "scale"] ["step", "left", "right", "scale"] (defScope s_ruler_step) := ⟨rfl, rfl, rfl, by decide +kernel, rfl, by decide +kernel, by decide +kernel⟩
theorem sc_ruler_count : FnScope ["many", "step", "left", "right", "scale"] ["many", "step", "left", "right", "scale"] (defScope s_ruler_count) := ⟨rfl, rfl, rfl, by decide +kernel, rfl, by decide +kernel, by decide +kernel⟩
theorem sc_ruler_ends : FnScope ["many", "first", "step", "left", "right", "k"] ["many", "first", "step", "left", "right"] (defScope s_ruler_ends) := ⟨rfl, rfl, rfl, by decide +kernel, rfl, by decide +kernel, by decide +kernel⟩
theorem sc__law_cell : FnScope ["script", "k"] ["script", "k"] (defScope s__law_cell) := ⟨rfl, rfl, rfl, by decide +kernel, rfl, by decide +kernel, by decide +kernel⟩
theorem sc__law_box : FnScope ["great"] ["great"] (defScope s__law_box) := ⟨rfl, rfl, rfl, by decide +kernel, rfl, by decide +kernel, by decide +kernel⟩
theorem sc__law_take : FnScope ["box", "many", "digit", "mixed"] ["box", "many"] (defScope s__law_take) := ⟨rfl, rfl, rfl, by decide +kernel, rfl, by decide +kernel, by decide +kernel⟩
theorem sc__law_pick : FnScope ["box", "items"] ["box", "items"] (defScope s__law_pick) := ⟨rfl, rfl, rfl, by decide +kernel, rfl, by decide +kernel, by decide +kernel⟩
theorem sc__law_same : FnScope ["told", "due", "k"] ["told", "due"] (defScope s__law_same) := ⟨rfl, rfl, rfl, by decide +kernel, rfl, by decide +kernel, by decide +kernel⟩
theorem sc__law_divisor : FnScope ["a", "b", "turn"] ["a", "b"] (defScope s__law_divisor) := ⟨rfl, rfl, rfl, by decide +kernel, rfl, by decide +kernel, by decide +kernel⟩
theorem sc__law_fraction : FnScope ["top", "bottom", "by"] ["top", "bottom"] (defScope s__law_fraction) := ⟨rfl, rfl, rfl, by decide +kernel, rfl, by decide +kernel, by decide +kernel⟩
theorem sc__law_less : FnScope ["one", "other"] ["one", "other"] (defScope s__law_less) := ⟨rfl, rfl, rfl, by decide +kernel, rfl, by decide +kernel, by decide +kernel⟩
theorem sc__law_times : FnScope ["one", "number"] ["one", "number"] (defScope s__law_times) := ⟨rfl, rfl, rfl, by decide +kernel, rfl, by decide +kernel, by decide +kernel⟩
theorem sc__law_halved : FnScope ["k", "found", "left", "turn"] ["k"] (defScope s__law_halved) := ⟨rfl, rfl, rfl, by decide +kernel, rfl, by decide +kernel, by decide +kernel⟩
theorem sc__law_two : FnScope ["turns", "found", "turn"] ["turns"] (defScope s__law_two) := ⟨rfl, rfl, rfl, by decide +kernel, rfl, by decide +kernel, by decide +kernel⟩
theorem sc__law_number : FnScope ["box", "way", "power", "top"] ["box"] (defScope s__law_number) := ⟨rfl, rfl, rfl, by decide +kernel, rfl, by decide +kernel, by decide +kernel⟩
theorem sc__law_few : FnScope ["box"] ["box"] (defScope s__law_few) := ⟨rfl, rfl, rfl, by decide +kernel, rfl, by decide +kernel, by decide +kernel⟩
theorem sc__law_reached : FnScope ["one", "scale", "found", "turn"] ["one", "scale"] (defScope s__law_reached) := ⟨rfl, rfl, rfl, by decide +kernel, rfl, by decide +kernel, by decide +kernel⟩
theorem sc__law_ends_right : FnScope ["box", "step", "left", "right", "named", "one", "k", "due", "told"] ["box", "step", "left", "right", "named"] (defScope s__law_ends_right) := ⟨rfl, rfl, rfl, by decide +kernel, rfl, by decide +kernel, by decide +kernel⟩
theorem sc__law_ruler_right : FnScope ["box", "k", "odd", "power", "more"] ["box"] (defScope s__law_ruler_right) := ⟨rfl, rfl, rfl, by decide +kernel, rfl, by decide +kernel, by decide +kernel⟩
theorem sc__law_scale : FnScope ["box", "one", "base", "rows", "found"] ["box", "one"] (defScope s__law_scale) := ⟨rfl, rfl, rfl, by decide +kernel, rfl, by decide +kernel, by decide +kernel⟩
theorem sc__law_counts_right : FnScope ["box", "step", "left", "right", "named", "one", "turn", "scale", "many", "power", "told", "number", "due", "k"] ["box", "step", "left", "right", "named"] (defScope s__law_counts_right) := ⟨rfl, rfl, rfl, by decide +kernel, rfl, by decide +kernel, by decide +kernel⟩
theorem sc__law_around_right : FnScope ["box", "step", "left", "right", "named", "many", "first", "one", "due", "k", "told"] ["box", "step", "left", "right", "named"] (defScope s__law_around_right) := ⟨rfl, rfl, rfl, by decide +kernel, rfl, by decide +kernel, by decide +kernel⟩
theorem sc_law : FnScope ["script", "k", "box", "named", "step", "left", "right"] ["script"] (defScope s_law) := ⟨rfl, rfl, rfl, by decide +kernel, rfl, by decide +kernel, by decide +kernel⟩
/-- what the top has left -/
structure Txt (K : PySem.W.Frag) (mg : Str → Option Value) : Prop where
  d_is_integer : ∃ f fd, Fun K "is_integer" "is_integer" s_is_integer f fd ∧ mg "is_integer" = some (.ref f) ∧ Binds K fd ["value"] []
  d_is_between : ∃ f fd, Fun K "is_between" "is_between" s_is_between f fd ∧ mg "is_between" = some (.ref f) ∧ Binds K fd ["value", "least", "most"] []
  d_is_from : ∃ f fd, Fun K "is_from" "is_from" s_is_from f fd ∧ mg "is_from" = some (.ref f) ∧ Binds K fd ["value", "least"] []
  d_is_tuple_of : ∃ f fd, Fun K "is_tuple_of" "is_tuple_of" s_is_tuple_of f fd ∧ mg "is_tuple_of" = some (.ref f) ∧ Binds K fd ["value", "length"] []
  d_lowest : ∃ f fd, Fun K "lowest" "lowest" s_lowest f fd ∧ mg "lowest" = some (.ref f) ∧ Binds K fd ["top", "bottom"] []
  d_is_fraction : ∃ f fd, Fun K "is_fraction" "is_fraction" s_is_fraction f fd ∧ mg "is_fraction" = some (.ref f) ∧ Binds K fd ["value"] []
  d_is_scale : ∃ f fd, Fun K "is_scale" "is_scale" s_is_scale f fd ∧ mg "is_scale" = some (.ref f) ∧ Binds K fd ["value"] []
  d_fraction : ∃ f fd, Fun K "fraction" "fraction" s_fraction f fd ∧ mg "fraction" = some (.ref f) ∧ Binds K fd ["top", "bottom"] []
  d_is_less : ∃ f fd, Fun K "is_less" "is_less" s_is_less f fd ∧ mg "is_less" = some (.ref f) ∧ Binds K fd ["one", "other"] []
  d_check_scale : ∃ f fd, Fun K "check_scale" "check_scale" s_check_scale f fd ∧ mg "check_scale" = some (.ref f) ∧ Binds K fd ["scale"] []
  d_check_even : ∃ f fd, Fun K "check_even" "check_even" s_check_even f fd ∧ mg "check_even" = some (.ref f) ∧ Binds K fd ["step", "left", "right"] []
  d_check_many : ∃ f fd, Fun K "check_many" "check_many" s_check_many f fd ∧ mg "check_many" = some (.ref f) ∧ Binds K fd ["many"] []
  d_ruler_of : ∃ f fd, Fun K "ruler_of" "ruler_of" s_ruler_of f fd ∧ mg "ruler_of" = some (.ref f) ∧ Binds K fd ["k"] []
  d_ruler : ∃ f fd, Fun K "ruler" "ruler" s_ruler f fd ∧ mg "ruler" = some (.ref f) ∧ Binds K fd ["k"] []
  d_far_apart : ∃ f fd, Fun K "far_apart" "far_apart" s_far_apart f fd ∧ mg "far_apart" = some (.ref f) ∧ Binds K fd ["number", "step", "left", "right"] []
  d_ruler_end_of : ∃ f fd, Fun K "ruler_end_of" "ruler_end_of" s_ruler_end_of f fd ∧ mg "ruler_end_of" = some (.ref f) ∧ Binds K fd ["k", "step", "left", "right"] []
  d_ruler_end : ∃ f fd, Fun K "ruler_end" "ruler_end" s_ruler_end f fd ∧ mg "ruler_end" = some (.ref f) ∧ Binds K fd ["k", "step", "left", "right"] []
  d_ruler_step_of : ∃ f fd, Fun K "ruler_step_of" "ruler_step_of" s_ruler_step_of f fd ∧ mg "ruler_step_of" = some (.ref f) ∧ Binds K fd ["step", "left", "right", "scale"] []
  d_ruler_step : ∃ f fd, Fun K "ruler_step" "ruler_step" s_ruler_step f fd ∧ mg "ruler_step" = some (.ref f) ∧ Binds K fd ["step", "left", "right", "scale"] []
  d_ruler_count : ∃ f fd, Fun K "ruler_count" "ruler_count" s_ruler_count f fd ∧ mg "ruler_count" = some (.ref f) ∧ Binds K fd ["many", "step", "left", "right", "scale"] []
  d_ruler_ends : ∃ f fd, Fun K "ruler_ends" "ruler_ends" s_ruler_ends f fd ∧ mg "ruler_ends" = some (.ref f) ∧ Binds K fd ["many", "first", "step", "left", "right"] []
  d__law_cell : ∃ f fd, Fun K "_law_cell" "_law_cell" s__law_cell f fd ∧ mg "_law_cell" = some (.ref f) ∧ Binds K fd ["script", "k"] []
  d__law_box : ∃ f fd, Fun K "_law_box" "_law_box" s__law_box f fd ∧ mg "_law_box" = some (.ref f) ∧ Binds K fd ["great"] []
  d__law_take : ∃ f fd, Fun K "_law_take" "_law_take" s__law_take f fd ∧ mg "_law_take" = some (.ref f) ∧ Binds K fd ["box", "many"] []
  d__law_pick : ∃ f fd, Fun K "_law_pick" "_law_pick" s__law_pick f fd ∧ mg "_law_pick" = some (.ref f) ∧ Binds K fd ["box", "items"] []
  d__law_same : ∃ f fd, Fun K "_law_same" "_law_same" s__law_same f fd ∧ mg "_law_same" = some (.ref f) ∧ Binds K fd ["told", "due"] []
  d__law_divisor : ∃ f fd, Fun K "_law_divisor" "_law_divisor" s__law_divisor f fd ∧ mg "_law_divisor" = some (.ref f) ∧ Binds K fd ["a", "b"] []
  d__law_fraction : ∃ f fd, Fun K "_law_fraction" "_law_fraction" s__law_fraction f fd ∧ mg "_law_fraction" = some (.ref f) ∧ Binds K fd ["top", "bottom"] []
  d__law_less : ∃ f fd, Fun K "_law_less" "_law_less" s__law_less f fd ∧ mg "_law_less" = some (.ref f) ∧ Binds K fd ["one", "other"] []
  d__law_times : ∃ f fd, Fun K "_law_times" "_law_times" s__law_times f fd ∧ mg "_law_times" = some (.ref f) ∧ Binds K fd ["one", "number"] []
  d__law_halved : ∃ f fd, Fun K "_law_halved" "_law_halved" s__law_halved f fd ∧ mg "_law_halved" = some (.ref f) ∧ Binds K fd ["k"] []
  d__law_two : ∃ f fd, Fun K "_law_two" "_law_two" s__law_two f fd ∧ mg "_law_two" = some (.ref f) ∧ Binds K fd ["turns"] []
  d__law_number : ∃ f fd, Fun K "_law_number" "_law_number" s__law_number f fd ∧ mg "_law_number" = some (.ref f) ∧ Binds K fd ["box"] []
  d__law_few : ∃ f fd, Fun K "_law_few" "_law_few" s__law_few f fd ∧ mg "_law_few" = some (.ref f) ∧ Binds K fd ["box"] []
  d__law_reached : ∃ f fd, Fun K "_law_reached" "_law_reached" s__law_reached f fd ∧ mg "_law_reached" = some (.ref f) ∧ Binds K fd ["one", "scale"] []
  d__law_ends_right : ∃ f fd, Fun K "_law_ends_right" "_law_ends_right" s__law_ends_right f fd ∧ mg "_law_ends_right" = some (.ref f) ∧ Binds K fd ["box", "step", "left", "right", "named"] []
  d__law_ruler_right : ∃ f fd, Fun K "_law_ruler_right" "_law_ruler_right" s__law_ruler_right f fd ∧ mg "_law_ruler_right" = some (.ref f) ∧ Binds K fd ["box"] []
  d__law_scale : ∃ f fd, Fun K "_law_scale" "_law_scale" s__law_scale f fd ∧ mg "_law_scale" = some (.ref f) ∧ Binds K fd ["box", "one"] []
  d__law_counts_right : ∃ f fd, Fun K "_law_counts_right" "_law_counts_right" s__law_counts_right f fd ∧ mg "_law_counts_right" = some (.ref f) ∧ Binds K fd ["box", "step", "left", "right", "named"] []
  d__law_around_right : ∃ f fd, Fun K "_law_around_right" "_law_around_right" s__law_around_right f fd ∧ mg "_law_around_right" = some (.ref f) ∧ Binds K fd ["box", "step", "left", "right", "named"] []
  d_law : ∃ f fd, Fun K "law" "law" s_law f fd ∧ mg "law" = some (.ref f) ∧ Binds K fd ["script"] []
  b_abs : mg "abs" = none
  b_all : mg "all" = none
  b_bool : mg "bool" = none
  b_int : mg "int" = none
  b_isinstance : mg "isinstance" = none
  b_len : mg "len" = none
  b_list : mg "list" = none
  b_max : mg "max" = none
  b_min : mg "min" = none
  b_range : mg "range" = none
  b_str : mg "str" = none
  b_sum : mg "sum" = none
  b_tuple : mg "tuple" = none
  i_gcd : mg "gcd" = some (.builtin "math.gcd")
  c_MOST_MARKS : ∃ t, mg "MOST_MARKS" = some (.int 24 t)
set_option hygiene false
local macro_rules | `(tactic| walk_at "bd") => `(tactic| fail)
local macro_rules | `(tactic| walk_at "mk") => `(tactic| fail)
local macro_rules | `(tactic| walk_at "px") => `(tactic| fail)
local macro_rules | `(tactic| walk_at "pr") => `(tactic| fail)
local macro_rules | `(tactic| walk_at "od") => `(tactic| first
  | refine od_addI ?_
  | refine od_subI ?_
  | refine od_lt ?_
  | refine od_le ?_
  | refine od_gt ?_
  | refine od_ge ?_
  | refine od_mulI ?_ ?_; (focus (walk_at "bd"))
  | refine od_modI ?_ ?_; (focus (first | decide | omega | assumption))
  | refine od_fdivI ?_ ?_; (focus (walk_at "bd"))
  | refine od_isN ?_
  | refine od_notN ?_
  | refine od_eqC rfl ?_
  | refine od_neC rfl ?_
  | refine od_andI ?_)
local macro_rules | `(tactic| walk_at "cd") => `(tactic| first
  | refine cd_abs ?_
  | refine G.max2 ?_
  | refine G.min2 ?_
  | refine cd_intI ?_
  | refine cd_intB ?_
  | refine cd_gcd ?_
  | refine cd_lenT ?_
  | refine cd_lenL (.inl rfl) ?_
  | refine cd_isi (k := true) rfl (by decide +kernel) ?_
  | refine cd_isi (k := false) rfl (by decide +kernel) ?_
  | refine cd_tupL (.inl rfl) ?_
  | refine cd_tupT ?_)
local macro_rules | `(tactic| walk_at "de") => `(tactic| first
  | (show Sy.DE _ _ _ _ (.Name _ _) _; first | walk_at "nm" | walk_at "bl")
  | (show Sy.DE _ _ _ _ (.Constant _ _ _) _; first | refine de_int ?_ | refine de_bl ?_ | refine de_non ?_ | refine de_str ?_)
  | (show Sy.DE _ _ _ _ (.Call _ _ _ _) _; first | walk_at "cl" | walk_at "bl")
  | (show Sy.DE _ _ _ _ (.BinOp _ _ _ _) _; refine de_bin ?_)
  | (show Sy.DE _ _ _ _ (.Subscript _ _ _) _; first | refine de_sl ?_ | refine de_ix ?_)
  | (show Sy.DE _ _ _ _ (.Compare _ [_] [_] _) _; first | refine de_cmp (nomark _) ?_ | refine de_cmp rfl ?_)
  | (show Sy.DE _ _ _ _ (.Compare _ _ _ _) _; refine de_chain rfl ?_)
  | (show Sy.DE _ _ _ _ (.BoolOp _ _ _) _; first | refine de_and ?_ | refine de_or ?_ | refine de_one ?_)
  | (show Sy.DE _ _ _ _ (.UnaryOp _ _ _) _; first | refine de_neg ?_ | refine de_not ?_)
  | (show Sy.DE _ _ _ _ (.IfExp _ _ _ _) _; refine de_if ?_)
  | (show Sy.DE _ _ _ _ (.Tuple _ _ _) _; refine de_tup ?_)
  | (show Sy.DE _ _ _ _ (.List _ _) _; refine de_lst ?_))
local macro_rules | `(tactic| walk_at "dt") => `(tactic| first
  | (show Sy.DT _ _ _ _ (.Compare _ [_] [_] _) _; first | refine dt_cmp (nomark _) ?_ | refine dt_cmp rfl ?_)
  | (show Sy.DT _ _ _ _ (.Compare _ _ _ _) _; refine dt_chain rfl ?_)
  | (show Sy.DT _ _ _ _ (.UnaryOp _ _ _) _; refine dt_not ?_)
  | (show Sy.DT _ _ _ _ (.BoolOp _ _ _) _; first | refine dt_dw (dw_and ?_) | refine dt_dw (dw_or ?_))
  | refine dt_val ?_)
local macro_rules | `(tactic| walk_at "d1") => `(tactic| first
  | (show Sy.D1 _ _ _ _ (.Return _ _) _; refine d1_ret ?_)
  | (show Sy.D1 _ _ _ _ (.Assign [.Name _ _] _ _) _; walk_at "st")
  | (show Sy.D1 _ _ _ _ (.If _ _ _ _) _; refine d1_if ?_)
  | (show Sy.D1 _ _ _ _ (.Expr _ _) _; refine d1_expr ?_)
  | (show Sy.D1 _ _ _ _ (.Break _) _; refine d1_break ?_)
  | (show Sy.D1 _ _ _ _ (.Continue _) _; refine d1_cont ?_)
  | (show Sy.D1 _ _ _ _ (.Pass _) _; refine d1_pass ?_)
  | (show Sy.D1 _ _ _ _ (.Assign [.Tuple _ _ _] (.Tuple _ _ _) _) _; walk_at "pr")
  | (show Sy.D1 _ _ _ _ (.Assign _ _ _) _; refine d1_asg ?_))
local macro_rules | `(tactic| walk_at "s") => `(tactic| first
  | walk_at "px"
  | (show Sy.DE _ _ _ _ _ _; walk_at "de")
  | (show Sy.OpD _ _ _ _ _ _ _ _; walk_at "od")
  | (show Sy.DA _ _ _ _ _ _; first | refine da_cons ?_ | refine da_nil ?_)
  | (show Sy.CallD _ _ _ _ _ _ _; walk_at "cd")
  | (show Sy.IxD _ _ _ _ _ _ _; first | refine ix_t rfl ?_ | refine ix_l rfl ?_)
  | (show Sy.DS _ _ _ _ _ _; first | refine ds_cons ?_ | refine ds_nil ?_)
  | (show Sy.D1 _ _ _ _ _ _; walk_at "d1")
  | (show Sy.DT _ _ _ _ _ _; walk_at "dt")
  | (show Sy.DW _ _ _ _ _ _; first | refine dw_and ?_ | refine dw_or ?_ | refine dw_and1 ?_ | refine dw_or1 ?_)
  | (show Sy.DK _ _ _ _ _ _; first | refine dk_cons ?_ | refine dk_nil ?_)
  | (show Sy.DP _ _ _ _ _ _; first | refine dp_none ?_ | refine dp_some ?_)
  | (show Sy.DG _ _ _ _ _ _ _ _; first | walk_at "gn" | refine G.gtup rfl ?_)
  | (show Sy.DGs _ _ _ _ _ _ _ _; first | refine dgs_cons ?_ | refine dgs_nil ?_)
  | (show Sy.DTs _ _ _ _ _ _; first | refine dts_nil ?_ | refine dts_one ?_)
  | walk_at "mk"
  | (show ∃ n k1 k2, Sy.tyn _ _ = some n ∧ kitB n _ = some k1 ∧ _; refine ⟨_, true, true, rfl, ?h1, ?h2, ?_⟩; (case h1 => decide +kernel); (case h2 => decide +kernel))
  | (show ∃ n k1 k2, Sy.tyn _ _ = some n ∧ kitB n _ = some k1 ∧ _; refine ⟨_, true, false, rfl, ?h1, ?h2, ?_⟩; (case h1 => decide +kernel); (case h2 => decide +kernel))
  | (show ∃ n k1 k2, Sy.tyn _ _ = some n ∧ kitB n _ = some k1 ∧ _; refine ⟨_, false, true, rfl, ?h1, ?h2, ?_⟩; (case h1 => decide +kernel); (case h2 => decide +kernel))
  | (show ∃ n k1 k2, Sy.tyn _ _ = some n ∧ kitB n _ = some k1 ∧ _; refine ⟨_, false, false, rfl, ?h1, ?h2, ?_⟩; (case h1 => decide +kernel); (case h2 => decide +kernel))
  | (show _ ≤ PySem.sizeLine ∧ _; refine ⟨of_decide_eq_true rfl, ?_⟩)
  | (show ∃ _, _ = D.bl _ ∧ _; refine ⟨_, rfl, ?_⟩)
  | (show ∃ _, _ = D.int _ ∧ _; refine ⟨_, rfl, ?_⟩)
  | (show ∃ _ _, [_, _] = [_, _] ∧ _; refine ⟨_, _, rfl, ?_⟩)
  | (show ∃ _ _ _, [_, _, _] = [_, _, _] ∧ _; refine ⟨_, _, _, rfl, ?_⟩)
  | (show (_ = true → _) ∧ (_ = false → _); first | refine ⟨fun _ => ?_, fun h => Bool.noConfusion h⟩ | refine ⟨fun h => Bool.noConfusion h, fun _ => ?_⟩ | (refine ⟨fun _ => ?_, ?xx⟩; (case xx => (intro hh; first | (simp at hh; done) | (simp at hh; omega)))) | (refine ⟨?xx, fun _ => ?_⟩; (case xx => (intro hh; first | (simp at hh; done) | (simp at hh; omega)))))
  | (show Kk.nx _ _ _; unfold Kk.nx))
local macro_rules | `(tactic| walk_at "go") => `(tactic| repeat walk_at "s")
local macro_rules | `(tactic| walk_at "run") => `(tactic| ((conv in defBody _ => whnf); repeat walk_at "s"))
local macro_rules | `(tactic| walk_at "br") => `(tactic| (refine ⟨fun h => ?_, fun h => ?_⟩ <;> (try simp only [decide_eq_true_eq, decide_eq_false_iff_not] at h)))
local macro_rules | `(tactic| walk_at "b1") => `(tactic| first
  | assumption
  | (refine Bd.lit (n := 70) ?hl; (case hl => decide))
  | (refine Bd.lit (n := 200) ?hl; (case hl => decide))
  | (apply Bd.mul; (focus walk_at "b1"); (focus walk_at "b1"))
  | (apply Bd.add; (focus walk_at "b1"); (focus walk_at "b1"))
  | (apply Bd.sub; (focus walk_at "b1"); (focus walk_at "b1"))
  | (apply Bd.neg; (focus walk_at "b1")))
local macro_rules | `(tactic| walk_at "bd") => `(tactic| first
  | assumption
  | (apply cmul_of; (focus walk_at "b1"); (focus walk_at "b1"); (focus decide))
  | (apply cdiv_of; (focus (first | assumption | omega | decide)); (focus walk_at "b1"); (focus decide)))
variable {P : Program} {w : World} {K : PySem.W.Frag} {mg : Str → Option Value} {base : Heap}
set_option maxHeartbeats 4000000
/-! ### plain, fractions -/
section
local macro_rules | `(tactic| walk_at "nm") => `(tactic| first
  | (show Sy.DE _ _ _ _ (.Name "value" _) _; refine G.name (i := 0) rfl (by rfl) rfl ?_))
local macro_rules | `(tactic| walk_at "st") => `(tactic| fail)
local macro_rules | `(tactic| walk_at "gn") => `(tactic| fail)
local macro_rules | `(tactic| walk_at "cl") => `(tactic| fail)
local macro_rules | `(tactic| walk_at "bl") => `(tactic| first
  | (show Sy.DE _ _ _ _ (.Call (.Name "isinstance" _) (_ :: _) [] _) _; refine G.blt (id := "isinstance") (by rfl) T.b_isinstance Sy.bb_isinstance ?_)
  | (show Sy.DE _ _ _ _ (.Name "bool" _) _; refine G.tyname (n := "bool") (by rfl) T.b_bool Sy.bb_bool ?_)
  | (show Sy.DE _ _ _ _ (.Name "int" _) _; refine G.tyname (n := "int") (by rfl) T.b_int Sy.bb_int ?_))
local macro_rules | `(tactic| walk_at "pr") => `(tactic| fail)
def F_is_integer : FS := fun ds m Q => ∃ i : Int, ds = [.int i] ∧ Q (.bl true) m
theorem fn_is_integer (T : Txt K mg) : Fn P w K mg base 1 "is_integer" s_is_integer ["value"] F_is_integer := by
  obtain ⟨f, fd, Fu, hm, hb⟩ := T.d_is_integer
  refine ⟨f, fd, Fu, hm, hb, fn_ok Fu sc_is_integer (fun ds m Φ h => ?_) (fun X C G ds m Φ h => ?_)⟩
  · obtain ⟨a, rfl, _⟩ := h; rfl
  obtain ⟨a, rfl, q⟩ := h
  walk_at "run"
  exact q
end
local macro_rules | `(tactic| walk_at "mk") => `(tactic| (show F_is_integer _ _ _; refine ⟨_, rfl, ?_⟩))
section
local macro_rules | `(tactic| walk_at "nm") => `(tactic| first
  | (show Sy.DE _ _ _ _ (.Name "value" _) _; refine G.name (i := 0) rfl (by rfl) rfl ?_)
  | (show Sy.DE _ _ _ _ (.Name "least" _) _; refine G.name (i := 1) rfl (by rfl) rfl ?_)
  | (show Sy.DE _ _ _ _ (.Name "most" _) _; refine G.name (i := 2) rfl (by rfl) rfl ?_))
local macro_rules | `(tactic| walk_at "st") => `(tactic| fail)
local macro_rules | `(tactic| walk_at "gn") => `(tactic| fail)
local macro_rules | `(tactic| walk_at "cl") => `(tactic| first
  | (show Sy.DE _ _ _ _ (.Call (.Name "is_integer" _) (_ :: _) [] _) _; refine G.call (fn_is_integer T) (by decide) (by rfl) ?_))
local macro_rules | `(tactic| walk_at "bl") => `(tactic| fail)
local macro_rules | `(tactic| walk_at "pr") => `(tactic| fail)
def F_is_between : FS := fun ds m Q => ∃ v l t : Int, ds = [.int v, .int l, .int t] ∧ Q (.bl (decide (l ≤ v ∧ v ≤ t))) m
theorem fn_is_between (T : Txt K mg) : Fn P w K mg base 2 "is_between" s_is_between ["value", "least", "most"] F_is_between := by
  obtain ⟨f, fd, Fu, hm, hb⟩ := T.d_is_between
  refine ⟨f, fd, Fu, hm, hb, fn_ok Fu sc_is_between (fun ds m Φ h => ?_) (fun X C G ds m Φ h => ?_)⟩
  · obtain ⟨v, l, t, rfl, _⟩ := h; rfl
  obtain ⟨v, l, t, rfl, q⟩ := h
  walk_at "run"
  walk_at "br"
  · walk_at "go"
    have e : decide (l ≤ v ∧ v ≤ t) = decide (v ≤ t) := by simp [h]
    rw [e] at q; exact q
  · have e : decide (l ≤ v ∧ v ≤ t) = false := by simp [h]
    rw [e] at q; exact q
end
local macro_rules | `(tactic| walk_at "mk") => `(tactic| (show F_is_between _ _ _; refine ⟨_, _, _, rfl, ?_⟩))
section
local macro_rules | `(tactic| walk_at "nm") => `(tactic| first
  | (show Sy.DE _ _ _ _ (.Name "value" _) _; refine G.name (i := 0) rfl (by rfl) rfl ?_)
  | (show Sy.DE _ _ _ _ (.Name "least" _) _; refine G.name (i := 1) rfl (by rfl) rfl ?_))
local macro_rules | `(tactic| walk_at "st") => `(tactic| fail)
local macro_rules | `(tactic| walk_at "gn") => `(tactic| fail)
local macro_rules | `(tactic| walk_at "cl") => `(tactic| first
  | (show Sy.DE _ _ _ _ (.Call (.Name "is_integer" _) (_ :: _) [] _) _; refine G.call (fn_is_integer T) (by decide) (by rfl) ?_))
local macro_rules | `(tactic| walk_at "bl") => `(tactic| fail)
local macro_rules | `(tactic| walk_at "pr") => `(tactic| fail)
def F_is_from : FS := fun ds m Q => ∃ v l : Int, ds = [.int v, .int l] ∧ Q (.bl (decide (l ≤ v))) m
theorem fn_is_from (T : Txt K mg) : Fn P w K mg base 2 "is_from" s_is_from ["value", "least"] F_is_from := by
  obtain ⟨f, fd, Fu, hm, hb⟩ := T.d_is_from
  refine ⟨f, fd, Fu, hm, hb, fn_ok Fu sc_is_from (fun ds m Φ h => ?_) (fun X C G ds m Φ h => ?_)⟩
  · obtain ⟨v, l, rfl, _⟩ := h; rfl
  obtain ⟨v, l, rfl, q⟩ := h
  walk_at "run"
  exact q
end
local macro_rules | `(tactic| walk_at "mk") => `(tactic| (show F_is_from _ _ _; refine ⟨_, _, rfl, ?_⟩))
section
local macro_rules | `(tactic| walk_at "nm") => `(tactic| first
  | (show Sy.DE _ _ _ _ (.Name "value" _) _; refine G.name (i := 0) rfl (by rfl) rfl ?_)
  | (show Sy.DE _ _ _ _ (.Name "length" _) _; refine G.name (i := 1) rfl (by rfl) rfl ?_))
local macro_rules | `(tactic| walk_at "st") => `(tactic| fail)
local macro_rules | `(tactic| walk_at "gn") => `(tactic| fail)
local macro_rules | `(tactic| walk_at "cl") => `(tactic| fail)
local macro_rules | `(tactic| walk_at "bl") => `(tactic| first
  | (show Sy.DE _ _ _ _ (.Call (.Name "isinstance" _) (_ :: _) [] _) _; refine G.blt (id := "isinstance") (by rfl) T.b_isinstance Sy.bb_isinstance ?_)
  | (show Sy.DE _ _ _ _ (.Call (.Name "len" _) (_ :: _) [] _) _; refine G.blt (id := "len") (by rfl) T.b_len Sy.bb_len ?_)
  | (show Sy.DE _ _ _ _ (.Name "tuple" _) _; refine G.tyname (n := "tuple") (by rfl) T.b_tuple Sy.bb_tuple ?_))
local macro_rules | `(tactic| walk_at "pr") => `(tactic| fail)
def F_is_tuple_of : FS := fun ds m Q => ∃ (xs : List D) (n : Int), ds = [.tup xs, .int n] ∧ Q (.bl (decide ((xs.length : Int) = n))) m
theorem fn_is_tuple_of (T : Txt K mg) : Fn P w K mg base 1 "is_tuple_of" s_is_tuple_of ["value", "length"] F_is_tuple_of := by
  obtain ⟨f, fd, Fu, hm, hb⟩ := T.d_is_tuple_of
  refine ⟨f, fd, Fu, hm, hb, fn_ok Fu sc_is_tuple_of (fun ds m Φ h => ?_) (fun X C G ds m Φ h => ?_)⟩
  · obtain ⟨v, l, rfl, _⟩ := h; rfl
  obtain ⟨v, l, rfl, q⟩ := h
  walk_at "run"
  exact q
end
local macro_rules | `(tactic| walk_at "mk") => `(tactic| (show F_is_tuple_of _ _ _; refine ⟨_, _, rfl, ?_⟩))
section
local macro_rules | `(tactic| walk_at "nm") => `(tactic| first
  | (show Sy.DE _ _ _ _ (.Name "top" _) _; refine G.name (i := 0) rfl (by rfl) rfl ?_)
  | (show Sy.DE _ _ _ _ (.Name "bottom" _) _; refine G.name (i := 1) rfl (by rfl) rfl ?_)
  | (show Sy.DE _ _ _ _ (.Name "shared" _) _; refine G.name (i := 2) rfl (by rfl) rfl ?_))
local macro_rules | `(tactic| walk_at "st") => `(tactic| first
  | (show Sy.D1 _ _ _ _ (.Assign [.Name "shared" _] _ _) _; refine G.set (i := 2) rfl (by rfl) ?_))
local macro_rules | `(tactic| walk_at "gn") => `(tactic| first
  | (show Sy.DG _ _ _ _ (.Name "shared" _) _ _ _; refine G.gname (i := 2) rfl (by rfl) (by first | trivial | decide) ?_))
local macro_rules | `(tactic| walk_at "cl") => `(tactic| fail)
local macro_rules | `(tactic| walk_at "bl") => `(tactic| first
  | (show Sy.DE _ _ _ _ (.Call (.Name "gcd" _) (_ :: _) [] _) _; refine G.bfun (by rfl) T.i_gcd ?_))
local macro_rules | `(tactic| walk_at "pr") => `(tactic| fail)
def F_lowest : FS := fun ds m Q => ∃ (a b : Int) (n : Nat), ds = [.int a, .int b] ∧ 0 < b ∧ Bd n b ∧ n ≤ 8000 ∧ Q (fD (lw a b)) m
theorem fn_lowest (T : Txt K mg) : Fn P w K mg base 1 "lowest" s_lowest ["top", "bottom"] F_lowest := by
  obtain ⟨f, fd, Fu, hm, hb⟩ := T.d_lowest
  refine ⟨f, fd, Fu, hm, hb, fn_ok Fu sc_lowest (fun ds m Φ h => ?_) (fun X C G ds m Φ h => ?_)⟩
  · obtain ⟨v, l, n, rfl, _⟩ := h; rfl
  obtain ⟨a, b, n, rfl, h0, hn, h8, q⟩ := h
  have hc : ∀ x, CDivW x ((Nat.gcd a.natAbs b.natAbs : Nat) : Int) := fun x => cdiv_of (gcd_pos' h0) (Bd.gcd h0 hn) h8
  walk_at "run"
  refine od_fdivI (hc _) ?_
  walk_at "go"
  refine od_fdivI (hc _) ?_
  walk_at "go"
  exact q
theorem F_lowest.mk {a b : Int} {m : Sto} {Q : D → Sto → Prop} {n : Nat} (h0 : 0 < b) (hn : Bd n b) (h8 : n ≤ 8000) (q : Q (fD (lw a b)) m) : F_lowest [.int a, .int b] m Q := ⟨a, b, n, rfl, h0, hn, h8, q⟩
end
section
local macro_rules | `(tactic| walk_at "nm") => `(tactic| first
  | (show Sy.DE _ _ _ _ (.Name "value" _) _; refine G.name (i := 0) rfl (by rfl) rfl ?_)
  | (show Sy.DE _ _ _ _ (.Name "item" _) _; refine G.name (i := 1) rfl (by rfl) rfl ?_))
local macro_rules | `(tactic| walk_at "st") => `(tactic| first
  | (show Sy.D1 _ _ _ _ (.Assign [.Name "item" _] _ _) _; refine G.set (i := 1) rfl (by rfl) ?_))
local macro_rules | `(tactic| walk_at "gn") => `(tactic| first
  | (show Sy.DG _ _ _ _ (.Name "item" _) _ _ _; refine G.gname (i := 1) rfl (by rfl) (by first | trivial | decide) ?_))
local macro_rules | `(tactic| walk_at "cl") => `(tactic| first
  | (show Sy.DE _ _ _ _ (.Call (.Name "is_tuple_of" _) (_ :: _) [] _) _; refine G.call (fn_is_tuple_of T) (by decide) (by rfl) ?_)
  | (show Sy.DE _ _ _ _ (.Call (.Name "is_integer" _) (_ :: _) [] _) _; refine G.call (fn_is_integer T) (by decide) (by rfl) ?_))
local macro_rules | `(tactic| walk_at "bl") => `(tactic| first
  | (show Sy.DE _ _ _ _ (.Call (.Name "all" _) (_ :: _) [] _) _; refine G.blt (id := "all") (by rfl) T.b_all Sy.bb_all ?_)
  | (show Sy.DE _ _ _ _ (.Call (.Name "gcd" _) (_ :: _) [] _) _; refine G.bfun (by rfl) T.i_gcd ?_))
local macro_rules | `(tactic| walk_at "pr") => `(tactic| fail)
def F_is_fraction : FS := fun ds m Q => ∃ a b : Int, ds = [.tup [.int a, .int b]] ∧ 0 < b ∧ Nat.gcd a.natAbs b.natAbs = 1 ∧ Q (.bl true) m
theorem fn_is_fraction (T : Txt K mg) : Fn P w K mg base 2 "is_fraction" s_is_fraction ["value"] F_is_fraction := by
  obtain ⟨f, fd, Fu, hm, hb⟩ := T.d_is_fraction
  refine ⟨f, fd, Fu, hm, hb, fn_ok Fu sc_is_fraction (fun ds m Φ h => ?_) (fun X C G ds m Φ h => ?_)⟩
  · obtain ⟨v, l, rfl, _⟩ := h; rfl
  obtain ⟨a, b, rfl, h0, hg, q⟩ := h
  walk_at "run"
  refine G.map [("item", 1)] (by decide +kernel) ?_
  refine di_t ?_
  walk_at "go"
  refine ⟨_, rfl, of_decide_eq_true rfl, fun _ _ => trivial, fun _ => some (.bl true), fun d hd m' ha => ?_, ?_⟩
  · refine G.pturn0 rfl ?_
    intro X1 G
    walk_at "go"
    intro X3 G
    simp at hd
    rcases hd with rfl | rfl
    · walk_at "go"; exact ⟨rfl, rfl⟩
    · walk_at "go"; exact ⟨rfl, rfl⟩
  walk_at "go"
  refine G.allL (ns := [true, true]) (.inl rfl) ?_
  walk_at "go"
  rw [hg]
  exact q
theorem F_is_fraction.mk {a b : Int} {m : Sto} {Q : D → Sto → Prop} (h0 : 0 < b) (hg : Nat.gcd a.natAbs b.natAbs = 1) (q : Q (.bl true) m) : F_is_fraction [.tup [.int a, .int b]] m Q := ⟨a, b, rfl, h0, hg, q⟩
end
local macro_rules | `(tactic| walk_at "mk") => `(tactic| (show F_is_fraction _ _ _; refine F_is_fraction.mk (by assumption) (by assumption) ?_))
section
local macro_rules | `(tactic| walk_at "nm") => `(tactic| first
  | (show Sy.DE _ _ _ _ (.Name "value" _) _; refine G.name (i := 0) rfl (by rfl) rfl ?_))
local macro_rules | `(tactic| walk_at "st") => `(tactic| fail)
local macro_rules | `(tactic| walk_at "gn") => `(tactic| fail)
local macro_rules | `(tactic| walk_at "cl") => `(tactic| first
  | (show Sy.DE _ _ _ _ (.Call (.Name "is_fraction" _) (_ :: _) [] _) _; refine G.call (fn_is_fraction T) (by decide) (by rfl) ?_))
local macro_rules | `(tactic| walk_at "bl") => `(tactic| fail)
local macro_rules | `(tactic| walk_at "pr") => `(tactic| fail)
/-- a scale -/
structure Sc (p : Int × Int) : Prop where
  t : 0 < p.1
  b : 0 < p.2
  g : Nat.gcd p.1.natAbs p.2.natAbs = 1
def F_is_scale : FS := fun ds m Q => ∃ p, ds = [fD p] ∧ Sc p ∧ Q (.bl true) m
theorem fn_is_scale (T : Txt K mg) : Fn P w K mg base 3 "is_scale" s_is_scale ["value"] F_is_scale := by
  obtain ⟨f, fd, Fu, hm, hb⟩ := T.d_is_scale
  refine ⟨f, fd, Fu, hm, hb, fn_ok Fu sc_is_scale (fun ds m Φ h => ?_) (fun X C G ds m Φ h => ?_)⟩
  · obtain ⟨v, rfl, _⟩ := h; rfl
  obtain ⟨⟨a, b⟩, rfl, ⟨h1, h2, h3⟩, q⟩ := h
  walk_at "run"
  have e : decide (0 < a) = true := decide_eq_true h1
  rw [e]; exact q
end
local macro_rules | `(tactic| walk_at "mk") => `(tactic| (show F_is_scale _ _ _; refine ⟨_, rfl, by assumption, ?_⟩))
section
local macro_rules | `(tactic| walk_at "nm") => `(tactic| first
  | (show Sy.DE _ _ _ _ (.Name "top" _) _; refine G.name (i := 0) rfl (by rfl) rfl ?_)
  | (show Sy.DE _ _ _ _ (.Name "bottom" _) _; refine G.name (i := 1) rfl (by rfl) rfl ?_))
local macro_rules | `(tactic| walk_at "st") => `(tactic| fail)
local macro_rules | `(tactic| walk_at "gn") => `(tactic| fail)
local macro_rules | `(tactic| walk_at "cl") => `(tactic| first
  | (show Sy.DE _ _ _ _ (.Call (.Name "lowest" _) (_ :: _) [] _) _; refine G.call (fn_lowest T) (by decide) (by rfl) ?_)
  | (show Sy.DE _ _ _ _ (.Call (.Name "is_integer" _) (_ :: _) [] _) _; refine G.call (fn_is_integer T) (by decide) (by rfl) ?_))
local macro_rules | `(tactic| walk_at "bl") => `(tactic| fail)
local macro_rules | `(tactic| walk_at "pr") => `(tactic| fail)
def F_fraction : FS := fun ds m Q => ∃ (a b : Int), ds = [.int a, .int b] ∧ 0 < b ∧ Bd 1000 b ∧ Q (fD (lw a b)) m
theorem fn_fraction (T : Txt K mg) : Fn P w K mg base 2 "fraction" s_fraction ["top", "bottom"] F_fraction := by
  obtain ⟨f, fd, Fu, hm, hb⟩ := T.d_fraction
  refine ⟨f, fd, Fu, hm, hb, fn_ok Fu sc_fraction (fun ds m Φ h => ?_) (fun X C G ds m Φ h => ?_)⟩
  · obtain ⟨v, l, rfl, _⟩ := h; rfl
  obtain ⟨a, b, rfl, h0, hn, q⟩ := h
  walk_at "run"
  refine F_lowest.mk h0 hn (by decide) ?_
  exact q
end
section
local macro_rules | `(tactic| walk_at "nm") => `(tactic| first
  | (show Sy.DE _ _ _ _ (.Name "one" _) _; refine G.name (i := 0) rfl (by rfl) rfl ?_)
  | (show Sy.DE _ _ _ _ (.Name "other" _) _; refine G.name (i := 1) rfl (by rfl) rfl ?_))
local macro_rules | `(tactic| walk_at "st") => `(tactic| fail)
local macro_rules | `(tactic| walk_at "gn") => `(tactic| fail)
local macro_rules | `(tactic| walk_at "cl") => `(tactic| fail)
local macro_rules | `(tactic| walk_at "bl") => `(tactic| fail)
local macro_rules | `(tactic| walk_at "pr") => `(tactic| fail)
def F_is_less : FS := fun ds m Q => ∃ p q : Int × Int, ds = [fD p, fD q] ∧ CMulW p.1 q.2 ∧ CMulW q.1 p.2 ∧ Q (.bl (decide (p.1 * q.2 < q.1 * p.2))) m
theorem fn_is_less (T : Txt K mg) : Fn P w K mg base 1 "is_less" s_is_less ["one", "other"] F_is_less := by
  obtain ⟨f, fd, Fu, hm, hb⟩ := T.d_is_less
  refine ⟨f, fd, Fu, hm, hb, fn_ok Fu sc_is_less (fun ds m Φ h => ?_) (fun X C G ds m Φ h => ?_)⟩
  · obtain ⟨a, b, rfl, _⟩ := h; rfl
  obtain ⟨a, b, rfl, h1, h2, q⟩ := h
  walk_at "run"
  exact q
end
section
local macro_rules | `(tactic| walk_at "nm") => `(tactic| first
  | (show Sy.DE _ _ _ _ (.Name "scale" _) _; refine G.name (i := 0) rfl (by rfl) rfl ?_))
local macro_rules | `(tactic| walk_at "st") => `(tactic| fail)
local macro_rules | `(tactic| walk_at "gn") => `(tactic| fail)
local macro_rules | `(tactic| walk_at "cl") => `(tactic| first
  | (show Sy.DE _ _ _ _ (.Call (.Name "is_scale" _) (_ :: _) [] _) _; refine G.call (fn_is_scale T) (by decide) (by rfl) ?_))
local macro_rules | `(tactic| walk_at "bl") => `(tactic| fail)
local macro_rules | `(tactic| walk_at "pr") => `(tactic| fail)
def F_check_scale : FS := fun ds m Q => ∃ p, ds = [fD p] ∧ Sc p ∧ Q .non m
theorem fn_check_scale (T : Txt K mg) : Fn P w K mg base 4 "check_scale" s_check_scale ["scale"] F_check_scale := by
  obtain ⟨f, fd, Fu, hm, hb⟩ := T.d_check_scale
  refine ⟨f, fd, Fu, hm, hb, fn_ok Fu sc_check_scale (fun ds m Φ h => ?_) (fun X C G ds m Φ h => ?_)⟩
  · obtain ⟨v, rfl, _⟩ := h; rfl
  obtain ⟨p, rfl, hs, q⟩ := h
  walk_at "run"
  exact q
end
local macro_rules | `(tactic| walk_at "mk") => `(tactic| (show F_check_scale _ _ _; refine ⟨_, rfl, by assumption, ?_⟩))
section
local macro_rules | `(tactic| walk_at "nm") => `(tactic| first
  | (show Sy.DE _ _ _ _ (.Name "step" _) _; refine G.name (i := 0) rfl (by rfl) rfl ?_)
  | (show Sy.DE _ _ _ _ (.Name "left" _) _; refine G.name (i := 1) rfl (by rfl) rfl ?_)
  | (show Sy.DE _ _ _ _ (.Name "right" _) _; refine G.name (i := 2) rfl (by rfl) rfl ?_)
  | (show Sy.DE _ _ _ _ (.Name "value" _) _; refine G.name (i := 3) rfl (by rfl) rfl ?_))
local macro_rules | `(tactic| walk_at "st") => `(tactic| first
  | (show Sy.D1 _ _ _ _ (.Assign [.Name "value" _] _ _) _; refine G.set (i := 3) rfl (by rfl) ?_))
local macro_rules | `(tactic| walk_at "gn") => `(tactic| first
  | (show Sy.DG _ _ _ _ (.Name "value" _) _ _ _; refine G.gname (i := 3) rfl (by rfl) (by first | trivial | decide) ?_))
local macro_rules | `(tactic| walk_at "cl") => `(tactic| first
  | (show Sy.DE _ _ _ _ (.Call (.Name "is_from" _) (_ :: _) [] _) _; refine G.call (fn_is_from T) (by decide) (by rfl) ?_))
local macro_rules | `(tactic| walk_at "bl") => `(tactic| fail)
local macro_rules | `(tactic| walk_at "pr") => `(tactic| fail)
def F_check_even : FS := fun ds m Q => ∃ a b c : Int, ds = [.int a, .int b, .int c] ∧ 1 ≤ a ∧ 1 ≤ b ∧ 1 ≤ c ∧ Q .non m
theorem fn_check_even (T : Txt K mg) : Fn P w K mg base 3 "check_even" s_check_even ["step", "left", "right"] F_check_even := by
  obtain ⟨f, fd, Fu, hm, hb⟩ := T.d_check_even
  refine ⟨f, fd, Fu, hm, hb, fn_ok Fu sc_check_even (fun ds m Φ h => ?_) (fun X C G ds m Φ h => ?_)⟩
  · obtain ⟨a, b, c, rfl, _⟩ := h; rfl
  obtain ⟨a, b, c, rfl, h1, h2, h3, q⟩ := h
  walk_at "run"
  refine G.forU ?_
  refine di_t ?_
  walk_at "go"
  refine ⟨_, rfl, fun _ => trivial, ?_⟩
  walk_at "go"
  exact q
/-! ### the ruler -/
end
section
local macro_rules | `(tactic| walk_at "nm") => `(tactic| first
  | (show Sy.DE _ _ _ _ (.Name "many" _) _; refine G.name (i := 0) rfl (by rfl) rfl ?_))
local macro_rules | `(tactic| walk_at "st") => `(tactic| fail)
local macro_rules | `(tactic| walk_at "gn") => `(tactic| fail)
local macro_rules | `(tactic| walk_at "cl") => `(tactic| first
  | (show Sy.DE _ _ _ _ (.Call (.Name "is_between" _) (_ :: _) [] _) _; refine G.call (fn_is_between T) (by decide) (by rfl) ?_))
local macro_rules | `(tactic| walk_at "bl") => `(tactic| first
  | (show Sy.DE _ _ _ _ (.Name "MOST_MARKS" _) _; refine G.gint (by rfl) T.c_MOST_MARKS.choose_spec ?_))
local macro_rules | `(tactic| walk_at "pr") => `(tactic| fail)
def F_check_many : FS := fun ds m Q => ∃ a : Int, ds = [.int a] ∧ 1 ≤ a ∧ a ≤ 24 ∧ Q .non m
theorem fn_check_many (T : Txt K mg) : Fn P w K mg base 3 "check_many" s_check_many ["many"] F_check_many := by
  obtain ⟨f, fd, Fu, hm, hb⟩ := T.d_check_many
  refine ⟨f, fd, Fu, hm, hb, fn_ok Fu sc_check_many (fun ds m Φ h => ?_) (fun X C G ds m Φ h => ?_)⟩
  · obtain ⟨a, rfl, _⟩ := h; rfl
  obtain ⟨a, rfl, h1, h2, q⟩ := h
  walk_at "run"
  exact q
end
local macro_rules | `(tactic| walk_at "mk") => `(tactic| (show F_check_many _ _ _; refine ⟨_, rfl, by assumption, by assumption, ?_⟩))
theorem F_check_even.mk {a b c : Int} {m : Sto} {Q : D → Sto → Prop} (h1 : 1 ≤ a) (h2 : 1 ≤ b) (h3 : 1 ≤ c) (q : Q .non m) : F_check_even [.int a, .int b, .int c] m Q := ⟨a, b, c, rfl, h1, h2, h3, q⟩
local macro_rules | `(tactic| walk_at "mk") => `(tactic| (show F_check_even _ _ _; refine F_check_even.mk (by assumption) (by assumption) (by assumption) ?_))
section
local macro_rules | `(tactic| walk_at "nm") => `(tactic| first
  | (show Sy.DE _ _ _ _ (.Name "k" _) _; refine G.name (i := 0) rfl (by rfl) rfl ?_))
local macro_rules | `(tactic| walk_at "st") => `(tactic| fail)
local macro_rules | `(tactic| walk_at "gn") => `(tactic| fail)
local macro_rules | `(tactic| walk_at "cl") => `(tactic| fail)
local macro_rules | `(tactic| walk_at "bl") => `(tactic| fail)
local macro_rules | `(tactic| walk_at "pr") => `(tactic| fail)
def F_ruler_of : FS := fun ds m Q => ∃ a : Int, ds = [.int a] ∧ 1 ≤ a ∧ Q (.int (rlI a)) m
theorem fn_ruler_of (T : Txt K mg) : Fn P w K mg base 1 "ruler_of" s_ruler_of ["k"] F_ruler_of := by
  obtain ⟨f, fd, Fu, hm, hb⟩ := T.d_ruler_of
  refine ⟨f, fd, Fu, hm, hb, fn_ok Fu sc_ruler_of (fun ds m Φ h => ?_) (fun X C G ds m Φ h => ?_)⟩
  · obtain ⟨a, rfl, _⟩ := h; rfl
  obtain ⟨a, rfl, h1, q⟩ := h
  walk_at "run"
  rw [band_neg h1]
  exact q
theorem F_ruler_of.mk {a : Int} {m : Sto} {Q : D → Sto → Prop} (h1 : 1 ≤ a) (q : Q (.int (rlI a)) m) : F_ruler_of [.int a] m Q := ⟨a, rfl, h1, q⟩
end
local macro_rules | `(tactic| walk_at "mk") => `(tactic| (show F_ruler_of _ _ _; refine F_ruler_of.mk (by first | assumption | omega) ?_))
section
local macro_rules | `(tactic| walk_at "nm") => `(tactic| first
  | (show Sy.DE _ _ _ _ (.Name "k" _) _; refine G.name (i := 0) rfl (by rfl) rfl ?_))
local macro_rules | `(tactic| walk_at "st") => `(tactic| fail)
local macro_rules | `(tactic| walk_at "gn") => `(tactic| fail)
local macro_rules | `(tactic| walk_at "cl") => `(tactic| first
  | (show Sy.DE _ _ _ _ (.Call (.Name "ruler_of" _) (_ :: _) [] _) _; refine G.call (fn_ruler_of T) (by decide) (by rfl) ?_)
  | (show Sy.DE _ _ _ _ (.Call (.Name "is_from" _) (_ :: _) [] _) _; refine G.call (fn_is_from T) (by decide) (by rfl) ?_))
local macro_rules | `(tactic| walk_at "bl") => `(tactic| fail)
local macro_rules | `(tactic| walk_at "pr") => `(tactic| fail)
def F_ruler : FS := fun ds m Q => ∃ a : Int, ds = [.int a] ∧ 1 ≤ a ∧ Q (.int (rlI a)) m
theorem fn_ruler (T : Txt K mg) : Fn P w K mg base 3 "ruler" s_ruler ["k"] F_ruler := by
  obtain ⟨f, fd, Fu, hm, hb⟩ := T.d_ruler
  refine ⟨f, fd, Fu, hm, hb, fn_ok Fu sc_ruler (fun ds m Φ h => ?_) (fun X C G ds m Φ h => ?_)⟩
  · obtain ⟨a, rfl, _⟩ := h; rfl
  obtain ⟨a, rfl, h1, q⟩ := h
  walk_at "run"
  exact q
theorem F_ruler.mk {a : Int} {m : Sto} {Q : D → Sto → Prop} (h1 : 1 ≤ a) (q : Q (.int (rlI a)) m) : F_ruler [.int a] m Q := ⟨a, rfl, h1, q⟩
end
section
local macro_rules | `(tactic| walk_at "nm") => `(tactic| first
  | (show Sy.DE _ _ _ _ (.Name "number" _) _; refine G.name (i := 0) rfl (by rfl) rfl ?_)
  | (show Sy.DE _ _ _ _ (.Name "step" _) _; refine G.name (i := 1) rfl (by rfl) rfl ?_)
  | (show Sy.DE _ _ _ _ (.Name "left" _) _; refine G.name (i := 2) rfl (by rfl) rfl ?_)
  | (show Sy.DE _ _ _ _ (.Name "right" _) _; refine G.name (i := 3) rfl (by rfl) rfl ?_))
local macro_rules | `(tactic| walk_at "st") => `(tactic| fail)
local macro_rules | `(tactic| walk_at "gn") => `(tactic| fail)
local macro_rules | `(tactic| walk_at "cl") => `(tactic| first
  | (show Sy.DE _ _ _ _ (.Call (.Name "fraction" _) (_ :: _) [] _) _; refine G.call (fn_fraction T) (by decide) (by rfl) ?_))
local macro_rules | `(tactic| walk_at "bl") => `(tactic| fail)
local macro_rules | `(tactic| walk_at "pr") => `(tactic| fail)
def F_far_apart : FS := fun ds m Q => ∃ n s l r : Int, ds = [.int n, .int s, .int l, .int r] ∧ Bd 200 n ∧ Bd 67 s ∧ Bd 67 l ∧ Bd 67 r ∧ 0 < l + r ∧ Q (fD (lw (n * s) (l + r))) m
theorem fn_far_apart (T : Txt K mg) : Fn P w K mg base 3 "far_apart" s_far_apart ["number", "step", "left", "right"] F_far_apart := by
  obtain ⟨f, fd, Fu, hm, hb⟩ := T.d_far_apart
  refine ⟨f, fd, Fu, hm, hb, fn_ok Fu sc_far_apart (fun ds m Φ h => ?_) (fun X C G ds m Φ h => ?_)⟩
  · obtain ⟨a, b, c, d, rfl, _⟩ := h; rfl
  obtain ⟨n, s, l, r, rfl, h1, h2, h3, h4, h5, q⟩ := h
  walk_at "run"
  exact ⟨h5, (h3.add h4).mono (by decide), q⟩
/-- the numbers of an even axis -/
structure Ax (s l r : Int) : Prop where
  s1 : 1 ≤ s
  l1 : 1 ≤ l
  r1 : 1 ≤ r
  s2 : Bd 67 s
  l2 : Bd 67 l
  r2 : Bd 67 r
theorem F_far_apart.mk {n s l r : Int} {m : Sto} {Q : D → Sto → Prop} (h1 : Bd 200 n) (A : Ax s l r) (q : Q (fD (lw (n * s) (l + r))) m) : F_far_apart [.int n, .int s, .int l, .int r] m Q :=
  ⟨n, s, l, r, rfl, h1, A.s2, A.l2, A.r2, by have := A.l1; have := A.r1; omega, q⟩
end
section
local macro_rules | `(tactic| walk_at "nm") => `(tactic| first
  | (show Sy.DE _ _ _ _ (.Name "k" _) _; refine G.name (i := 0) rfl (by rfl) rfl ?_)
  | (show Sy.DE _ _ _ _ (.Name "step" _) _; refine G.name (i := 1) rfl (by rfl) rfl ?_)
  | (show Sy.DE _ _ _ _ (.Name "left" _) _; refine G.name (i := 2) rfl (by rfl) rfl ?_)
  | (show Sy.DE _ _ _ _ (.Name "right" _) _; refine G.name (i := 3) rfl (by rfl) rfl ?_))
local macro_rules | `(tactic| walk_at "st") => `(tactic| fail)
local macro_rules | `(tactic| walk_at "gn") => `(tactic| fail)
local macro_rules | `(tactic| walk_at "cl") => `(tactic| first
  | (show Sy.DE _ _ _ _ (.Call (.Name "far_apart" _) (_ :: _) [] _) _; refine G.call (fn_far_apart T) (by decide) (by rfl) ?_)
  | (show Sy.DE _ _ _ _ (.Call (.Name "ruler_of" _) (_ :: _) [] _) _; refine G.call (fn_ruler_of T) (by decide) (by rfl) ?_))
local macro_rules | `(tactic| walk_at "bl") => `(tactic| fail)
local macro_rules | `(tactic| walk_at "pr") => `(tactic| fail)
/-- the end of mark k -/
def endD (k s l r : Int) : D := if k = 0 then .non else fD (lw (rlI k * s) (l + r))
def F_ruler_end_of : FS := fun ds m Q => ∃ k s l r : Int, ds = [.int k, .int s, .int l, .int r] ∧ 0 ≤ k ∧ Bd 67 k ∧ Ax s l r ∧ Q (endD k s l r) m
theorem fn_ruler_end_of (T : Txt K mg) : Fn P w K mg base 4 "ruler_end_of" s_ruler_end_of ["k", "step", "left", "right"] F_ruler_end_of := by
  obtain ⟨f, fd, Fu, hm, hb⟩ := T.d_ruler_end_of
  refine ⟨f, fd, Fu, hm, hb, fn_ok Fu sc_ruler_end_of (fun ds m Φ h => ?_) (fun X C G ds m Φ h => ?_)⟩
  · obtain ⟨a, b, c, d, rfl, _⟩ := h; rfl
  obtain ⟨k, s, l, r, rfl, h1, h2, A, q⟩ := h
  walk_at "run"
  walk_at "br"
  · walk_at "go"
    rw [endD, if_pos h] at q
    exact q
  walk_at "go"
  refine F_far_apart.mk ((h2.le (by have := rlI_pos (k := k) (by omega); omega) (rlI_le h1)).mono (by decide)) A ?_
  rw [endD, if_neg h] at q
  exact q
theorem F_ruler_end_of.mk {k s l r : Int} {m : Sto} {Q : D → Sto → Prop} (h1 : 0 ≤ k) (h2 : Bd 67 k) (A : Ax s l r) (q : Q (endD k s l r) m) : F_ruler_end_of [.int k, .int s, .int l, .int r] m Q := ⟨k, s, l, r, rfl, h1, h2, A, q⟩
end
section
local macro_rules | `(tactic| walk_at "nm") => `(tactic| first
  | (show Sy.DE _ _ _ _ (.Name "k" _) _; refine G.name (i := 0) rfl (by rfl) rfl ?_)
  | (show Sy.DE _ _ _ _ (.Name "step" _) _; refine G.name (i := 1) rfl (by rfl) rfl ?_)
  | (show Sy.DE _ _ _ _ (.Name "left" _) _; refine G.name (i := 2) rfl (by rfl) rfl ?_)
  | (show Sy.DE _ _ _ _ (.Name "right" _) _; refine G.name (i := 3) rfl (by rfl) rfl ?_))
local macro_rules | `(tactic| walk_at "st") => `(tactic| fail)
local macro_rules | `(tactic| walk_at "gn") => `(tactic| fail)
local macro_rules | `(tactic| walk_at "cl") => `(tactic| first
  | (show Sy.DE _ _ _ _ (.Call (.Name "check_even" _) (_ :: _) [] _) _; refine G.call (fn_check_even T) (by decide) (by rfl) ?_)
  | (show Sy.DE _ _ _ _ (.Call (.Name "ruler_end_of" _) (_ :: _) [] _) _; refine G.call (fn_ruler_end_of T) (by decide) (by rfl) ?_)
  | (show Sy.DE _ _ _ _ (.Call (.Name "is_from" _) (_ :: _) [] _) _; refine G.call (fn_is_from T) (by decide) (by rfl) ?_))
local macro_rules | `(tactic| walk_at "bl") => `(tactic| fail)
local macro_rules | `(tactic| walk_at "pr") => `(tactic| fail)
def F_ruler_end : FS := F_ruler_end_of
theorem fn_ruler_end (T : Txt K mg) : Fn P w K mg base 5 "ruler_end" s_ruler_end ["k", "step", "left", "right"] F_ruler_end := by
  obtain ⟨f, fd, Fu, hm, hb⟩ := T.d_ruler_end
  refine ⟨f, fd, Fu, hm, hb, fn_ok Fu sc_ruler_end (fun ds m Φ h => ?_) (fun X C G ds m Φ h => ?_)⟩
  · obtain ⟨a, b, c, d, rfl, _⟩ := h; rfl
  obtain ⟨k, s, l, r, rfl, h1, h2, A, q⟩ := h
  have a1 := A.s1
  have a2 := A.l1
  have a3 := A.r1
  walk_at "run"
  exact F_ruler_end_of.mk h1 h2 A q
end
section
local macro_rules | `(tactic| walk_at "nm") => `(tactic| first
  | (show Sy.DE _ _ _ _ (.Name "step" _) _; refine G.name (i := 0) rfl (by rfl) rfl ?_)
  | (show Sy.DE _ _ _ _ (.Name "left" _) _; refine G.name (i := 1) rfl (by rfl) rfl ?_)
  | (show Sy.DE _ _ _ _ (.Name "right" _) _; refine G.name (i := 2) rfl (by rfl) rfl ?_)
  | (show Sy.DE _ _ _ _ (.Name "scale" _) _; refine G.name (i := 3) rfl (by rfl) rfl ?_)
  | (show Sy.DE _ _ _ _ (.Name "found" _) _; refine G.name (i := 4) rfl (by rfl) rfl ?_))
local macro_rules | `(tactic| walk_at "st") => `(tactic| first
  | (show Sy.D1 _ _ _ _ (.Assign [.Name "found" _] _ _) _; refine G.set (i := 4) rfl (by rfl) ?_))
local macro_rules | `(tactic| walk_at "gn") => `(tactic| first
  | (show Sy.DG _ _ _ _ (.Name "found" _) _ _ _; refine G.gname (i := 4) rfl (by rfl) (by first | trivial | decide) ?_))
local macro_rules | `(tactic| walk_at "cl") => `(tactic| first
  | (show Sy.DE _ _ _ _ (.Call (.Name "is_less" _) (_ :: _) [] _) _; refine G.call (fn_is_less T) (by decide) (by rfl) ?_)
  | (show Sy.DE _ _ _ _ (.Call (.Name "far_apart" _) (_ :: _) [] _) _; refine G.call (fn_far_apart T) (by decide) (by rfl) ?_))
local macro_rules | `(tactic| walk_at "bl") => `(tactic| fail)
local macro_rules | `(tactic| walk_at "pr") => `(tactic| fail)
def F_ruler_step_of : FS := fun ds m Q => ∃ (s l r : Int) (p : Int × Int), ds = [.int s, .int l, .int r, fD p] ∧ Ax s l r ∧ Sc p ∧ Bd 67 p.1 ∧ Bd 67 p.2 ∧ ∀ e, Rch s (l + r) p e → e ≤ 136 → Q (.int (2 ^ e)) m
theorem fn_ruler_step_of (T : Txt K mg) : Fn P w K mg base 4 "ruler_step_of" s_ruler_step_of ["step", "left", "right", "scale"] F_ruler_step_of := by
  obtain ⟨f, fd, Fu, hm, hb⟩ := T.d_ruler_step_of
  refine ⟨f, fd, Fu, hm, hb, fn_ok Fu sc_ruler_step_of (fun ds m Φ h => ?_) (fun X C G ds m Φ h => ?_)⟩
  · obtain ⟨a, b, c, d, rfl, _⟩ := h; rfl
  obtain ⟨s, l, r, p, rfl, A, S, b1, b2, q⟩ := h
  have a1 := A.s1
  have a2 := A.l1
  have a3 := A.r1
  have a4 := A.l2.lt
  have a5 := A.r2.lt
  have a6 := b1.lt
  have a7 := S.t
  have hlr : 0 < l + r := by omega
  obtain ⟨e, he, hle⟩ := rch_ex (st := s) (lr := l + r) (p := p) a1 S.b (by omega) (by omega) hlr (by omega)
  walk_at "run"
  refine G.while_ (fun n r' m' => m' = m ∧ ∃ j : Nat, j ≤ e ∧ n = e - j ∧ r' = [some (.int s), some (.int l), some (.int r), some (fD p), some (.int (2 ^ j))]) e ⟨rfl, 0, Nat.zero_le _, rfl, rfl⟩ ?_
  rintro n r' m' ⟨rfl, j, hj, rfl, rfl⟩
  have hb : Bd 200 (2 ^ j : Int) := ⟨by
    rw [Int.natAbs_pow]
    exact Nat.pow_lt_pow_right (by decide) (by omega)⟩
  walk_at "go"
  refine F_far_apart.mk hb A ?_
  walk_at "go"
  have c1 : Bd 267 (lw (2 ^ j * s) (l + r)).1 := lw_bd1 hlr (hb.mul A.s2)
  have c2 : Bd 68 (lw (2 ^ j * s) (l + r)).2 := lw_bd2 hlr (A.l2.add A.r2)
  refine ⟨cmul_of c1 b2 (by decide), cmul_of b1 c2 (by decide), ?_⟩
  walk_at "go"
  walk_at "br"
  · have hp := (pq_lw hlr).mp h
    have hlt : j < e := Nat.lt_of_le_of_ne hj fun z => he.1 (z ▸ hp)
    walk_at "go"
    exact ⟨e - (j + 1), by omega, rfl, j + 1, hlt, rfl, by rw [Int.pow_succ, Int.mul_comm]; rfl⟩
  · have hp := fun z => h ((pq_lw hlr).mpr z)
    have hee : j = e := by
      by_cases z : j < e
      · exact absurd (he.2 j z) hp
      · omega
    subst hee
    walk_at "go"
    exact q j he hle
theorem F_ruler_step_of.mk {s l r : Int} {p : Int × Int} {m : Sto} {Q : D → Sto → Prop} (A : Ax s l r) (S : Sc p) (h1 : Bd 67 p.1) (h2 : Bd 67 p.2) (q : ∀ e, Rch s (l + r) p e → e ≤ 136 → Q (.int (2 ^ e)) m) : F_ruler_step_of [.int s, .int l, .int r, fD p] m Q := ⟨s, l, r, p, rfl, A, S, h1, h2, q⟩
end
section
local macro_rules | `(tactic| walk_at "nm") => `(tactic| first
  | (show Sy.DE _ _ _ _ (.Name "step" _) _; refine G.name (i := 0) rfl (by rfl) rfl ?_)
  | (show Sy.DE _ _ _ _ (.Name "left" _) _; refine G.name (i := 1) rfl (by rfl) rfl ?_)
  | (show Sy.DE _ _ _ _ (.Name "right" _) _; refine G.name (i := 2) rfl (by rfl) rfl ?_)
  | (show Sy.DE _ _ _ _ (.Name "scale" _) _; refine G.name (i := 3) rfl (by rfl) rfl ?_))
local macro_rules | `(tactic| walk_at "st") => `(tactic| fail)
local macro_rules | `(tactic| walk_at "gn") => `(tactic| fail)
local macro_rules | `(tactic| walk_at "cl") => `(tactic| first
  | (show Sy.DE _ _ _ _ (.Call (.Name "check_even" _) (_ :: _) [] _) _; refine G.call (fn_check_even T) (by decide) (by rfl) ?_)
  | (show Sy.DE _ _ _ _ (.Call (.Name "check_scale" _) (_ :: _) [] _) _; refine G.call (fn_check_scale T) (by decide) (by rfl) ?_)
  | (show Sy.DE _ _ _ _ (.Call (.Name "ruler_step_of" _) (_ :: _) [] _) _; refine G.call (fn_ruler_step_of T) (by decide) (by rfl) ?_))
local macro_rules | `(tactic| walk_at "bl") => `(tactic| fail)
local macro_rules | `(tactic| walk_at "pr") => `(tactic| fail)
def F_ruler_step : FS := F_ruler_step_of
theorem fn_ruler_step (T : Txt K mg) : Fn P w K mg base 5 "ruler_step" s_ruler_step ["step", "left", "right", "scale"] F_ruler_step := by
  obtain ⟨f, fd, Fu, hm, hb⟩ := T.d_ruler_step
  refine ⟨f, fd, Fu, hm, hb, fn_ok Fu sc_ruler_step (fun ds m Φ h => ?_) (fun X C G ds m Φ h => ?_)⟩
  · obtain ⟨a, b, c, d, rfl, _⟩ := h; rfl
  obtain ⟨s, l, r, p, rfl, A, S, b1, b2, q⟩ := h
  have a1 := A.s1
  have a2 := A.l1
  have a3 := A.r1
  walk_at "run"
  exact F_ruler_step_of.mk A S b1 b2 q
end
section
local macro_rules | `(tactic| walk_at "nm") => `(tactic| first
  | (show Sy.DE _ _ _ _ (.Name "many" _) _; refine G.name (i := 0) rfl (by rfl) rfl ?_)
  | (show Sy.DE _ _ _ _ (.Name "step" _) _; refine G.name (i := 1) rfl (by rfl) rfl ?_)
  | (show Sy.DE _ _ _ _ (.Name "left" _) _; refine G.name (i := 2) rfl (by rfl) rfl ?_)
  | (show Sy.DE _ _ _ _ (.Name "right" _) _; refine G.name (i := 3) rfl (by rfl) rfl ?_)
  | (show Sy.DE _ _ _ _ (.Name "scale" _) _; refine G.name (i := 4) rfl (by rfl) rfl ?_))
local macro_rules | `(tactic| walk_at "st") => `(tactic| fail)
local macro_rules | `(tactic| walk_at "gn") => `(tactic| fail)
local macro_rules | `(tactic| walk_at "cl") => `(tactic| first
  | (show Sy.DE _ _ _ _ (.Call (.Name "check_even" _) (_ :: _) [] _) _; refine G.call (fn_check_even T) (by decide) (by rfl) ?_)
  | (show Sy.DE _ _ _ _ (.Call (.Name "check_scale" _) (_ :: _) [] _) _; refine G.call (fn_check_scale T) (by decide) (by rfl) ?_)
  | (show Sy.DE _ _ _ _ (.Call (.Name "is_from" _) (_ :: _) [] _) _; refine G.call (fn_is_from T) (by decide) (by rfl) ?_)
  | (show Sy.DE _ _ _ _ (.Call (.Name "ruler_step_of" _) (_ :: _) [] _) _; refine G.call (fn_ruler_step_of T) (by decide) (by rfl) ?_))
local macro_rules | `(tactic| walk_at "bl") => `(tactic| fail)
local macro_rules | `(tactic| walk_at "pr") => `(tactic| fail)
def F_ruler_count : FS := fun ds m Q => ∃ (n s l r : Int) (p : Int × Int), ds = [.int n, .int s, .int l, .int r, fD p] ∧ 1 ≤ n ∧ Ax s l r ∧ Sc p ∧ Bd 67 p.1 ∧ Bd 67 p.2 ∧ ∀ e, Rch s (l + r) p e → e ≤ 136 → Q (.int ((n + 2 ^ e - 1) / 2 ^ e)) m
theorem fn_ruler_count (T : Txt K mg) : Fn P w K mg base 5 "ruler_count" s_ruler_count ["many", "step", "left", "right", "scale"] F_ruler_count := by
  obtain ⟨f, fd, Fu, hm, hb⟩ := T.d_ruler_count
  refine ⟨f, fd, Fu, hm, hb, fn_ok Fu sc_ruler_count (fun ds m Φ h => ?_) (fun X C G ds m Φ h => ?_)⟩
  · obtain ⟨a, b, c, d, p, rfl, _⟩ := h; rfl
  obtain ⟨n, s, l, r, p, rfl, hn, A, S, b1, b2, q⟩ := h
  have a1 := A.s1
  have a2 := A.l1
  have a3 := A.r1
  walk_at "run"
  refine F_ruler_step_of.mk A S b1 b2 fun e he hle => ?_
  have hpos : (0 : Int) < 2 ^ e := Int.pow_pos (by decide)
  have hb : Bd 200 (2 ^ e : Int) := ⟨by
    rw [Int.natAbs_pow]
    exact Nat.pow_lt_pow_right (by decide) (by omega)⟩
  walk_at "go"
  have q1 := q e he hle
  rw [← count_eq hn (by omega)] at q1
  exact q1
theorem F_ruler_count.mk {n s l r : Int} {p : Int × Int} {m : Sto} {Q : D → Sto → Prop} (hn : 1 ≤ n) (A : Ax s l r) (S : Sc p) (h1 : Bd 67 p.1) (h2 : Bd 67 p.2) (q : ∀ e, Rch s (l + r) p e → e ≤ 136 → Q (.int ((n + 2 ^ e - 1) / 2 ^ e)) m) : F_ruler_count [.int n, .int s, .int l, .int r, fD p] m Q := ⟨n, s, l, r, p, rfl, hn, A, S, h1, h2, q⟩
theorem F_ruler_step.mk {s l r : Int} {p : Int × Int} {m : Sto} {Q : D → Sto → Prop} (A : Ax s l r) (S : Sc p) (h1 : Bd 67 p.1) (h2 : Bd 67 p.2) (q : ∀ e, Rch s (l + r) p e → e ≤ 136 → Q (.int (2 ^ e)) m) : F_ruler_step [.int s, .int l, .int r, fD p] m Q := ⟨s, l, r, p, rfl, A, S, h1, h2, q⟩
end
section
local macro_rules | `(tactic| walk_at "nm") => `(tactic| first
  | (show Sy.DE _ _ _ _ (.Name "many" _) _; refine G.name (i := 0) rfl (by rfl) rfl ?_)
  | (show Sy.DE _ _ _ _ (.Name "first" _) _; refine G.name (i := 1) rfl (by rfl) rfl ?_)
  | (show Sy.DE _ _ _ _ (.Name "step" _) _; refine G.name (i := 2) rfl (by rfl) rfl ?_)
  | (show Sy.DE _ _ _ _ (.Name "left" _) _; refine G.name (i := 3) rfl (by rfl) rfl ?_)
  | (show Sy.DE _ _ _ _ (.Name "right" _) _; refine G.name (i := 4) rfl (by rfl) rfl ?_)
  | (show Sy.DE _ _ _ _ (.Name "k" _) _; refine G.name (i := 5) rfl (by rfl) rfl ?_))
local macro_rules | `(tactic| walk_at "st") => `(tactic| first
  | (show Sy.D1 _ _ _ _ (.Assign [.Name "k" _] _ _) _; refine G.set (i := 5) rfl (by rfl) ?_))
local macro_rules | `(tactic| walk_at "gn") => `(tactic| first
  | (show Sy.DG _ _ _ _ (.Name "k" _) _ _ _; refine G.gname (i := 5) rfl (by rfl) (by first | trivial | decide) ?_))
local macro_rules | `(tactic| walk_at "cl") => `(tactic| first
  | (show Sy.DE _ _ _ _ (.Call (.Name "check_many" _) (_ :: _) [] _) _; refine G.call (fn_check_many T) (by decide) (by rfl) ?_)
  | (show Sy.DE _ _ _ _ (.Call (.Name "check_even" _) (_ :: _) [] _) _; refine G.call (fn_check_even T) (by decide) (by rfl) ?_)
  | (show Sy.DE _ _ _ _ (.Call (.Name "is_between" _) (_ :: _) [] _) _; refine G.call (fn_is_between T) (by decide) (by rfl) ?_)
  | (show Sy.DE _ _ _ _ (.Call (.Name "ruler_end_of" _) (_ :: _) [] _) _; refine G.call (fn_ruler_end_of T) (by decide) (by rfl) ?_))
local macro_rules | `(tactic| walk_at "bl") => `(tactic| first
  | (show Sy.DE _ _ _ _ (.Call (.Name "tuple" _) (_ :: _) [] _) _; refine G.bty (T := "tuple") (by rfl) T.b_tuple Sy.bb_tuple ?_)
  | (show Sy.DE _ _ _ _ (.Call (.Name "abs" _) (_ :: _) [] _) _; refine G.blt (id := "abs") (by rfl) T.b_abs Sy.bb_abs ?_)
  | (show Sy.DE _ _ _ _ (.Name "tuple" _) _; refine G.tyname (n := "tuple") (by rfl) T.b_tuple Sy.bb_tuple ?_))
local macro_rules | `(tactic| walk_at "pr") => `(tactic| fail)
def absI (i : Int) : Int := if i < 0 then -i else i
def endAt (f s l r : Int) : D → Option D
  | .int k => some (endD (absI (k - f)) s l r)
  | _ => none
def F_ruler_ends : FS := fun ds m Q => ∃ (n f s l r : Int), ds = [.int n, .int f, .int s, .int l, .int r] ∧ 1 ≤ n ∧ n ≤ 24 ∧ 0 ≤ f ∧ f < n ∧ Ax s l r ∧ Q (.tup ((rngD 0 n.toNat).filterMap (endAt f s l r))) m
theorem small_line {n : Nat} (h : n ≤ 100000) : n ≤ sizeLine := Nat.le_trans h (by decide)
theorem mem_rng {lo : Int} {n : Nat} {d : D} (h : d ∈ rngD lo n) : ∃ i : Nat, i < n ∧ d = .int (lo + i) := by
  unfold rngD at h
  obtain ⟨i, h1, h2⟩ := List.mem_map.mp h
  exact ⟨i, List.mem_range.mp h1, h2.symm⟩
theorem fn_ruler_ends (T : Txt K mg) : Fn P w K mg base 5 "ruler_ends" s_ruler_ends ["many", "first", "step", "left", "right"] F_ruler_ends := by
  obtain ⟨f, fd, Fu, hm, hb⟩ := T.d_ruler_ends
  refine ⟨f, fd, Fu, hm, hb, fn_ok Fu sc_ruler_ends (fun ds m Φ h => ?_) (fun X C G ds m Φ h => ?_)⟩
  · obtain ⟨a, b, c, d, e, rfl, _⟩ := h; rfl
  obtain ⟨n, f, s, l, r, rfl, h1, h2, h3, h4, A, q⟩ := h
  have a1 := A.s1
  have a2 := A.l1
  have a3 := A.r1
  walk_at "run"
  refine G.map [("k", 5)] (by decide +kernel) ?_
  refine G.rng1 rfl (by rfl) T.b_range ?_
  walk_at "go"
  refine ⟨n, rfl, by omega, by omega, by rw [rngD_length]; exact small_line (by omega), fun _ _ => trivial, endAt f s l r, fun d hd m' ha => ?_, ?_⟩
  · obtain ⟨i, hi, rfl⟩ := mem_rng hd
    refine G.pturn0 rfl ?_
    intro X1 G
    walk_at "go"
    intro X3 G
    walk_at "go"
    refine F_ruler_end_of.mk (by split <;> omega) (Bd.of (by split <;> omega) (by split <;> omega)) A ?_
    exact ⟨rfl, rfl⟩
  walk_at "go"
  exact q
/-! ### the law's own means -/
end
section
local macro_rules | `(tactic| walk_at "nm") => `(tactic| first
  | (show Sy.DE _ _ _ _ (.Name "script" _) _; refine G.name (i := 0) rfl (by rfl) rfl ?_)
  | (show Sy.DE _ _ _ _ (.Name "k" _) _; refine G.name (i := 1) rfl (by rfl) rfl ?_))
local macro_rules | `(tactic| walk_at "st") => `(tactic| fail)
local macro_rules | `(tactic| walk_at "gn") => `(tactic| fail)
local macro_rules | `(tactic| walk_at "cl") => `(tactic| fail)
local macro_rules | `(tactic| walk_at "bl") => `(tactic| first
  | (show Sy.DE _ _ _ _ (.Call (.Name "len" _) (_ :: _) [] _) _; refine G.blt (id := "len") (by rfl) T.b_len Sy.bb_len ?_)
  | (show Sy.DE _ _ _ _ (.Call (.Name "int" _) (_ :: _) [] _) _; refine G.bty (T := "int") (by rfl) T.b_int Sy.bb_int ?_)
  | (show Sy.DE _ _ _ _ (.Call (.Name "sum" _) (_ :: _) [] _) _; refine G.blt (id := "sum") (by rfl) T.b_sum Sy.bb_sum ?_)
  | (show Sy.DE _ _ _ _ (.Name "int" _) _; refine G.tyname (n := "int") (by rfl) T.b_int Sy.bb_int ?_))
local macro_rules | `(tactic| walk_at "pr") => `(tactic| fail)
def F__law_cell : FS := fun ds m Q => ∃ (ns : List Int) (k : Int), ds = [.lst (ns.map D.int), .int k] ∧ 0 ≤ k ∧ k ≤ 100 ∧ ∀ i, Q (.int i) m
theorem cutD_map {α β : Type} (f : α → β) (xs : List α) (lo hi : Option Int) : cutD (xs.map f) lo hi = (cutD xs lo hi).map f := by
  unfold Sy.cutD
  rw [List.length_map, List.map_take, List.map_drop]
theorem fn__law_cell (T : Txt K mg) : Fn P w K mg base 1 "_law_cell" s__law_cell ["script", "k"] F__law_cell := by
  obtain ⟨f, fd, Fu, hm, hb⟩ := T.d__law_cell
  refine ⟨f, fd, Fu, hm, hb, fn_ok Fu sc__law_cell (fun ds m Φ h => ?_) (fun X C G ds m Φ h => ?_)⟩
  · obtain ⟨a, b, rfl, _⟩ := h; rfl
  obtain ⟨ns, k, rfl, h1, h2, q⟩ := h
  have hk : Bd 70 k := Bd.of (by omega) (by omega)
  walk_at "run"
  walk_at "br"
  · walk_at "go"
    rw [List.length_map] at h
    have e : ns[k.toNat]? = some ns[k.toNat] := List.getElem?_eq_getElem (by omega)
    have e2 : atI (ns.map D.int) k = some (.int ns[k.toNat]) := by
      have := atI_nat (xs := ns.map D.int) (j := k.toNat) (v := .int ns[k.toNat]) (by rw [List.getElem?_map, e]; rfl)
      rw [show ((k.toNat : Nat) : Int) = k by omega] at this
      exact this
    refine ix_l e2 ?_
    exact q _
  · walk_at "go"
    refine sl_l ?_
    rw [cutD_map]
    walk_at "go"
    refine G.sumL (.inl rfl) ?_
    walk_at "go"
    exact q _
end
section
local macro_rules | `(tactic| walk_at "nm") => `(tactic| first
  | (show Sy.DE _ _ _ _ (.Name "great" _) _; refine G.name (i := 0) rfl (by rfl) rfl ?_))
local macro_rules | `(tactic| walk_at "st") => `(tactic| fail)
local macro_rules | `(tactic| walk_at "gn") => `(tactic| fail)
local macro_rules | `(tactic| walk_at "cl") => `(tactic| fail)
local macro_rules | `(tactic| walk_at "bl") => `(tactic| first
  | (show Sy.DE _ _ _ _ (.Call (.Name "abs" _) (_ :: _) [] _) _; refine G.blt (id := "abs") (by rfl) T.b_abs Sy.bb_abs ?_)
  | (show Sy.DE _ _ _ _ (.Call (.Name "int" _) (_ :: _) [] _) _; refine G.bty (T := "int") (by rfl) T.b_int Sy.bb_int ?_)
  | (show Sy.DE _ _ _ _ (.Name "int" _) _; refine G.tyname (n := "int") (by rfl) T.b_int Sy.bb_int ?_))
local macro_rules | `(tactic| walk_at "pr") => `(tactic| fail)
/-- the box at b: c draws at most so far -/
def Bx (m : Sto) (b : Addr) (c : Nat) : Prop := ∃ (g : Int) (f : Bool) (x n : Int), m b = some (.lst [.int g, .bl f, .int x, .int n]) ∧ 0 ≤ x ∧ x < 2147483629 ∧ 0 ≤ n ∧ n ≤ (c : Int)
/-- all but b stands -/
def Sb (b : Addr) (m m' : Sto) : Prop := ∀ a, a ≠ b → m' a = m a
theorem Bx.mono {m : Sto} {b : Addr} {c c' : Nat} (h : Bx m b c) (hc : c ≤ c') : Bx m b c' := by
  obtain ⟨g, f, x, n, h1, h2, h3, h4, h5⟩ := h
  exact ⟨g, f, x, n, h1, h2, h3, h4, by omega⟩
theorem Sb.refl {m : Sto} {b : Addr} : Sb b m m := fun _ _ => rfl
theorem Sb.trans {m m1 m2 : Sto} {b : Addr} (h : Sb b m m1) (h' : Sb b m1 m2) : Sb b m m2 := fun a ha => (h' a ha).trans (h a ha)
theorem Sb.up {m : Sto} {b : Addr} {o : DO} : Sb b m (up m b o) := fun _ ha => up_ne ha
def F__law_box : FS := fun ds m Q => ∃ g : Int, ds = [.int g] ∧ ∀ p m', m p = none → Sb p m m' → Bx m' p 0 → Q (.loc p) m'
theorem fn__law_box (T : Txt K mg) : Fn P w K mg base 1 "_law_box" s__law_box ["great"] F__law_box := by
  obtain ⟨f, fd, Fu, hm, hb⟩ := T.d__law_box
  refine ⟨f, fd, Fu, hm, hb, fn_ok Fu sc__law_box (fun ds m Φ h => ?_) (fun X C G ds m Φ h => ?_)⟩
  · obtain ⟨a, rfl, _⟩ := h; rfl
  obtain ⟨g, rfl, q⟩ := h
  (conv in defBody _ => whnf)
  refine ds_cons (d1_ret (de_lstL ?_))
  walk_at "go"
  refine od_powI ⟨by decide, by decide, by decide⟩ ?_
  walk_at "go"
  intro p hp
  refine q p _ hp Sb.up ⟨_, _, _, _, up_same, ?_, ?_, by omega, by omega⟩
  · exact Int.emod_nonneg _ (by decide)
  · exact Int.emod_lt_of_pos _ (by decide)
end
section
local macro_rules | `(tactic| walk_at "nm") => `(tactic| first
  | (show Sy.DE _ _ _ _ (.Name "box" _) _; refine G.name (i := 0) rfl (by rfl) rfl ?_)
  | (show Sy.DE _ _ _ _ (.Name "many" _) _; refine G.name (i := 1) rfl (by rfl) rfl ?_)
  | (show Sy.DE _ _ _ _ (.Name "digit" _) _; refine G.name (i := 2) rfl (by rfl) rfl ?_)
  | (show Sy.DE _ _ _ _ (.Name "mixed" _) _; refine G.name (i := 3) rfl (by rfl) rfl ?_))
local macro_rules | `(tactic| walk_at "st") => `(tactic| first
  | (show Sy.D1 _ _ _ _ (.Assign [.Name "digit" _] _ _) _; refine G.set (i := 2) rfl (by rfl) ?_)
  | (show Sy.D1 _ _ _ _ (.Assign [.Name "mixed" _] _ _) _; refine G.set (i := 3) rfl (by rfl) ?_))
local macro_rules | `(tactic| walk_at "gn") => `(tactic| first
  | (show Sy.DG _ _ _ _ (.Name "digit" _) _ _ _; refine G.gname (i := 2) rfl (by rfl) (by first | trivial | decide) ?_)
  | (show Sy.DG _ _ _ _ (.Name "mixed" _) _ _ _; refine G.gname (i := 3) rfl (by rfl) (by first | trivial | decide) ?_))
local macro_rules | `(tactic| walk_at "cl") => `(tactic| fail)
local macro_rules | `(tactic| walk_at "bl") => `(tactic| first
  | (show Sy.DE _ _ _ _ (.Call (.Name "int" _) (_ :: _) [] _) _; refine G.bty (T := "int") (by rfl) T.b_int Sy.bb_int ?_)
  | (show Sy.DE _ _ _ _ (.Name "int" _) _; refine G.tyname (n := "int") (by rfl) T.b_int Sy.bb_int ?_))
local macro_rules | `(tactic| walk_at "pr") => `(tactic| fail)
def F__law_take : FS := fun ds m Q => ∃ (b : Addr) (n : Int) (c : Nat), ds = [.loc b, .int n] ∧ 0 < n ∧ Bd 70 n ∧ Bx m b c ∧ c < 2 ^ 38 ∧ ∀ i m', 0 ≤ i → i < n → Sb b m m' → Bx m' b (c + 1) → Q (.int i) m'
theorem fn__law_take (T : Txt K mg) : Fn P w K mg base 1 "_law_take" s__law_take ["box", "many"] F__law_take := by
  obtain ⟨f, fd, Fu, hm, hb⟩ := T.d__law_take
  refine ⟨f, fd, Fu, hm, hb, fn_ok Fu sc__law_take (fun ds m Φ h => ?_) (fun X C G ds m Φ h => ?_)⟩
  · obtain ⟨a, b, c, rfl, _⟩ := h; rfl
  obtain ⟨b, n, c, rfl, hn, hb, ⟨g, f, x, t, hB, x1, x2, t1, t2⟩, hc, q⟩ := h
  (conv in defBody _ => whnf)
  refine ds_cut (fun r' m' => r' = [some (.loc b), some (.int n), none, none] ∧ m' = m) ?_ ?_
  · walk_at "go"
    refine ix_p hB rfl ?_
    refine ⟨_, rfl, ?_⟩
    cases f with
    | false =>
      walk_at "go"
      exact ⟨rfl, rfl⟩
    | true =>
      refine ⟨fun _ => ?_, fun h => Bool.noConfusion h⟩
      walk_at "go"
      refine ix_p hB rfl ?_
      walk_at "go"
      walk_at "br"
      · walk_at "go"
        refine ix_p hB rfl ?_
        walk_at "go"
        refine ix_p hB rfl ?_
        walk_at "go"
        refine dg_setL ?_
        walk_at "go"
        refine ⟨_, _, _, 0, rfl, rfl, hB, rfl, ?_⟩
        walk_at "go"
        refine q _ _ (Int.emod_nonneg _ (by omega)) (Int.emod_lt_of_pos _ hn) Sb.up ⟨_, true, x, t, up_same, x1, x2, t1, by omega⟩
      · walk_at "go"
        exact ⟨rfl, rfl⟩
  · rintro _ _ ⟨rfl, rfl⟩
    refine ds_cons (d1_asg ?_)
    walk_at "go"
    refine ix_p hB rfl ?_
    walk_at "go"
    refine dg_setL ?_
    walk_at "go"
    refine ⟨_, _, _, 3, rfl, rfl, hB, rfl, ?_⟩
    rename_i m1
    have hB2 : up m1 b (.lst [.int g, .bl f, .int x, .int (t + 1)]) b = some (.lst [.int g, .bl f, .int x, .int (t + 1)]) := up_same
    show DS X C _ (up m1 b (.lst [.int g, .bl f, .int x, .int (t + 1)])) _ _
    generalize hM : up m1 b (.lst [.int g, .bl f, .int x, .int (t + 1)]) = m2 at hB2
    walk_at "go"
    refine ix_p hB2 rfl ?_
    walk_at "go"
    refine ix_p hB2 rfl ?_
    have hb1 : Bd 70 (t + 1) := Bd.of (by omega) (by omega)
    walk_at "go"
    refine od_powI ⟨by decide, by decide, by omega⟩ ?_
    walk_at "go"
    generalize hM2 : ((x + _ * (t + 1) + _) ^ (5 : Int).toNat : Int) = big
    have b1 : 0 ≤ big % 2147483647 := Int.emod_nonneg _ (by decide)
    have b2 : big % 2147483647 < 2147483647 := Int.emod_lt_of_pos _ (by decide)
    generalize big % 2147483647 = mx at b1 b2
    have b3 : Bd 70 mx := Bd.of (by omega) (by omega)
    walk_at "go"
    refine ix_p hB2 rfl ?_
    walk_at "go"
    refine od_powI ⟨by decide, by decide, by omega⟩ ?_
    walk_at "go"
    refine q _ _ (Int.emod_nonneg _ (by omega)) (Int.emod_lt_of_pos _ hn) (by rw [← hM]; exact Sb.up) ⟨g, f, x, t + 1, hB2, x1, x2, by omega, by omega⟩
theorem F__law_take.mk {b : Addr} {n : Int} {c : Nat} {m : Sto} {Q : D → Sto → Prop} (hn : 0 < n) (hb : Bd 70 n) (hB : Bx m b c) (hc : c < 2 ^ 38) (q : ∀ i m', 0 ≤ i → i < n → Sb b m m' → Bx m' b (c + 1) → Q (.int i) m') : F__law_take [.loc b, .int n] m Q := ⟨b, n, c, rfl, hn, hb, hB, hc, q⟩
theorem atI_of {xs : List D} {i : Int} (h0 : 0 ≤ i) (h : i < xs.length) : ∃ d, atI xs i = some d ∧ d ∈ xs := by
  have e : xs[i.toNat]? = some xs[i.toNat] := List.getElem?_eq_getElem (by omega)
  have := atI_nat e
  rw [show ((i.toNat : Nat) : Int) = i by omega] at this
  exact ⟨_, this, List.mem_of_getElem? e⟩
end
section
local macro_rules | `(tactic| walk_at "nm") => `(tactic| first
  | (show Sy.DE _ _ _ _ (.Name "box" _) _; refine G.name (i := 0) rfl (by rfl) rfl ?_)
  | (show Sy.DE _ _ _ _ (.Name "items" _) _; refine G.name (i := 1) rfl (by rfl) rfl ?_))
local macro_rules | `(tactic| walk_at "st") => `(tactic| fail)
local macro_rules | `(tactic| walk_at "gn") => `(tactic| fail)
local macro_rules | `(tactic| walk_at "cl") => `(tactic| first
  | (show Sy.DE _ _ _ _ (.Call (.Name "_law_take" _) (_ :: _) [] _) _; refine G.call (fn__law_take T) (by decide) (by rfl) ?_))
local macro_rules | `(tactic| walk_at "bl") => `(tactic| first
  | (show Sy.DE _ _ _ _ (.Call (.Name "len" _) (_ :: _) [] _) _; refine G.blt (id := "len") (by rfl) T.b_len Sy.bb_len ?_))
local macro_rules | `(tactic| walk_at "pr") => `(tactic| fail)
def F__law_pick : FS := fun ds m Q => ∃ (b : Addr) (xs : List D) (c : Nat), ds = [.loc b, .lst xs] ∧ 0 < xs.length ∧ xs.length ≤ 100000 ∧ Bx m b c ∧ c < 2 ^ 38 ∧ ∀ d m', d ∈ xs → Sb b m m' → Bx m' b (c + 1) → Q d m'
theorem fn__law_pick (T : Txt K mg) : Fn P w K mg base 2 "_law_pick" s__law_pick ["box", "items"] F__law_pick := by
  obtain ⟨f, fd, Fu, hm, hb⟩ := T.d__law_pick
  refine ⟨f, fd, Fu, hm, hb, fn_ok Fu sc__law_pick (fun ds m Φ h => ?_) (fun X C G ds m Φ h => ?_)⟩
  · obtain ⟨a, b, c, rfl, _⟩ := h; rfl
  obtain ⟨b, xs, c, rfl, hl, hl2, hB, hc, q⟩ := h
  walk_at "run"
  refine F__law_take.mk (by omega) (Bd.of (by omega) (by omega)) hB hc fun i m' h1 h2 hs hB' => ?_
  obtain ⟨d, h3, h4⟩ := atI_of h1 h2
  refine ix_l h3 ?_
  exact q d m' h4 hs hB'
theorem F__law_pick.mk {b : Addr} {xs : List D} {c : Nat} {m : Sto} {Q : D → Sto → Prop} (hl : 0 < xs.length) (hl2 : xs.length ≤ 100000) (hB : Bx m b c) (hc : c < 2 ^ 38) (q : ∀ d m', d ∈ xs → Sb b m m' → Bx m' b (c + 1) → Q d m') : F__law_pick [.loc b, .lst xs] m Q := ⟨b, xs, c, rfl, hl, hl2, hB, hc, q⟩
end
section
local macro_rules | `(tactic| walk_at "nm") => `(tactic| first
  | (show Sy.DE _ _ _ _ (.Name "told" _) _; refine G.name (i := 0) rfl (by rfl) rfl ?_)
  | (show Sy.DE _ _ _ _ (.Name "due" _) _; refine G.name (i := 1) rfl (by rfl) rfl ?_)
  | (show Sy.DE _ _ _ _ (.Name "k" _) _; refine G.name (i := 2) rfl (by rfl) rfl ?_))
local macro_rules | `(tactic| walk_at "st") => `(tactic| first
  | (show Sy.D1 _ _ _ _ (.Assign [.Name "k" _] _ _) _; refine G.set (i := 2) rfl (by rfl) ?_))
local macro_rules | `(tactic| walk_at "gn") => `(tactic| first
  | (show Sy.DG _ _ _ _ (.Name "k" _) _ _ _; refine G.gname (i := 2) rfl (by rfl) (by first | trivial | decide) ?_))
local macro_rules | `(tactic| walk_at "cl") => `(tactic| first
  | (show Sy.DE _ _ _ _ (.Call (.Name "_law_same" _) (_ :: _) [] _) _; refine G.call (fn__law_same T) (by decide) (by rfl) ?_))
local macro_rules | `(tactic| walk_at "bl") => `(tactic| first
  | (show Sy.DE _ _ _ _ (.Call (.Name "isinstance" _) [_, .Tuple _ _ _] [] _) _; refine G.isi2 (t1 := "list") (t2 := "tuple") rfl (by rfl) T.b_isinstance (by rfl) T.b_list Sy.bb_list (by rfl) T.b_tuple Sy.bb_tuple ?_)
  | (show Sy.DE _ _ _ _ (.Call (.Name "isinstance" _) (_ :: _) [] _) _; refine G.blt (id := "isinstance") (by rfl) T.b_isinstance Sy.bb_isinstance ?_)
  | (show Sy.DE _ _ _ _ (.Call (.Name "len" _) (_ :: _) [] _) _; refine G.blt (id := "len") (by rfl) T.b_len Sy.bb_len ?_)
  | (show Sy.DE _ _ _ _ (.Call (.Name "int" _) (_ :: _) [] _) _; refine G.bty (T := "int") (by rfl) T.b_int Sy.bb_int ?_)
  | (show Sy.DE _ _ _ _ (.Name "bool" _) _; refine G.tyname (n := "bool") (by rfl) T.b_bool Sy.bb_bool ?_)
  | (show Sy.DE _ _ _ _ (.Name "int" _) _; refine G.tyname (n := "int") (by rfl) T.b_int Sy.bb_int ?_)
  | (show Sy.DE _ _ _ _ (.Name "list" _) _; refine G.tyname (n := "list") (by rfl) T.b_list Sy.bb_list ?_)
  | (show Sy.DE _ _ _ _ (.Name "str" _) _; refine G.tyname (n := "str") (by rfl) T.b_str Sy.bb_str ?_)
  | (show Sy.DE _ _ _ _ (.Name "tuple" _) _; refine G.tyname (n := "tuple") (by rfl) T.b_tuple Sy.bb_tuple ?_))
local macro_rules | `(tactic| walk_at "pr") => `(tactic| fail)
def plB : Nat → D → Bool
  | _, .non => true
  | _, .int _ => true
  | n + 1, .tup xs => xs.all (plB n) && decide (xs.length ≤ 100000)
  | n + 1, .lst xs => xs.all (plB n) && decide (xs.length ≤ 100000)
  | _, _ => false
def F_same (n : Nat) : FS := fun ds m Q => ∃ d, ds = [d, d] ∧ plB n d = true ∧ Q (.bl true) m
theorem fm_none {α β : Type} (xs : List α) : xs.filterMap (fun _ => (none : Option β)) = [] := by
  induction xs with
  | nil => rfl
  | cons x xs ih => simp [ih]
theorem fn_same (T : Txt K mg) : ∀ n : Nat, Fn P w K mg base (n + 1) "_law_same" s__law_same ["told", "due"] (F_same n) := by
  intro n
  induction n with
  | zero =>
    obtain ⟨f, fd, Fu, hm, hb⟩ := T.d__law_same
    refine ⟨f, fd, Fu, hm, hb, fn_ok Fu sc__law_same (fun ds m Φ h => ?_) (fun X C G ds m Φ h => ?_)⟩
    · obtain ⟨a, rfl, _⟩ := h; rfl
    obtain ⟨d, rfl, hp, q⟩ := h
    cases d with
    | non =>
      walk_at "run"
      exact q
    | int i =>
      walk_at "run"
      rw [show decide (i - i = 0) = true by simp]
      exact q
    | _ => exact absurd (show false = true from hp) (by decide)
  | succ n ih =>
    obtain ⟨f, fd, Fu, hm, hb⟩ := T.d__law_same
    refine ⟨f, fd, Fu, hm, hb, fn_ok Fu sc__law_same (fun ds m Φ h => ?_) (fun X C G ds m Φ h => ?_)⟩
    · obtain ⟨a, rfl, _⟩ := h; rfl
    obtain ⟨d, rfl, hp, q⟩ := h
    cases d with
    | non =>
      walk_at "run"
      exact q
    | int i =>
      walk_at "run"
      rw [show decide (i - i = 0) = true by simp]
      exact q
    | tup xs =>
      have hp : (xs.all (plB n) && decide (xs.length ≤ 100000)) = true := hp
      simp only [Bool.and_eq_true, List.all_eq_true, decide_eq_true_eq] at hp
      obtain ⟨hp, hl⟩ := hp
      walk_at "run"
      refine G.map [("k", 2)] (by decide +kernel) ?_
      refine G.rng1 rfl (by rfl) T.b_range ?_
      walk_at "go"
      refine ⟨xs.length, rfl, by omega, by omega, by rw [rngD_length]; exact small_line (by omega), fun _ _ => trivial, fun _ => none, fun d hd m' ha => ?_, ?_⟩
      · obtain ⟨i, hi, rfl⟩ := mem_rng hd
        have hi : i < xs.length := by omega
        have e : xs[i]? = some xs[i] := List.getElem?_eq_getElem hi
        have e2 : atI xs (0 + (i : Int)) = some xs[i] := by rw [Int.zero_add]; exact atI_nat e
        refine G.pturn1 rfl ?_
        intro X1 G
        walk_at "go"
        intro X2 G
        walk_at "go"
        refine G.call ih (Nat.le_refl _) (by rfl) ?_
        walk_at "go"
        refine ix_t e2 ?_
        walk_at "go"
        refine ix_t e2 ?_
        walk_at "go"
        refine ⟨_, rfl, hp _ (List.mem_of_getElem? e), ?_⟩
        walk_at "go"
        exact ⟨rfl, rfl⟩
      · rw [fm_none]
        walk_at "go"
        refine od_eqP G.room.units (y1 := .list []) (y2 := .list []) rfl rfl (by decide) (by decide) ?_
        exact q
    | lst xs =>
      have hp : (xs.all (plB n) && decide (xs.length ≤ 100000)) = true := hp
      simp only [Bool.and_eq_true, List.all_eq_true, decide_eq_true_eq] at hp
      obtain ⟨hp, hl⟩ := hp
      walk_at "run"
      refine G.map [("k", 2)] (by decide +kernel) ?_
      refine G.rng1 rfl (by rfl) T.b_range ?_
      walk_at "go"
      refine ⟨xs.length, rfl, by omega, by omega, by rw [rngD_length]; exact small_line (by omega), fun _ _ => trivial, fun _ => none, fun d hd m' ha => ?_, ?_⟩
      · obtain ⟨i, hi, rfl⟩ := mem_rng hd
        have hi : i < xs.length := by omega
        have e : xs[i]? = some xs[i] := List.getElem?_eq_getElem hi
        have e2 : atI xs (0 + (i : Int)) = some xs[i] := by rw [Int.zero_add]; exact atI_nat e
        refine G.pturn1 rfl ?_
        intro X1 G
        walk_at "go"
        intro X2 G
        walk_at "go"
        refine G.call ih (Nat.le_refl _) (by rfl) ?_
        walk_at "go"
        refine ix_l e2 ?_
        walk_at "go"
        refine ix_l e2 ?_
        walk_at "go"
        refine ⟨_, rfl, hp _ (List.mem_of_getElem? e), ?_⟩
        walk_at "go"
        exact ⟨rfl, rfl⟩
      · rw [fm_none]
        walk_at "go"
        refine od_eqP G.room.units (y1 := .list []) (y2 := .list []) rfl rfl (by decide) (by decide) ?_
        exact q
    | _ => exact absurd (show false = true from hp) (by decide)
theorem fn__law_same (T : Txt K mg) : Fn P w K mg base 4 "_law_same" s__law_same ["told", "due"] (F_same 3) := fn_same T 3
theorem F_same.mk {n : Nat} {d : D} {m : Sto} {Q : D → Sto → Prop} (h : plB n d = true) (q : Q (.bl true) m) : F_same n [d, d] m Q := ⟨d, rfl, h, q⟩
theorem eu_step {x y B : Nat} {i : Nat} (hyx : y < x) (hy : 0 < y) (h : 2 ^ i * (x * y) < B) : 2 ^ (i + 1) * (y * (x % y)) < B := by
  have h1 : 2 * (x % y) ≤ x := by
    have := Nat.mod_add_div x y
    have h2 := Nat.mod_lt x hy
    have h3 : 1 ≤ x / y := Nat.div_pos (by omega) hy
    have h4 : y * 1 ≤ y * (x / y) := Nat.mul_le_mul_left _ h3
    omega
  have h2 : y * (2 * (x % y)) ≤ y * x := Nat.mul_le_mul_left _ h1
  have h3 : 2 ^ (i + 1) * (y * (x % y)) = 2 ^ i * (y * (2 * (x % y))) := by
    rw [Nat.pow_succ, Nat.mul_assoc, Nat.mul_left_comm 2 y]
  have h4 : 2 ^ i * (y * (2 * (x % y))) ≤ 2 ^ i * (y * x) := Nat.mul_le_mul_left _ h2
  rw [Nat.mul_comm y x] at h4
  omega
theorem eu_gcd {x y : Nat} : Nat.gcd y (x % y) = Nat.gcd x y := by
  rw [Nat.gcd_comm, ← Nat.gcd_rec, Nat.gcd_comm]
end
section
local macro_rules | `(tactic| walk_at "nm") => `(tactic| first
  | (show Sy.DE _ _ _ _ (.Name "a" _) _; refine G.name (i := 0) rfl (by rfl) rfl ?_)
  | (show Sy.DE _ _ _ _ (.Name "b" _) _; refine G.name (i := 1) rfl (by rfl) rfl ?_))
local macro_rules | `(tactic| walk_at "st") => `(tactic| first
  | (show Sy.D1 _ _ _ _ (.Assign [.Name "a" _] _ _) _; refine G.set (i := 0) rfl (by rfl) ?_)
  | (show Sy.D1 _ _ _ _ (.Assign [.Name "b" _] _ _) _; refine G.set (i := 1) rfl (by rfl) ?_)
  | (show Sy.D1 _ _ _ _ (.Assign [.Name "turn" _] _ _) _; refine G.set (i := 2) rfl (by rfl) ?_))
local macro_rules | `(tactic| walk_at "gn") => `(tactic| first
  | (show Sy.DG _ _ _ _ (.Name "a" _) _ _ _; refine G.gname (i := 0) rfl (by rfl) (by first | trivial | decide) ?_)
  | (show Sy.DG _ _ _ _ (.Name "b" _) _ _ _; refine G.gname (i := 1) rfl (by rfl) (by first | trivial | decide) ?_)
  | (show Sy.DG _ _ _ _ (.Name "turn" _) _ _ _; refine G.gname (i := 2) rfl (by rfl) (by first | trivial | decide) ?_))
local macro_rules | `(tactic| walk_at "cl") => `(tactic| fail)
local macro_rules | `(tactic| walk_at "bl") => `(tactic| first
  | (show Sy.DE _ _ _ _ (.Call (.Name "abs" _) (_ :: _) [] _) _; refine G.blt (id := "abs") (by rfl) T.b_abs Sy.bb_abs ?_)
  | (show Sy.DE _ _ _ _ (.Call (.Name "int" _) (_ :: _) [] _) _; refine G.bty (T := "int") (by rfl) T.b_int Sy.bb_int ?_)
  | (show Sy.DE _ _ _ _ (.Name "int" _) _; refine G.tyname (n := "int") (by rfl) T.b_int Sy.bb_int ?_))
local macro_rules | `(tactic| walk_at "pr") => `(tactic| first
  | (show Sy.D1 _ _ _ _ (.Assign [.Tuple [.Name "a" _, .Name "b" _] _ _] (.Tuple [_, _] _ _) _) _; refine G.par (i := 0) (j := 1) rfl rfl (by decide) (by rfl) (by rfl) ?_ (fun env he => by cases env; cases he; rfl)))
def EuI (a b : Int) (i : Nat) (x y : Nat) : Prop := Nat.gcd x y = Nat.gcd a.natAbs b.natAbs ∧ (i = 0 ∧ x = a.natAbs ∧ y = b.natAbs ∨ ∃ j, i = j + 1 ∧ y < x ∧ 2 ^ j * (x * y) < 2 ^ 380)
theorem eu_next {a b : Int} {i x y : Nat} (hb : Bd 190 b) (hy : 0 < y) (h : EuI a b i x y) : EuI a b (i + 1) y (x % y) := by
  obtain ⟨h1, h2⟩ := h
  refine ⟨by rw [eu_gcd, h1], .inr ⟨i, rfl, Nat.mod_lt _ hy, ?_⟩⟩
  rcases h2 with ⟨rfl, rfl, rfl⟩ | ⟨j, rfl, h3, h4⟩
  · have h5 := hb.lt
    have h6 := Nat.mod_lt a.natAbs hy
    have h7 : b.natAbs * (a.natAbs % b.natAbs) < 2 ^ 190 * 2 ^ 190 := Nat.mul_lt_mul'' h5 (by omega)
    rw [Nat.pow_zero, Nat.one_mul]
    exact h7
  · exact eu_step h3 hy h4
theorem eu_end {a b : Int} {x y : Nat} (h : EuI a b 400 x y) : x = Nat.gcd a.natAbs b.natAbs := by
  obtain ⟨h1, h2⟩ := h
  rcases h2 with ⟨h2, _⟩ | ⟨j, h2, h3, h4⟩
  · exact absurd h2 (by decide)
  · have : j = 399 := by omega
    subst this
    have hy : y = 0 := by
      rcases Nat.eq_zero_or_pos y with h | h
      · exact h
      · exfalso
        have h5 : 1 ≤ x * y := Nat.mul_pos (by omega) h
        have h6 : 2 ^ 399 * 1 ≤ 2 ^ 399 * (x * y) := Nat.mul_le_mul_left _ h5
        omega
    rw [← h1, hy, Nat.gcd_zero_right]
def F__law_divisor : FS := fun ds m Q => ∃ a b : Int, ds = [.int a, .int b] ∧ Bd 190 b ∧ Q (.int ((Nat.gcd a.natAbs b.natAbs : Nat) : Int)) m
theorem fn__law_divisor (T : Txt K mg) : Fn P w K mg base 1 "_law_divisor" s__law_divisor ["a", "b"] F__law_divisor := by
  obtain ⟨f, fd, Fu, hm, hb⟩ := T.d__law_divisor
  refine ⟨f, fd, Fu, hm, hb, fn_ok Fu sc__law_divisor (fun ds m Φ h => ?_) (fun X C G ds m Φ h => ?_)⟩
  · obtain ⟨a, b, rfl, _⟩ := h; rfl
  obtain ⟨a, b, rfl, hn, q⟩ := h
  walk_at "run"
  refine G.for_ ?_
  refine G.rng1 rfl (by rfl) T.b_range ?_
  walk_at "go"
  refine ⟨400, rfl, by decide, by decide, fun i r' m' => m' = m ∧ ∃ (x y : Nat) (t : Option D), r' = [some (.int x), some (.int y), t] ∧ EuI a b i x y, ⟨rfl, a.natAbs, b.natAbs, none, ?_, rfl, .inl ⟨rfl, rfl, rfl⟩⟩, fun _ _ _ _ => trivial, ?_, ?_⟩
  · rw [show (if a < 0 then -a else a) = ((a.natAbs : Nat) : Int) by split <;> omega, show (if b < 0 then -b else b) = ((b.natAbs : Nat) : Int) by split <;> omega]
    rfl
  · rintro i d r' m' hd ⟨rfl, x, y, t, rfl, hE⟩
    walk_at "go"
    walk_at "br"
    · walk_at "go"
      have hy : y = 0 := by omega
      have e := hE.1
      rw [hy, Nat.gcd_zero_right] at e
      rw [e]
      exact q
    · walk_at "go"
      refine ⟨rfl, y, x % y, _, rfl, eu_next hn (by omega) hE⟩
  · rintro r' m' ⟨rfl, x, y, t, rfl, hE⟩
    rw [rngD_length] at hE
    walk_at "go"
    rw [eu_end hE]
    exact q
end
local macro_rules | `(tactic| walk_at "mk") => `(tactic| (show F__law_divisor _ _ _; refine ⟨_, _, rfl, by assumption, ?_⟩))
section
local macro_rules | `(tactic| walk_at "nm") => `(tactic| first
  | (show Sy.DE _ _ _ _ (.Name "top" _) _; refine G.name (i := 0) rfl (by rfl) rfl ?_)
  | (show Sy.DE _ _ _ _ (.Name "bottom" _) _; refine G.name (i := 1) rfl (by rfl) rfl ?_)
  | (show Sy.DE _ _ _ _ (.Name "by" _) _; refine G.name (i := 2) rfl (by rfl) rfl ?_))
local macro_rules | `(tactic| walk_at "st") => `(tactic| first
  | (show Sy.D1 _ _ _ _ (.Assign [.Name "by" _] _ _) _; refine G.set (i := 2) rfl (by rfl) ?_))
local macro_rules | `(tactic| walk_at "gn") => `(tactic| first
  | (show Sy.DG _ _ _ _ (.Name "by" _) _ _ _; refine G.gname (i := 2) rfl (by rfl) (by first | trivial | decide) ?_))
local macro_rules | `(tactic| walk_at "cl") => `(tactic| first
  | (show Sy.DE _ _ _ _ (.Call (.Name "_law_divisor" _) (_ :: _) [] _) _; refine G.call (fn__law_divisor T) (by decide) (by rfl) ?_))
local macro_rules | `(tactic| walk_at "bl") => `(tactic| fail)
local macro_rules | `(tactic| walk_at "pr") => `(tactic| fail)
def F__law_fraction : FS := fun ds m Q => ∃ a b : Int, ds = [.int a, .int b] ∧ 0 < b ∧ Bd 190 b ∧ Q (fD (lw a b)) m
theorem fn__law_fraction (T : Txt K mg) : Fn P w K mg base 2 "_law_fraction" s__law_fraction ["top", "bottom"] F__law_fraction := by
  obtain ⟨f, fd, Fu, hm, hb⟩ := T.d__law_fraction
  refine ⟨f, fd, Fu, hm, hb, fn_ok Fu sc__law_fraction (fun ds m Φ h => ?_) (fun X C G ds m Φ h => ?_)⟩
  · obtain ⟨a, b, rfl, _⟩ := h; rfl
  obtain ⟨a, b, rfl, h0, hn, q⟩ := h
  have hc : ∀ x, CDivW x ((Nat.gcd a.natAbs b.natAbs : Nat) : Int) := fun x => cdiv_of (gcd_pos' h0) (Bd.gcd h0 hn) (by decide)
  walk_at "run"
  refine od_fdivI (hc _) ?_
  walk_at "go"
  refine od_fdivI (hc _) ?_
  walk_at "go"
  exact q
theorem F__law_fraction.mk {a b : Int} {m : Sto} {Q : D → Sto → Prop} (h0 : 0 < b) (hn : Bd 190 b) (q : Q (fD (lw a b)) m) : F__law_fraction [.int a, .int b] m Q := ⟨a, b, rfl, h0, hn, q⟩
end
section
local macro_rules | `(tactic| walk_at "nm") => `(tactic| first
  | (show Sy.DE _ _ _ _ (.Name "one" _) _; refine G.name (i := 0) rfl (by rfl) rfl ?_)
  | (show Sy.DE _ _ _ _ (.Name "other" _) _; refine G.name (i := 1) rfl (by rfl) rfl ?_))
local macro_rules | `(tactic| walk_at "st") => `(tactic| fail)
local macro_rules | `(tactic| walk_at "gn") => `(tactic| fail)
local macro_rules | `(tactic| walk_at "cl") => `(tactic| fail)
local macro_rules | `(tactic| walk_at "bl") => `(tactic| fail)
local macro_rules | `(tactic| walk_at "pr") => `(tactic| fail)
def F__law_less : FS := fun ds m Q => ∃ p q : Int × Int, ds = [fD p, fD q] ∧ CMulW p.1 q.2 ∧ CMulW q.1 p.2 ∧ Q (.bl (decide (p.1 * q.2 < q.1 * p.2))) m
theorem fn__law_less (T : Txt K mg) : Fn P w K mg base 1 "_law_less" s__law_less ["one", "other"] F__law_less := by
  obtain ⟨f, fd, Fu, hm, hb⟩ := T.d__law_less
  refine ⟨f, fd, Fu, hm, hb, fn_ok Fu sc__law_less (fun ds m Φ h => ?_) (fun X C G ds m Φ h => ?_)⟩
  · obtain ⟨a, b, rfl, _⟩ := h; rfl
  obtain ⟨a, b, rfl, h1, h2, q⟩ := h
  walk_at "run"
  exact q
theorem F__law_less.mk {p q : Int × Int} {m : Sto} {Q : D → Sto → Prop} (h1 : CMulW p.1 q.2) (h2 : CMulW q.1 p.2) (k : Q (.bl (decide (p.1 * q.2 < q.1 * p.2))) m) : F__law_less [fD p, fD q] m Q := ⟨p, q, rfl, h1, h2, k⟩
end
section
local macro_rules | `(tactic| walk_at "nm") => `(tactic| first
  | (show Sy.DE _ _ _ _ (.Name "one" _) _; refine G.name (i := 0) rfl (by rfl) rfl ?_)
  | (show Sy.DE _ _ _ _ (.Name "number" _) _; refine G.name (i := 1) rfl (by rfl) rfl ?_))
local macro_rules | `(tactic| walk_at "st") => `(tactic| fail)
local macro_rules | `(tactic| walk_at "gn") => `(tactic| fail)
local macro_rules | `(tactic| walk_at "cl") => `(tactic| first
  | (show Sy.DE _ _ _ _ (.Call (.Name "_law_fraction" _) (_ :: _) [] _) _; refine G.call (fn__law_fraction T) (by decide) (by rfl) ?_))
local macro_rules | `(tactic| walk_at "bl") => `(tactic| fail)
local macro_rules | `(tactic| walk_at "pr") => `(tactic| fail)
def F__law_times : FS := fun ds m Q => ∃ (p : Int × Int) (n : Int), ds = [fD p, .int n] ∧ 0 < p.2 ∧ Bd 190 p.2 ∧ Bd 1000 p.1 ∧ Bd 1000 n ∧ Q (fD (lw (p.1 * n) p.2)) m
theorem fn__law_times (T : Txt K mg) : Fn P w K mg base 3 "_law_times" s__law_times ["one", "number"] F__law_times := by
  obtain ⟨f, fd, Fu, hm, hb⟩ := T.d__law_times
  refine ⟨f, fd, Fu, hm, hb, fn_ok Fu sc__law_times (fun ds m Φ h => ?_) (fun X C G ds m Φ h => ?_)⟩
  · obtain ⟨a, b, rfl, _⟩ := h; rfl
  obtain ⟨⟨a, b⟩, n, rfl, h0, hn, h1, h2, q⟩ := h
  walk_at "run"
  exact ⟨h0, hn, q⟩
theorem F__law_times.mk {p : Int × Int} {n : Int} {m : Sto} {Q : D → Sto → Prop} (h0 : 0 < p.2) (hn : Bd 190 p.2) (h1 : Bd 1000 p.1) (h2 : Bd 1000 n) (q : Q (fD (lw (p.1 * n) p.2)) m) : F__law_times [fD p, .int n] m Q := ⟨p, n, rfl, h0, hn, h1, h2, q⟩
end
section
local macro_rules | `(tactic| walk_at "nm") => `(tactic| first
  | (show Sy.DE _ _ _ _ (.Name "k" _) _; refine G.name (i := 0) rfl (by rfl) rfl ?_)
  | (show Sy.DE _ _ _ _ (.Name "found" _) _; refine G.name (i := 1) rfl (by rfl) rfl ?_)
  | (show Sy.DE _ _ _ _ (.Name "left" _) _; refine G.name (i := 2) rfl (by rfl) rfl ?_))
local macro_rules | `(tactic| walk_at "st") => `(tactic| first
  | (show Sy.D1 _ _ _ _ (.Assign [.Name "found" _] _ _) _; refine G.set (i := 1) rfl (by rfl) ?_)
  | (show Sy.D1 _ _ _ _ (.Assign [.Name "left" _] _ _) _; refine G.set (i := 2) rfl (by rfl) ?_)
  | (show Sy.D1 _ _ _ _ (.Assign [.Name "turn" _] _ _) _; refine G.set (i := 3) rfl (by rfl) ?_))
local macro_rules | `(tactic| walk_at "gn") => `(tactic| first
  | (show Sy.DG _ _ _ _ (.Name "found" _) _ _ _; refine G.gname (i := 1) rfl (by rfl) (by first | trivial | decide) ?_)
  | (show Sy.DG _ _ _ _ (.Name "left" _) _ _ _; refine G.gname (i := 2) rfl (by rfl) (by first | trivial | decide) ?_)
  | (show Sy.DG _ _ _ _ (.Name "turn" _) _ _ _; refine G.gname (i := 3) rfl (by rfl) (by first | trivial | decide) ?_))
local macro_rules | `(tactic| walk_at "cl") => `(tactic| fail)
local macro_rules | `(tactic| walk_at "bl") => `(tactic| first
  | (show Sy.DE _ _ _ _ (.Call (.Name "int" _) (_ :: _) [] _) _; refine G.bty (T := "int") (by rfl) T.b_int Sy.bb_int ?_)
  | (show Sy.DE _ _ _ _ (.Name "int" _) _; refine G.tyname (n := "int") (by rfl) T.b_int Sy.bb_int ?_))
local macro_rules | `(tactic| walk_at "pr") => `(tactic| first
  | (show Sy.D1 _ _ _ _ (.Assign [.Tuple [.Name "found" _, .Name "left" _] _ _] (.Tuple [_, _] _ _) _) _; refine G.par (i := 1) (j := 2) rfl rfl (by decide) (by rfl) (by rfl) ?_ (fun env he => by cases env; cases he; rfl)))
def F__law_halved : FS := fun ds m Q => ∃ k : Int, ds = [.int k] ∧ 1 ≤ k ∧ k < 2 ^ 70 ∧ Q (.int (rlI k)) m
theorem fn__law_halved (T : Txt K mg) : Fn P w K mg base 1 "_law_halved" s__law_halved ["k"] F__law_halved := by
  obtain ⟨f, fd, Fu, hm, hb⟩ := T.d__law_halved
  refine ⟨f, fd, Fu, hm, hb, fn_ok Fu sc__law_halved (fun ds m Φ h => ?_) (fun X C G ds m Φ h => ?_)⟩
  · obtain ⟨a, rfl, _⟩ := h; rfl
  obtain ⟨k, rfl, h1, h2, q⟩ := h
  walk_at "run"
  refine G.for_ ?_
  refine G.rng1 rfl (by rfl) T.b_range ?_
  walk_at "go"
  refine ⟨70, rfl, by decide, by decide, fun i r' m' => m' = m ∧ ∃ (f l : Int) (t : Option D), r' = [some (.int k), some (.int f), some (.int l), t] ∧ HvI k i f l, ⟨rfl, _, _, _, rfl, hv_start h1⟩, fun _ _ _ _ => trivial, ?_, ?_⟩
  · rintro i d r' m' hd ⟨rfl, f, l, t, rfl, hE⟩
    have hi : i < 70 := by
      have := (List.getElem?_eq_some_iff.mp hd).1
      rw [rngD_length] at this
      exact this
    have hf : Bd 71 f := Bd.of (by have := hE.1; omega) (by
      have h3 := hE.2.2.1
      have h4 : (2 : Int) ^ i ≤ 2 ^ 70 := by exact_mod_cast Nat.pow_le_pow_right (by decide : 0 < 2) (by omega : i ≤ 70)
      omega)
    walk_at "go"
    walk_at "br"
    · walk_at "go"
      exact ⟨rfl, _, _, _, rfl, hv_even hE h⟩
    · walk_at "go"
      exact ⟨rfl, _, _, _, rfl, hv_odd hE h⟩
  · rintro r' m' ⟨rfl, f, l, t, rfl, hE⟩
    rw [rngD_length] at hE
    walk_at "go"
    rw [hv_end hE h2]
    exact q
theorem F__law_halved.mk {k : Int} {m : Sto} {Q : D → Sto → Prop} (h1 : 1 ≤ k) (h2 : k < 2 ^ 70) (q : Q (.int (rlI k)) m) : F__law_halved [.int k] m Q := ⟨k, rfl, h1, h2, q⟩
end
section
local macro_rules | `(tactic| walk_at "nm") => `(tactic| first
  | (show Sy.DE _ _ _ _ (.Name "turns" _) _; refine G.name (i := 0) rfl (by rfl) rfl ?_)
  | (show Sy.DE _ _ _ _ (.Name "found" _) _; refine G.name (i := 1) rfl (by rfl) rfl ?_))
local macro_rules | `(tactic| walk_at "st") => `(tactic| first
  | (show Sy.D1 _ _ _ _ (.Assign [.Name "found" _] _ _) _; refine G.set (i := 1) rfl (by rfl) ?_)
  | (show Sy.D1 _ _ _ _ (.Assign [.Name "turn" _] _ _) _; refine G.set (i := 2) rfl (by rfl) ?_))
local macro_rules | `(tactic| walk_at "gn") => `(tactic| first
  | (show Sy.DG _ _ _ _ (.Name "found" _) _ _ _; refine G.gname (i := 1) rfl (by rfl) (by first | trivial | decide) ?_)
  | (show Sy.DG _ _ _ _ (.Name "turn" _) _ _ _; refine G.gname (i := 2) rfl (by rfl) (by first | trivial | decide) ?_))
local macro_rules | `(tactic| walk_at "cl") => `(tactic| fail)
local macro_rules | `(tactic| walk_at "bl") => `(tactic| fail)
local macro_rules | `(tactic| walk_at "pr") => `(tactic| fail)
def F__law_two : FS := fun ds m Q => ∃ t : Nat, ds = [.int t] ∧ t ≤ 100 ∧ Q (.int (2 ^ t)) m
theorem bd_pow {t n : Nat} (h : t < n) : Bd n (2 ^ t : Int) := ⟨by
  rw [Int.natAbs_pow]
  exact Nat.pow_lt_pow_right (by decide) h⟩
theorem fn__law_two (T : Txt K mg) : Fn P w K mg base 1 "_law_two" s__law_two ["turns"] F__law_two := by
  obtain ⟨f, fd, Fu, hm, hb⟩ := T.d__law_two
  refine ⟨f, fd, Fu, hm, hb, fn_ok Fu sc__law_two (fun ds m Φ h => ?_) (fun X C G ds m Φ h => ?_)⟩
  · obtain ⟨a, rfl, _⟩ := h; rfl
  obtain ⟨t, rfl, h1, q⟩ := h
  walk_at "run"
  refine G.for_ ?_
  refine G.rng1 rfl (by rfl) T.b_range ?_
  walk_at "go"
  refine ⟨t, rfl, by omega, by omega, fun i r' m' => m' = m ∧ ∃ u : Option D, r' = [some (.int t), some (.int (2 ^ i)), u], ⟨rfl, _, rfl⟩, fun _ _ _ _ => trivial, ?_, ?_⟩
  · rintro i d r' m' hd ⟨rfl, u, rfl⟩
    have hi : i < t := by
      have := (List.getElem?_eq_some_iff.mp hd).1
      rw [rngD_length] at this
      exact this
    have hf : Bd 101 (2 ^ i : Int) := bd_pow (by omega)
    walk_at "go"
    exact ⟨rfl, _, by rw [Int.pow_succ, Int.mul_comm]; rfl⟩
  · rintro r' m' ⟨rfl, u, rfl⟩
    rw [rngD_length]
    walk_at "go"
    exact q
theorem F__law_two.mk {i : Int} {m : Sto} {Q : D → Sto → Prop} (h0 : 0 ≤ i) (h1 : i ≤ 100) (q : Q (.int (2 ^ i.toNat)) m) : F__law_two [.int i] m Q := ⟨i.toNat, by rw [show ((i.toNat : Nat) : Int) = i by omega], by omega, q⟩
end
section
local macro_rules | `(tactic| walk_at "nm") => `(tactic| first
  | (show Sy.DE _ _ _ _ (.Name "box" _) _; refine G.name (i := 0) rfl (by rfl) rfl ?_)
  | (show Sy.DE _ _ _ _ (.Name "way" _) _; refine G.name (i := 1) rfl (by rfl) rfl ?_)
  | (show Sy.DE _ _ _ _ (.Name "power" _) _; refine G.name (i := 2) rfl (by rfl) rfl ?_)
  | (show Sy.DE _ _ _ _ (.Name "top" _) _; refine G.name (i := 3) rfl (by rfl) rfl ?_))
local macro_rules | `(tactic| walk_at "st") => `(tactic| first
  | (show Sy.D1 _ _ _ _ (.Assign [.Name "way" _] _ _) _; refine G.set (i := 1) rfl (by rfl) ?_)
  | (show Sy.D1 _ _ _ _ (.Assign [.Name "power" _] _ _) _; refine G.set (i := 2) rfl (by rfl) ?_)
  | (show Sy.D1 _ _ _ _ (.Assign [.Name "top" _] _ _) _; refine G.set (i := 3) rfl (by rfl) ?_))
local macro_rules | `(tactic| walk_at "gn") => `(tactic| first
  | (show Sy.DG _ _ _ _ (.Name "way" _) _ _ _; refine G.gname (i := 1) rfl (by rfl) (by first | trivial | decide) ?_)
  | (show Sy.DG _ _ _ _ (.Name "power" _) _ _ _; refine G.gname (i := 2) rfl (by rfl) (by first | trivial | decide) ?_)
  | (show Sy.DG _ _ _ _ (.Name "top" _) _ _ _; refine G.gname (i := 3) rfl (by rfl) (by first | trivial | decide) ?_))
local macro_rules | `(tactic| walk_at "cl") => `(tactic| first
  | (show Sy.DE _ _ _ _ (.Call (.Name "_law_take" _) (_ :: _) [] _) _; refine G.call (fn__law_take T) (by decide) (by rfl) ?_)
  | (show Sy.DE _ _ _ _ (.Call (.Name "_law_two" _) (_ :: _) [] _) _; refine G.call (fn__law_two T) (by decide) (by rfl) ?_))
local macro_rules | `(tactic| walk_at "bl") => `(tactic| first
  | (show Sy.DE _ _ _ _ (.Call (.Name "int" _) (_ :: _) [] _) _; refine G.bty (T := "int") (by rfl) T.b_int Sy.bb_int ?_)
  | (show Sy.DE _ _ _ _ (.Call (.Name "min" _) (_ :: _) [] _) _; refine G.blt (id := "min") (by rfl) T.b_min Sy.bb_min ?_)
  | (show Sy.DE _ _ _ _ (.Call (.Name "max" _) (_ :: _) [] _) _; refine G.blt (id := "max") (by rfl) T.b_max Sy.bb_max ?_)
  | (show Sy.DE _ _ _ _ (.Name "int" _) _; refine G.tyname (n := "int") (by rfl) T.b_int Sy.bb_int ?_))
local macro_rules | `(tactic| walk_at "pr") => `(tactic| first
  | (show Sy.D1 _ _ _ _ (.Assign [.Tuple [.Name "way" _, .Name "power" _] _ _] (.Tuple [_, _] _ _) _) _; refine G.par (i := 1) (j := 2) rfl rfl (by decide) (by rfl) (by rfl) ?_ (fun env he => by cases env; cases he; rfl)))
/-- a number of the law -/
def F__law_number : FS := fun ds m Q => ∃ (b : Addr) (c : Nat), ds = [.loc b] ∧ Bx m b c ∧ c < 2 ^ 38 - 10 ∧ ∀ i m', 1 ≤ i → i < 10 ^ 20 → Sb b m m' → Bx m' b (c + 4) → Q (.int i) m'
theorem fn__law_number (T : Txt K mg) : Fn P w K mg base 2 "_law_number" s__law_number ["box"] F__law_number := by
  obtain ⟨f, fd, Fu, hm, hb⟩ := T.d__law_number
  refine ⟨f, fd, Fu, hm, hb, fn_ok Fu sc__law_number (fun ds m Φ h => ?_) (fun X C G ds m Φ h => ?_)⟩
  · obtain ⟨a, b, rfl, _⟩ := h; rfl
  obtain ⟨b, c, rfl, hB, hc, q⟩ := h
  walk_at "run"
  refine F__law_take.mk (by omega) (Bd.of (by omega) (by omega)) hB (by omega) fun way m1 w1 w2 s1 B1 => ?_
  walk_at "go"
  refine F__law_take.mk (by omega) (Bd.of (by omega) (by omega)) B1 (by omega) fun t m2 t1 t2 s2 B2 => ?_
  walk_at "go"
  refine F__law_two.mk t1 (by omega) ?_
  have hp : (1 : Int) ≤ 2 ^ t.toNat := Int.pow_pos (by decide)
  have hp2 : Bd 101 (2 ^ t.toNat : Int) := bd_pow (by omega)
  generalize (2 ^ t.toNat : Int) = pw at hp hp2
  have s12 := s1.trans s2
  walk_at "go"
  refine od_mulS (by unfold MulOk; decide +kernel) ?_
  walk_at "go"
  refine cd_intS (n := 99999999999999999999) (by decide +kernel) (by decide +kernel) ?_
  walk_at "go"
  walk_at "br"
  · walk_at "go"
    exact q _ _ (by split <;> omega) (by split <;> omega) s12 (B2.mono (by omega))
  walk_at "go"
  walk_at "br"
  · walk_at "go"
    refine F__law_take.mk (by omega) (Bd.of (by omega) (by omega)) B2 (by omega) fun u m3 u1 u2 s3 B3 => ?_
    have hu : Bd 70 u := Bd.of (by omega) (by omega)
    walk_at "go"
    have hz : (1 : Int) ≤ pw * (1 + 2 * u) := by
      have := Int.mul_le_mul_of_nonneg_left (show (1 : Int) ≤ 1 + 2 * u by omega) (show 0 ≤ pw by omega)
      omega
    generalize pw * (1 + 2 * u) = z at hz
    exact q _ _ (by split <;> omega) (by split <;> omega) (s12.trans s3) (B3.mono (by omega))
  walk_at "go"
  walk_at "br"
  · walk_at "go"
    exact q _ _ (by split <;> split at * <;> omega) (by split <;> split at * <;> omega) s12 (B2.mono (by omega))
  walk_at "go"
  walk_at "br"
  · walk_at "go"
    exact q _ _ (by split <;> omega) (by split <;> omega) s12 (B2.mono (by omega))
  walk_at "go"
  walk_at "br"
  · walk_at "go"
    refine F__law_take.mk (by omega) (Bd.of (by omega) (by omega)) B2 (by omega) fun u m3 u1 u2 s3 B3 => ?_
    walk_at "go"
    exact q _ _ (by omega) (by omega) (s12.trans s3) (B3.mono (by omega))
  walk_at "go"
  walk_at "br"
  · walk_at "go"
    refine F__law_take.mk (by omega) (Bd.of (by omega) (by omega)) B2 (by omega) fun u m3 u1 u2 s3 B3 => ?_
    walk_at "go"
    exact q _ _ (by omega) (by omega) (s12.trans s3) (B3.mono (by omega))
  walk_at "go"
  refine od_powI ⟨by decide, by decide, by decide⟩ ?_
  walk_at "go"
  refine F__law_take.mk (by decide) (Bd.of (by decide) (by decide)) B2 (by omega) fun u m3 u1 u2 s3 B3 => ?_
  walk_at "go"
  refine od_powI ⟨by decide, by decide, by decide⟩ ?_
  have hu : Bd 70 u := Bd.of (by omega) (by
    have e : (10 : Int) ^ (9 : Int).toNat = 1000000000 := by decide
    omega)
  walk_at "go"
  refine od_powI ⟨by decide, by decide, by decide⟩ ?_
  walk_at "go"
  refine F__law_take.mk (by decide) (Bd.of (by decide) (by decide)) B3 (by omega) fun v m4 v1 v2 s4 B4 => ?_
  walk_at "go"
  have z1 := Int.emod_nonneg (u * (10 : Int) ^ (11 : Int).toNat + v) (show (99999999999999999999 : Int) ≠ 0 by decide)
  have z2 := Int.emod_lt_of_pos (u * (10 : Int) ^ (11 : Int).toNat + v) (show (0 : Int) < 99999999999999999999 by decide)
  exact q _ _ (by omega) (by omega) (s12.trans (s3.trans s4)) (B4.mono (by omega))
theorem F__law_number.mk {b : Addr} {c : Nat} {m : Sto} {Q : D → Sto → Prop} (hB : Bx m b c) (hc : c < 2 ^ 38 - 10) (q : ∀ i m', 1 ≤ i → i < 10 ^ 20 → Sb b m m' → Bx m' b (c + 4) → Q (.int i) m') : F__law_number [.loc b] m Q := ⟨b, c, rfl, hB, hc, q⟩
end
section
local macro_rules | `(tactic| walk_at "nm") => `(tactic| first
  | (show Sy.DE _ _ _ _ (.Name "box" _) _; refine G.name (i := 0) rfl (by rfl) rfl ?_))
local macro_rules | `(tactic| walk_at "st") => `(tactic| fail)
local macro_rules | `(tactic| walk_at "gn") => `(tactic| fail)
local macro_rules | `(tactic| walk_at "cl") => `(tactic| first
  | (show Sy.DE _ _ _ _ (.Call (.Name "_law_number" _) (_ :: _) [] _) _; refine G.call (fn__law_number T) (by decide) (by rfl) ?_)
  | (show Sy.DE _ _ _ _ (.Call (.Name "_law_take" _) (_ :: _) [] _) _; refine G.call (fn__law_take T) (by decide) (by rfl) ?_))
local macro_rules | `(tactic| walk_at "bl") => `(tactic| fail)
local macro_rules | `(tactic| walk_at "pr") => `(tactic| fail)
def F__law_few : FS := fun ds m Q => ∃ (b : Addr) (c : Nat), ds = [.loc b] ∧ Bx m b c ∧ c < 2 ^ 38 - 20 ∧ ∀ i m', 1 ≤ i → i < 10 ^ 20 → Sb b m m' → Bx m' b (c + 5) → Q (.int i) m'
theorem fn__law_few (T : Txt K mg) : Fn P w K mg base 3 "_law_few" s__law_few ["box"] F__law_few := by
  obtain ⟨f, fd, Fu, hm, hb⟩ := T.d__law_few
  refine ⟨f, fd, Fu, hm, hb, fn_ok Fu sc__law_few (fun ds m Φ h => ?_) (fun X C G ds m Φ h => ?_)⟩
  · obtain ⟨a, b, rfl, _⟩ := h; rfl
  obtain ⟨b, c, rfl, hB, hc, q⟩ := h
  walk_at "run"
  refine F__law_take.mk (by omega) (Bd.of (by omega) (by omega)) hB (by omega) fun way m1 w1 w2 s1 B1 => ?_
  walk_at "go"
  walk_at "br"
  · walk_at "go"
    refine F__law_number.mk B1 (by omega) fun i m2 i1 i2 s2 B2 => ?_
    exact q _ _ i1 i2 (s1.trans s2) (B2.mono (by omega))
  · walk_at "go"
    refine F__law_take.mk (by omega) (Bd.of (by omega) (by omega)) B1 (by omega) fun i m2 i1 i2 s2 B2 => ?_
    walk_at "go"
    exact q _ _ (by omega) (by omega) (s1.trans s2) (B2.mono (by omega))
theorem F__law_few.mk {b : Addr} {c : Nat} {m : Sto} {Q : D → Sto → Prop} (hB : Bx m b c) (hc : c < 2 ^ 38 - 20) (q : ∀ i m', 1 ≤ i → i < 10 ^ 20 → Sb b m m' → Bx m' b (c + 5) → Q (.int i) m') : F__law_few [.loc b] m Q := ⟨b, c, rfl, hB, hc, q⟩
end
section
local macro_rules | `(tactic| walk_at "nm") => `(tactic| first
  | (show Sy.DE _ _ _ _ (.Name "one" _) _; refine G.name (i := 0) rfl (by rfl) rfl ?_)
  | (show Sy.DE _ _ _ _ (.Name "scale" _) _; refine G.name (i := 1) rfl (by rfl) rfl ?_)
  | (show Sy.DE _ _ _ _ (.Name "found" _) _; refine G.name (i := 2) rfl (by rfl) rfl ?_))
local macro_rules | `(tactic| walk_at "st") => `(tactic| first
  | (show Sy.D1 _ _ _ _ (.Assign [.Name "found" _] _ _) _; refine G.set (i := 2) rfl (by rfl) ?_)
  | (show Sy.D1 _ _ _ _ (.Assign [.Name "turn" _] _ _) _; refine G.set (i := 3) rfl (by rfl) ?_))
local macro_rules | `(tactic| walk_at "gn") => `(tactic| first
  | (show Sy.DG _ _ _ _ (.Name "found" _) _ _ _; refine G.gname (i := 2) rfl (by rfl) (by first | trivial | decide) ?_)
  | (show Sy.DG _ _ _ _ (.Name "turn" _) _ _ _; refine G.gname (i := 3) rfl (by rfl) (by first | trivial | decide) ?_))
local macro_rules | `(tactic| walk_at "cl") => `(tactic| first
  | (show Sy.DE _ _ _ _ (.Call (.Name "_law_less" _) (_ :: _) [] _) _; refine G.call (fn__law_less T) (by decide) (by rfl) ?_)
  | (show Sy.DE _ _ _ _ (.Call (.Name "_law_times" _) (_ :: _) [] _) _; refine G.call (fn__law_times T) (by decide) (by rfl) ?_))
local macro_rules | `(tactic| walk_at "bl") => `(tactic| fail)
local macro_rules | `(tactic| walk_at "pr") => `(tactic| fail)
def F__law_reached : FS := fun ds m Q => ∃ (s l r : Int) (p : Int × Int), ds = [fD (lw s (l + r)), fD p] ∧ Ax s l r ∧ Sc p ∧ Bd 67 p.1 ∧ Bd 67 p.2 ∧ ∀ e, Rch s (l + r) p e → e ≤ 136 → Q (.int (2 ^ e)) m
theorem fn__law_reached (T : Txt K mg) : Fn P w K mg base 4 "_law_reached" s__law_reached ["one", "scale"] F__law_reached := by
  obtain ⟨f, fd, Fu, hm, hb⟩ := T.d__law_reached
  refine ⟨f, fd, Fu, hm, hb, fn_ok Fu sc__law_reached (fun ds m Φ h => ?_) (fun X C G ds m Φ h => ?_)⟩
  · obtain ⟨a, b, c, d, rfl, _⟩ := h; rfl
  obtain ⟨s, l, r, p, rfl, A, S, b1, b2, q⟩ := h
  have a1 := A.s1
  have a2 := A.l1
  have a3 := A.r1
  have a4 := A.l2.lt
  have a5 := A.r2.lt
  have a6 := b1.lt
  have a7 := S.t
  have hlr : 0 < l + r := by omega
  obtain ⟨e, he, hle⟩ := rch_ex (st := s) (lr := l + r) (p := p) a1 S.b (by omega) (by omega) hlr (by omega)
  have hlb : Bd 68 (l + r) := A.l2.add A.r2
  walk_at "run"
  refine G.for_ ?_
  refine G.rng1 rfl (by rfl) T.b_range ?_
  walk_at "go"
  refine ⟨140, rfl, by decide, by decide, fun i r' m' => m' = m ∧ ∃ (j : Nat) (t : Option D), j ≤ e ∧ (j = e ∨ j = i) ∧ r' = [some (fD (lw s (l + r))), some (fD p), some (.int (2 ^ j)), t], ⟨rfl, 0, _, by omega, .inr rfl, rfl⟩, fun _ _ _ _ => trivial, ?_, ?_⟩
  · rintro i d r' m' hd ⟨rfl, j, t, hj, hji, rfl⟩
    have hf : Bd 150 (2 ^ j : Int) := bd_pow (by omega)
    walk_at "go"
    refine ⟨lw_bot hlr, (lw_bd2 hlr hlb).mono (by decide), (lw_bd1 hlr A.s2).mono (by decide), hf.mono (by decide), ?_⟩
    rw [lw_times hlr]
    have c1 : Bd 267 (lw (2 ^ j * s) (l + r)).1 := (lw_bd1 hlr (hf.mul A.s2)).mono (by decide)
    have c2 : Bd 68 (lw (2 ^ j * s) (l + r)).2 := lw_bd2 hlr hlb
    walk_at "go"
    refine ⟨cmul_of c1 b2 (by decide), cmul_of b1 c2 (by decide), ?_⟩
    walk_at "go"
    walk_at "br"
    · have hp := (pq_lw hlr).mp h
      have hlt : j < e := Nat.lt_of_le_of_ne hj fun z => he.1 (z ▸ hp)
      walk_at "go"
      exact ⟨rfl, j + 1, _, by omega, .inr (by omega), by rw [Int.pow_succ, Int.mul_comm]; rfl⟩
    · have hp := fun z => h ((pq_lw hlr).mpr z)
      have hee : j = e := by
        by_cases z : j < e
        · exact absurd (he.2 j z) hp
        · omega
      walk_at "go"
      exact ⟨rfl, j, _, by omega, .inl hee, rfl⟩
  · rintro r' m' ⟨rfl, j, t, hj, hji, rfl⟩
    rw [rngD_length] at hji
    have hee : j = e := by
      have : (140 : Int).toNat = 140 := rfl
      omega
    subst hee
    walk_at "go"
    exact q j he hle
theorem F__law_reached.mk {s l r : Int} {p : Int × Int} {m : Sto} {Q : D → Sto → Prop} (A : Ax s l r) (S : Sc p) (h1 : Bd 67 p.1) (h2 : Bd 67 p.2) (q : ∀ e, Rch s (l + r) p e → e ≤ 136 → Q (.int (2 ^ e)) m) : F__law_reached [fD (lw s (l + r)), fD p] m Q := ⟨s, l, r, p, rfl, A, S, h1, h2, q⟩
section
variable {X : Cx} {C : Sy.Ctx} {r : Slo} {m : Sto} {Φ : D → Sto → Prop}
theorem de_sub {e : Expr} (h : DE X C r m e fun d m' => ∃ m0, Sub m0 m' ∧ Φ d m0) : DE X C r m e Φ := ⟨fun τ σ H R => (h τ σ H R).mono fun v H' ⟨d, m', R', m0, u, q⟩ => ⟨d, m0, R'.sub u, q⟩⟩
theorem de_rep {es : List Expr} {e2 : Expr} {p1 pos : Pos} (h : DA X C r m es fun ds m1 => ds.length ≤ sizeLine ∧ ∀ m2, Sub m1 m2 → DE X C r m2 e2 fun d m3 => m3 = m2 ∧ ∃ n : Int, d = .int n ∧ 0 ≤ n ∧ n < 2 ^ 63 ∧ ds.length * n.toNat ≤ sizeLine ∧ Φ (.lst (List.replicate n.toNat ds).flatten) m1) :
    DE X C r m (.BinOp (.List es p1) .Mult e2 pos) Φ :=
  de_sub (de_bin (de_lstL (h.mono fun ds m1 ⟨z, q⟩ => ⟨z, fun p hp => (q _ (sub_up hp)).mono fun d m3 ⟨e, n, e2, h0, h1, hz, k⟩ => by
    subst e e2
    exact od_repP up_same h0 hz ⟨m1, sub_up hp, k⟩ h1⟩)))
end
theorem ax_of {s l r : Int} (a1 : 1 ≤ s) (a2 : s < 10 ^ 20) (b1 : 1 ≤ l) (b2 : l < 10 ^ 20) (c1 : 1 ≤ r) (c2 : r < 10 ^ 20) : Ax s l r :=
  ⟨a1, b1, c1, Bd.of (by omega) (by omega), Bd.of (by omega) (by omega), Bd.of (by omega) (by omega)⟩
theorem plB_f {p : Int × Int} {n : Nat} : plB (n + 2) (fD p) = true := rfl
theorem ax_lr {s l r : Int} (A : Ax s l r) : 0 < l + r ∧ Bd 68 (l + r) := ⟨by have := A.l1; have := A.r1; omega, A.l2.add A.r2⟩
theorem rlI_bd {k : Int} (h1 : 1 ≤ k) (h2 : k < 10 ^ 20) : Bd 67 (rlI k) := Bd.of (by have := rlI_pos h1; omega) (by have := rlI_le (k := k) (by omega); omega)
end
local macro_rules | `(tactic| walk_at "px") => `(tactic| (show Sy.DE _ _ _ _ (.BinOp (.List _ _) .Mult _ _) _; refine de_rep ?_))
local macro_rules | `(tactic| walk_at "mk") => `(tactic| (show _ ≤ PySem.sizeLine ∧ ∀ m2, Sub _ m2 → _; refine ⟨of_decide_eq_true rfl, fun _ _ => ?_⟩))
local macro_rules | `(tactic| walk_at "mk") => `(tactic| (show _ = _ ∧ ∃ n, D.int _ = D.int n ∧ _; refine ⟨rfl, _, rfl, ?h1, ?h2, ?h3, ?_⟩; (case h1 => decide); (case h2 => decide); (case h3 => exact of_decide_eq_true rfl)))
/-- told as the ends say -/
theorem end_eq {k s l r : Int} (h : 1 ≤ k) : endD k s l r = fD (lw (rlI k * s) (l + r)) := by rw [endD, if_neg (by omega)]
theorem plB_end {k s l r : Int} {n : Nat} : plB (n + 2) (endD k s l r) = true := by unfold endD; split <;> rfl
section
local macro_rules | `(tactic| walk_at "nm") => `(tactic| first
  | (show Sy.DE _ _ _ _ (.Name "box" _) _; refine G.name (i := 0) rfl (by rfl) rfl ?_)
  | (show Sy.DE _ _ _ _ (.Name "step" _) _; refine G.name (i := 1) rfl (by rfl) rfl ?_)
  | (show Sy.DE _ _ _ _ (.Name "left" _) _; refine G.name (i := 2) rfl (by rfl) rfl ?_)
  | (show Sy.DE _ _ _ _ (.Name "right" _) _; refine G.name (i := 3) rfl (by rfl) rfl ?_)
  | (show Sy.DE _ _ _ _ (.Name "named" _) _; refine G.name (i := 4) rfl (by rfl) rfl ?_)
  | (show Sy.DE _ _ _ _ (.Name "one" _) _; refine G.name (i := 5) rfl (by rfl) rfl ?_)
  | (show Sy.DE _ _ _ _ (.Name "k" _) _; refine G.name (i := 6) rfl (by rfl) rfl ?_)
  | (show Sy.DE _ _ _ _ (.Name "due" _) _; refine G.name (i := 7) rfl (by rfl) rfl ?_)
  | (show Sy.DE _ _ _ _ (.Name "told" _) _; refine G.name (i := 8) rfl (by rfl) rfl ?_))
local macro_rules | `(tactic| walk_at "st") => `(tactic| first
  | (show Sy.D1 _ _ _ _ (.Assign [.Name "named" _] _ _) _; refine G.set (i := 4) rfl (by rfl) ?_)
  | (show Sy.D1 _ _ _ _ (.Assign [.Name "one" _] _ _) _; refine G.set (i := 5) rfl (by rfl) ?_)
  | (show Sy.D1 _ _ _ _ (.Assign [.Name "k" _] _ _) _; refine G.set (i := 6) rfl (by rfl) ?_)
  | (show Sy.D1 _ _ _ _ (.Assign [.Name "due" _] _ _) _; refine G.set (i := 7) rfl (by rfl) ?_)
  | (show Sy.D1 _ _ _ _ (.Assign [.Name "told" _] _ _) _; refine G.set (i := 8) rfl (by rfl) ?_))
local macro_rules | `(tactic| walk_at "gn") => `(tactic| first
  | (show Sy.DG _ _ _ _ (.Name "named" _) _ _ _; refine G.gname (i := 4) rfl (by rfl) (by first | trivial | decide) ?_)
  | (show Sy.DG _ _ _ _ (.Name "one" _) _ _ _; refine G.gname (i := 5) rfl (by rfl) (by first | trivial | decide) ?_)
  | (show Sy.DG _ _ _ _ (.Name "k" _) _ _ _; refine G.gname (i := 6) rfl (by rfl) (by first | trivial | decide) ?_)
  | (show Sy.DG _ _ _ _ (.Name "due" _) _ _ _; refine G.gname (i := 7) rfl (by rfl) (by first | trivial | decide) ?_)
  | (show Sy.DG _ _ _ _ (.Name "told" _) _ _ _; refine G.gname (i := 8) rfl (by rfl) (by first | trivial | decide) ?_))
local macro_rules | `(tactic| walk_at "cl") => `(tactic| first
  | (show Sy.DE _ _ _ _ (.Call (.Name "_law_fraction" _) (_ :: _) [] _) _; refine G.call (fn__law_fraction T) (by decide) (by rfl) ?_)
  | (show Sy.DE _ _ _ _ (.Call (.Name "_law_number" _) (_ :: _) [] _) _; refine G.call (fn__law_number T) (by decide) (by rfl) ?_)
  | (show Sy.DE _ _ _ _ (.Call (.Name "_law_times" _) (_ :: _) [] _) _; refine G.call (fn__law_times T) (by decide) (by rfl) ?_)
  | (show Sy.DE _ _ _ _ (.Call (.Name "ruler_end" _) [] (_ :: _) _) _; refine G.callK0 (fn_ruler_end T) (by decide) (by rfl) 4 [3, 2, 1, 0] (by decide) (fun _ _ _ _ _ _ us ws h1 h2 => match us, ws, h1, h2 with | [], [_, _, _, _], _, _ => rfl) ?_)
  | (show Sy.DE _ _ _ _ (.Call (.Name "ruler_end" _) (_ :: _) [] _) _; refine G.call (fn_ruler_end T) (by decide) (by rfl) ?_)
  | (show Sy.DE _ _ _ _ (.Call (.Name "_law_same" _) (_ :: _) [] _) _; refine G.call (fn__law_same T) (by decide) (by rfl) ?_)
  | (show Sy.DE _ _ _ _ (.Call (.Name "_law_halved" _) (_ :: _) [] _) _; refine G.call (fn__law_halved T) (by decide) (by rfl) ?_)
  | (show Sy.DE _ _ _ _ (.Call (.Name "ruler" _) (_ :: _) [] _) _; refine G.call (fn_ruler T) (by decide) (by rfl) ?_)
  | (show Sy.DE _ _ _ _ (.Call (.Name "ruler" _) [] (_ :: _) _) _; refine G.callK0 (fn_ruler T) (by decide) (by rfl) 1 [0] (by decide) (fun _ _ _ _ _ _ us ws h1 h2 => match us, ws, h1, h2 with | [], [_], _, _ => rfl) ?_))
local macro_rules | `(tactic| walk_at "bl") => `(tactic| fail)
local macro_rules | `(tactic| walk_at "pr") => `(tactic| fail)
def F__law_ends_right : FS := fun ds m Q => ∃ (b : Addr) (c : Nat) (s l r : Int) (nb : Bool), ds = [.loc b, .int s, .int l, .int r, .bl nb] ∧ Bx m b c ∧ c < 2 ^ 30 ∧ Ax s l r ∧ ∀ m', Sb b m m' → Bx m' b (c + 20) → Q (.bl true) m'
theorem fn__law_ends_right (T : Txt K mg) : Fn P w K mg base 6 "_law_ends_right" s__law_ends_right ["box", "step", "left", "right", "named"] F__law_ends_right := by
  obtain ⟨f, fd, Fu, hm, hb⟩ := T.d__law_ends_right
  refine ⟨f, fd, Fu, hm, hb, fn_ok Fu sc__law_ends_right (fun ds m Φ h => ?_) (fun X C G ds m Φ h => ?_)⟩
  · obtain ⟨a, b, c, d, e, g, rfl, _⟩ := h; rfl
  obtain ⟨b, c, s, l, r, nb, rfl, hB, hc, A, q⟩ := h
  obtain ⟨hlr, hlb⟩ := ax_lr A
  walk_at "run"
  refine ⟨hlr, hlb.mono (by decide), ?_⟩
  walk_at "go"
  refine G.for_ ?_
  refine di_t ?_
  walk_at "go"
  refine F__law_number.mk hB (by omega) fun k1 m1 k11 k12 s1 B1 => ?_
  walk_at "go"
  refine F__law_number.mk B1 (by omega) fun k2 m2 k21 k22 s2 B2 => ?_
  walk_at "go"
  refine ⟨_, rfl, fun i r' m' => m' = m2 ∧ ∃ (nb : Bool) (d1 d2 d3 : Option D), r' = [some (.loc b), some (.int s), some (.int l), some (.int r), some (.bl nb), some (fD (lw s (l + r))), d1, d2, d3], ⟨rfl, _, _, _, _, rfl⟩, fun _ _ _ _ => trivial, ?_, ?_⟩
  · rintro i d r' m' hd ⟨rfl, nb, d1, d2, d3, rfl⟩
    obtain ⟨k, rfl, hk0, hk1⟩ : ∃ k : Int, d = .int k ∧ 0 ≤ k ∧ k < 10 ^ 20 := by
      have := List.mem_of_getElem? hd
      simp only [List.mem_cons, List.not_mem_nil, or_false] at this
      rcases this with rfl | rfl | rfl | rfl
      · exact ⟨_, rfl, by decide, by decide⟩
      · exact ⟨_, rfl, by decide, by decide⟩
      · exact ⟨_, rfl, by omega, k12⟩
      · exact ⟨_, rfl, by omega, k22⟩
    have hkb : Bd 67 k := Bd.of (by omega) (by omega)
    walk_at "s"
    refine ds_cut (fun r' m3 => m' = m3 ∧ r' = [some (.loc b), some (.int s), some (.int l), some (.int r), some (.bl nb), some (fD (lw s (l + r))), some (.int k), some (endD k s l r), d3]) ?_ ?_
    · walk_at "go"
      walk_at "br"
      · walk_at "go"
        refine ⟨rfl, by rw [endD, if_pos h]; rfl⟩
      · walk_at "go"
        refine F__law_halved.mk (by omega) (by omega) ?_
        walk_at "go"
        refine ⟨lw_bot hlr, (lw_bd2 hlr hlb).mono (by decide), (lw_bd1 hlr A.s2).mono (by decide), (rlI_bd (by omega) hk1).mono (by decide), ?_⟩
        rw [lw_times hlr]
        walk_at "go"
        refine ⟨rfl, by rw [endD, if_neg h]; rfl⟩
    rintro _ _ ⟨rfl, rfl⟩
    refine ds_cut (fun r' m3 => m' = m3 ∧ r' = [some (.loc b), some (.int s), some (.int l), some (.int r), some (.bl nb), some (fD (lw s (l + r))), some (.int k), some (endD k s l r), some (endD k s l r)]) ?_ ?_
    · cases nb
      · walk_at "go"
        refine F_ruler_end_of.mk hk0 hkb A ?_
        walk_at "go"
        exact ⟨rfl, rfl⟩
      · walk_at "go"
        refine F_ruler_end_of.mk hk0 hkb A ?_
        walk_at "go"
        exact ⟨rfl, rfl⟩
    rintro _ _ ⟨rfl, rfl⟩
    refine ds_cut (fun r' m3 => m' = m3 ∧ r' = [some (.loc b), some (.int s), some (.int l), some (.int r), some (.bl nb), some (fD (lw s (l + r))), some (.int k), some (endD k s l r), some (endD k s l r)]) ?_ ?_
    · walk_at "go"
      refine F_same.mk plB_end ?_
      walk_at "go"
      exact ⟨rfl, rfl⟩
    rintro _ _ ⟨rfl, rfl⟩
    refine ds_cut (fun r' m3 => m' = m3 ∧ r' = [some (.loc b), some (.int s), some (.int l), some (.int r), some (.bl nb), some (fD (lw s (l + r))), some (.int k), some (endD k s l r), some (endD k s l r)]) ?_ ?_
    · walk_at "go"
      walk_at "br"
      · walk_at "go"
        refine F_ruler.mk (by omega) ?_
        walk_at "go"
        refine F_ruler.mk (by omega) ?_
        walk_at "go"
        refine F__law_halved.mk (by omega) (by omega) ?_
        walk_at "go"
        refine F_same.mk (n := 3) (d := .lst [.int (rlI k), .int (rlI k)]) rfl ?_
        walk_at "go"
        exact ⟨rfl, rfl⟩
      · walk_at "go"
        exact ⟨rfl, rfl⟩
    rintro _ _ ⟨rfl, rfl⟩
    walk_at "go"
    exact ⟨rfl, _, _, _, _, rfl⟩
  · rintro r' m' ⟨rfl, nb, d1, d2, d3, rfl⟩
    walk_at "go"
    exact q _ (s1.trans s2) (B2.mono (by omega))
theorem F__law_ends_right.mk {b : Addr} {c : Nat} {s l r : Int} {nb : Bool} {m : Sto} {Q : D → Sto → Prop} (hB : Bx m b c) (hc : c < 2 ^ 30) (A : Ax s l r) (q : ∀ m', Sb b m m' → Bx m' b (c + 20) → Q (.bl true) m') : F__law_ends_right [.loc b, .int s, .int l, .int r, .bl nb] m Q := ⟨b, c, s, l, r, nb, rfl, hB, hc, A, q⟩
end
section
local macro_rules | `(tactic| walk_at "nm") => `(tactic| first
  | (show Sy.DE _ _ _ _ (.Name "box" _) _; refine G.name (i := 0) rfl (by rfl) rfl ?_)
  | (show Sy.DE _ _ _ _ (.Name "k" _) _; refine G.name (i := 1) rfl (by rfl) rfl ?_)
  | (show Sy.DE _ _ _ _ (.Name "odd" _) _; refine G.name (i := 2) rfl (by rfl) rfl ?_)
  | (show Sy.DE _ _ _ _ (.Name "power" _) _; refine G.name (i := 3) rfl (by rfl) rfl ?_)
  | (show Sy.DE _ _ _ _ (.Name "more" _) _; refine G.name (i := 4) rfl (by rfl) rfl ?_))
local macro_rules | `(tactic| walk_at "st") => `(tactic| first
  | (show Sy.D1 _ _ _ _ (.Assign [.Name "k" _] _ _) _; refine G.set (i := 1) rfl (by rfl) ?_)
  | (show Sy.D1 _ _ _ _ (.Assign [.Name "odd" _] _ _) _; refine G.set (i := 2) rfl (by rfl) ?_)
  | (show Sy.D1 _ _ _ _ (.Assign [.Name "power" _] _ _) _; refine G.set (i := 3) rfl (by rfl) ?_)
  | (show Sy.D1 _ _ _ _ (.Assign [.Name "more" _] _ _) _; refine G.set (i := 4) rfl (by rfl) ?_))
local macro_rules | `(tactic| walk_at "gn") => `(tactic| first
  | (show Sy.DG _ _ _ _ (.Name "k" _) _ _ _; refine G.gname (i := 1) rfl (by rfl) (by first | trivial | decide) ?_)
  | (show Sy.DG _ _ _ _ (.Name "odd" _) _ _ _; refine G.gname (i := 2) rfl (by rfl) (by first | trivial | decide) ?_)
  | (show Sy.DG _ _ _ _ (.Name "power" _) _ _ _; refine G.gname (i := 3) rfl (by rfl) (by first | trivial | decide) ?_)
  | (show Sy.DG _ _ _ _ (.Name "more" _) _ _ _; refine G.gname (i := 4) rfl (by rfl) (by first | trivial | decide) ?_))
local macro_rules | `(tactic| walk_at "cl") => `(tactic| first
  | (show Sy.DE _ _ _ _ (.Call (.Name "_law_halved" _) (_ :: _) [] _) _; refine G.call (fn__law_halved T) (by decide) (by rfl) ?_)
  | (show Sy.DE _ _ _ _ (.Call (.Name "_law_number" _) (_ :: _) [] _) _; refine G.call (fn__law_number T) (by decide) (by rfl) ?_)
  | (show Sy.DE _ _ _ _ (.Call (.Name "_law_same" _) (_ :: _) [] _) _; refine G.call (fn__law_same T) (by decide) (by rfl) ?_)
  | (show Sy.DE _ _ _ _ (.Call (.Name "_law_take" _) (_ :: _) [] _) _; refine G.call (fn__law_take T) (by decide) (by rfl) ?_)
  | (show Sy.DE _ _ _ _ (.Call (.Name "ruler" _) [] (_ :: _) _) _; refine G.callK0 (fn_ruler T) (by decide) (by rfl) 1 [0] (by decide) (fun _ _ _ _ _ _ us ws h1 h2 => match us, ws, h1, h2 with | [], [_], _, _ => rfl) ?_)
  | (show Sy.DE _ _ _ _ (.Call (.Name "ruler" _) (_ :: _) [] _) _; refine G.call (fn_ruler T) (by decide) (by rfl) ?_))
local macro_rules | `(tactic| walk_at "bl") => `(tactic| fail)
local macro_rules | `(tactic| walk_at "pr") => `(tactic| first
  | (show Sy.D1 _ _ _ _ (.Assign [.Tuple [.Name "k" _, .Name "odd" _] _ _] (.Tuple [_, _] _ _) _) _; refine G.par (i := 1) (j := 2) rfl rfl (by decide) (by rfl) (by rfl) ?_ (fun env he => by cases env; cases he; rfl)))
def F__law_ruler_right : FS := fun ds m Q => ∃ (b : Addr) (c : Nat), ds = [.loc b] ∧ Bx m b c ∧ c < 2 ^ 30 ∧ ∀ m', Sb b m m' → Bx m' b (c + 20) → Q (.bl true) m'
theorem fn__law_ruler_right (T : Txt K mg) : Fn P w K mg base 5 "_law_ruler_right" s__law_ruler_right ["box"] F__law_ruler_right := by
  obtain ⟨f, fd, Fu, hm, hb⟩ := T.d__law_ruler_right
  refine ⟨f, fd, Fu, hm, hb, fn_ok Fu sc__law_ruler_right (fun ds m Φ h => ?_) (fun X C G ds m Φ h => ?_)⟩
  · obtain ⟨a, b, rfl, _⟩ := h; rfl
  obtain ⟨b, c, rfl, hB, hc, q⟩ := h
  walk_at "run"
  refine F__law_number.mk hB (by omega) fun k m1 k1 k2 s1 B1 => ?_
  walk_at "go"
  refine F__law_take.mk (by omega) (Bd.of (by omega) (by omega)) B1 (by omega) fun t m2 t1 t2 s2 B2 => ?_
  have ht : Bd 70 t := Bd.of (by omega) (by omega)
  have hk : Bd 70 k := Bd.of (by omega) (by omega)
  have hr := rlI_bd k1 k2
  have hr1 := rlI_pos k1
  have hr2 := rlI_le (k := k) (by omega)
  have hko : 1 ≤ k * (1 + 2 * t) := by
    have := Int.mul_le_mul_of_nonneg_left (show (1 : Int) ≤ 1 + 2 * t by omega) (show 0 ≤ k by omega)
    omega
  walk_at "go"
  refine F__law_halved.mk k1 (by omega) ?_
  refine ds_cut (fun r' m3 => m2 = m3 ∧ r' = [some (.loc b), some (.int k), some (.int (1 + 2 * t)), some (.int (rlI k)), none]) ?_ ?_
  · walk_at "go"
    refine od_powI ⟨by decide, by decide, by decide⟩ ?_
    walk_at "go"
    walk_at "br"
    · walk_at "go"
      refine F_ruler.mk hko ?_
      rw [rlI_odd k1 t1]
      walk_at "go"
      refine F_same.mk (n := 3) (d := .int (rlI k)) rfl ?_
      walk_at "go"
      exact ⟨rfl, rfl⟩
    · walk_at "go"
      exact ⟨rfl, rfl⟩
  rintro _ _ ⟨rfl, rfl⟩
  walk_at "go"
  refine F__law_take.mk (by omega) (Bd.of (by omega) (by omega)) B2 (by omega) fun u m3 u1 u2 s3 B3 => ?_
  have hu : Bd 70 u := Bd.of (by omega) (by omega)
  walk_at "go"
  refine od_powI ⟨by decide, by decide, by decide⟩ ?_
  walk_at "go"
  have hfin := q _ (s1.trans (s2.trans s3)) (B3.mono (by omega))
  walk_at "br"
  · exact hfin
  · have e := rlI_more (k := k) (t := 1 + u) k1 (by omega)
    have hk3 : 1 ≤ k + 2 * rlI k * (1 + u) := by
      have := Int.mul_le_mul_of_nonneg_left (show (1 : Int) ≤ 1 + u by omega) (show 0 ≤ 2 * rlI k by omega)
      omega
    walk_at "go"
    refine F_ruler.mk hk3 ?_
    rw [e]
    walk_at "go"
    refine F_same.mk (n := 3) (d := .int (rlI k)) rfl ?_
    exact hfin
theorem F__law_ruler_right.mk {b : Addr} {c : Nat} {m : Sto} {Q : D → Sto → Prop} (hB : Bx m b c) (hc : c < 2 ^ 30) (q : ∀ m', Sb b m m' → Bx m' b (c + 20) → Q (.bl true) m') : F__law_ruler_right [.loc b] m Q := ⟨b, c, rfl, hB, hc, q⟩
end
section
local macro_rules | `(tactic| walk_at "nm") => `(tactic| first
  | (show Sy.DE _ _ _ _ (.Name "box" _) _; refine G.name (i := 0) rfl (by rfl) rfl ?_)
  | (show Sy.DE _ _ _ _ (.Name "one" _) _; refine G.name (i := 1) rfl (by rfl) rfl ?_)
  | (show Sy.DE _ _ _ _ (.Name "base" _) _; refine G.name (i := 2) rfl (by rfl) rfl ?_)
  | (show Sy.DE _ _ _ _ (.Name "rows" _) _; refine G.name (i := 3) rfl (by rfl) rfl ?_)
  | (show Sy.DE _ _ _ _ (.Name "found" _) _; refine G.name (i := 4) rfl (by rfl) rfl ?_))
local macro_rules | `(tactic| walk_at "st") => `(tactic| first
  | (show Sy.D1 _ _ _ _ (.Assign [.Name "base" _] _ _) _; refine G.set (i := 2) rfl (by rfl) ?_)
  | (show Sy.D1 _ _ _ _ (.Assign [.Name "rows" _] _ _) _; refine G.set (i := 3) rfl (by rfl) ?_)
  | (show Sy.D1 _ _ _ _ (.Assign [.Name "found" _] _ _) _; refine G.set (i := 4) rfl (by rfl) ?_))
local macro_rules | `(tactic| walk_at "gn") => `(tactic| first
  | (show Sy.DG _ _ _ _ (.Name "base" _) _ _ _; refine G.gname (i := 2) rfl (by rfl) (by first | trivial | decide) ?_)
  | (show Sy.DG _ _ _ _ (.Name "rows" _) _ _ _; refine G.gname (i := 3) rfl (by rfl) (by first | trivial | decide) ?_)
  | (show Sy.DG _ _ _ _ (.Name "found" _) _ _ _; refine G.gname (i := 4) rfl (by rfl) (by first | trivial | decide) ?_))
local macro_rules | `(tactic| walk_at "cl") => `(tactic| first
  | (show Sy.DE _ _ _ _ (.Call (.Name "_law_times" _) (_ :: _) [] _) _; refine G.call (fn__law_times T) (by decide) (by rfl) ?_)
  | (show Sy.DE _ _ _ _ (.Call (.Name "_law_pick" _) (_ :: _) [] _) _; refine G.call (fn__law_pick T) (by decide) (by rfl) ?_)
  | (show Sy.DE _ _ _ _ (.Call (.Name "_law_two" _) (_ :: _) [] _) _; refine G.call (fn__law_two T) (by decide) (by rfl) ?_)
  | (show Sy.DE _ _ _ _ (.Call (.Name "_law_fraction" _) (_ :: _) [] _) _; refine G.call (fn__law_fraction T) (by decide) (by rfl) ?_)
  | (show Sy.DE _ _ _ _ (.Call (.Name "_law_take" _) (_ :: _) [] _) _; refine G.call (fn__law_take T) (by decide) (by rfl) ?_)
  | (show Sy.DE _ _ _ _ (.Call (.Name "_law_number" _) (_ :: _) [] _) _; refine G.call (fn__law_number T) (by decide) (by rfl) ?_))
local macro_rules | `(tactic| walk_at "bl") => `(tactic| fail)
local macro_rules | `(tactic| walk_at "pr") => `(tactic| fail)
theorem lw_top {a b : Int} (ha : 0 < a) (hb : 0 < b) : 0 < (lw a b).1 := by
  obtain ⟨g, hg, h1, h2⟩ := lw_mul (a := a) hb
  exact Int.pos_of_mul_pos_right (by rw [← h1]; exact ha) hg
theorem sc_lw {a b : Int} (ha : 0 < a) (hb : 0 < b) : Sc (lw a b) := ⟨lw_top ha hb, lw_bot hb, lw_cop hb⟩
def F__law_scale : FS := fun ds m Q => ∃ (b : Addr) (c : Nat) (s l r : Int), ds = [.loc b, fD (lw s (l + r))] ∧ Bx m b c ∧ c < 2 ^ 31 ∧ Ax s l r ∧ ∀ p m', Sc p → Bd 67 p.1 → Bd 67 p.2 → Sb b m m' → Bx m' b (c + 20) → Q (fD p) m'
theorem fn__law_scale (T : Txt K mg) : Fn P w K mg base 5 "_law_scale" s__law_scale ["box", "one"] F__law_scale := by
  obtain ⟨f, fd, Fu, hm, hb⟩ := T.d__law_scale
  refine ⟨f, fd, Fu, hm, hb, fn_ok Fu sc__law_scale (fun ds m Φ h => ?_) (fun X C G ds m Φ h => ?_)⟩
  · obtain ⟨a, b, c, d, e, rfl, _⟩ := h; rfl
  obtain ⟨b, c, s, l, r, rfl, hB, hc, A, q⟩ := h
  obtain ⟨hlr, hlb⟩ := ax_lr A
  walk_at "run"
  refine F__law_take.mk (by omega) (Bd.of (by omega) (by omega)) hB (by omega) fun t m1 t1 t2 s1 B1 => ?_
  walk_at "go"
  refine F__law_two.mk t1 (by omega) ?_
  have hp : (1 : Int) ≤ 2 ^ t.toNat := Int.pow_pos (by decide)
  have hp2 : Bd 101 (2 ^ t.toNat : Int) := bd_pow (by omega)
  generalize (2 ^ t.toNat : Int) = pw at hp hp2
  walk_at "go"
  refine ⟨lw_bot hlr, (lw_bd2 hlr hlb).mono (by decide), (lw_bd1 hlr A.s2).mono (by decide), hp2.mono (by decide), ?_⟩
  rw [lw_times hlr]
  have hs : 0 < pw * s := Int.mul_pos (by omega) (by have := A.s1; omega)
  have g1 : Sc (lw (pw * s) (l + r)) := sc_lw hs hlr
  have e1 : Bd 168 (lw (pw * s) (l + r)).1 := lw_bd1 hlr (hp2.mul A.s2)
  have e2 : Bd 68 (lw (pw * s) (l + r)).2 := lw_bd2 hlr hlb
  generalize lw (pw * s) (l + r) = bs at g1 e1 e2
  obtain ⟨x, y⟩ := bs
  have x1 : 0 < x := g1.t
  have y1 : 0 < y := g1.b
  have y2 : Bd 80 (y * 1000) := (e2.mul (Bd.lit (n := 10) (i := 1000) (by decide))).mono (by decide)
  walk_at "go"
  refine ⟨by omega, y2.mono (by decide), ?_⟩
  walk_at "go"
  refine ⟨by omega, y2.mono (by decide), ?_⟩
  walk_at "go"
  refine F__law_number.mk B1 (by omega) fun n1 m2 n11 n12 s2 B2 => ?_
  walk_at "go"
  refine F__law_number.mk B2 (by omega) fun n2 m3 n21 n22 s3 B3 => ?_
  walk_at "go"
  refine ⟨by omega, Bd.of (by omega) (by omega), ?_⟩
  walk_at "go"
  refine od_powI ⟨by decide, by decide, by decide⟩ ?_
  walk_at "go"
  refine od_powI ⟨by decide, by decide, by decide⟩ ?_
  walk_at "go"
  refine od_catL (.inl rfl) (.inl rfl) (of_decide_eq_true rfl) ?_
  walk_at "go"
  refine F__law_pick.mk (by simp) (by simp) B3 (by omega) fun d m4 hd s4 B4 => ?_
  obtain ⟨p, rfl, hp⟩ : ∃ p, d = fD p ∧ Sc p := by
    simp only [List.mem_cons, List.cons_append, List.nil_append, List.not_mem_nil, or_false] at hd
    rcases hd with rfl | rfl | rfl | rfl | rfl | rfl
    · exact ⟨(x, y), rfl, g1⟩
    · exact ⟨_, rfl, sc_lw (by omega) (by omega)⟩
    · exact ⟨_, rfl, sc_lw (by omega) (by omega)⟩
    · exact ⟨_, rfl, sc_lw (by omega) (by omega)⟩
    · exact ⟨(_, _), rfl, ⟨by decide, by decide, by decide +kernel⟩⟩
    · exact ⟨(_, _), rfl, ⟨by decide, by decide, by decide +kernel⟩⟩
  have p1 := hp.t
  have p2 := hp.b
  have s14 := s1.trans (s2.trans (s3.trans s4))
  obtain ⟨p, p'⟩ := p
  have hfin := q (1, 1) _ ⟨by decide, by decide, by decide⟩ (Bd.lit (by decide)) (Bd.lit (by decide)) s14 (B4.mono (by omega))
  walk_at "go"
  refine od_powI ⟨by decide, by decide, by decide⟩ ?_
  walk_at "go"
  walk_at "br"
  · walk_at "go"
    refine od_powI ⟨by decide, by decide, by decide⟩ ?_
    walk_at "go"
    have h3 : (10 : Int) ^ (20 : Int).toNat = 10 ^ 20 := rfl
    rename_i h1
    walk_at "br"
    · walk_at "go"
      exact q (p, p') _ hp (Bd.of (by omega) (by omega)) (Bd.of (by omega) (by omega)) s14 (B4.mono (by omega))
    · walk_at "go"
      exact hfin
  · walk_at "go"
    exact hfin
theorem F__law_scale.mk {b : Addr} {c : Nat} {s l r : Int} {m : Sto} {Q : D → Sto → Prop} (hB : Bx m b c) (hc : c < 2 ^ 31) (A : Ax s l r) (q : ∀ p m', Sc p → Bd 67 p.1 → Bd 67 p.2 → Sb b m m' → Bx m' b (c + 20) → Q (fD p) m') : F__law_scale [.loc b, fD (lw s (l + r))] m Q := ⟨b, c, s, l, r, rfl, hB, hc, A, q⟩
end
section
local macro_rules | `(tactic| walk_at "nm") => `(tactic| first
  | (show Sy.DE _ _ _ _ (.Name "box" _) _; refine G.name (i := 0) rfl (by rfl) rfl ?_)
  | (show Sy.DE _ _ _ _ (.Name "step" _) _; refine G.name (i := 1) rfl (by rfl) rfl ?_)
  | (show Sy.DE _ _ _ _ (.Name "left" _) _; refine G.name (i := 2) rfl (by rfl) rfl ?_)
  | (show Sy.DE _ _ _ _ (.Name "right" _) _; refine G.name (i := 3) rfl (by rfl) rfl ?_)
  | (show Sy.DE _ _ _ _ (.Name "named" _) _; refine G.name (i := 4) rfl (by rfl) rfl ?_)
  | (show Sy.DE _ _ _ _ (.Name "one" _) _; refine G.name (i := 5) rfl (by rfl) rfl ?_)
  | (show Sy.DE _ _ _ _ (.Name "scale" _) _; refine G.name (i := 7) rfl (by rfl) rfl ?_)
  | (show Sy.DE _ _ _ _ (.Name "many" _) _; refine G.name (i := 8) rfl (by rfl) rfl ?_)
  | (show Sy.DE _ _ _ _ (.Name "power" _) _; refine G.name (i := 9) rfl (by rfl) rfl ?_)
  | (show Sy.DE _ _ _ _ (.Name "told" _) _; refine G.name (i := 10) rfl (by rfl) rfl ?_)
  | (show Sy.DE _ _ _ _ (.Name "number" _) _; refine G.name (i := 11) rfl (by rfl) rfl ?_)
  | (show Sy.DE _ _ _ _ (.Name "due" _) _; refine G.name (i := 12) rfl (by rfl) rfl ?_)
  | (show Sy.DE _ _ _ _ (.Name "k" _) _; refine G.name (i := 13) rfl (by rfl) rfl ?_))
local macro_rules | `(tactic| walk_at "st") => `(tactic| first
  | (show Sy.D1 _ _ _ _ (.Assign [.Name "named" _] _ _) _; refine G.set (i := 4) rfl (by rfl) ?_)
  | (show Sy.D1 _ _ _ _ (.Assign [.Name "one" _] _ _) _; refine G.set (i := 5) rfl (by rfl) ?_)
  | (show Sy.D1 _ _ _ _ (.Assign [.Name "turn" _] _ _) _; refine G.set (i := 6) rfl (by rfl) ?_)
  | (show Sy.D1 _ _ _ _ (.Assign [.Name "scale" _] _ _) _; refine G.set (i := 7) rfl (by rfl) ?_)
  | (show Sy.D1 _ _ _ _ (.Assign [.Name "many" _] _ _) _; refine G.set (i := 8) rfl (by rfl) ?_)
  | (show Sy.D1 _ _ _ _ (.Assign [.Name "power" _] _ _) _; refine G.set (i := 9) rfl (by rfl) ?_)
  | (show Sy.D1 _ _ _ _ (.Assign [.Name "told" _] _ _) _; refine G.set (i := 10) rfl (by rfl) ?_)
  | (show Sy.D1 _ _ _ _ (.Assign [.Name "number" _] _ _) _; refine G.set (i := 11) rfl (by rfl) ?_)
  | (show Sy.D1 _ _ _ _ (.Assign [.Name "due" _] _ _) _; refine G.set (i := 12) rfl (by rfl) ?_)
  | (show Sy.D1 _ _ _ _ (.Assign [.Name "k" _] _ _) _; refine G.set (i := 13) rfl (by rfl) ?_))
local macro_rules | `(tactic| walk_at "gn") => `(tactic| first
  | (show Sy.DG _ _ _ _ (.Name "named" _) _ _ _; refine G.gname (i := 4) rfl (by rfl) (by first | trivial | decide) ?_)
  | (show Sy.DG _ _ _ _ (.Name "one" _) _ _ _; refine G.gname (i := 5) rfl (by rfl) (by first | trivial | decide) ?_)
  | (show Sy.DG _ _ _ _ (.Name "turn" _) _ _ _; refine G.gname (i := 6) rfl (by rfl) (by first | trivial | decide) ?_)
  | (show Sy.DG _ _ _ _ (.Name "scale" _) _ _ _; refine G.gname (i := 7) rfl (by rfl) (by first | trivial | decide) ?_)
  | (show Sy.DG _ _ _ _ (.Name "many" _) _ _ _; refine G.gname (i := 8) rfl (by rfl) (by first | trivial | decide) ?_)
  | (show Sy.DG _ _ _ _ (.Name "power" _) _ _ _; refine G.gname (i := 9) rfl (by rfl) (by first | trivial | decide) ?_)
  | (show Sy.DG _ _ _ _ (.Name "told" _) _ _ _; refine G.gname (i := 10) rfl (by rfl) (by first | trivial | decide) ?_)
  | (show Sy.DG _ _ _ _ (.Name "number" _) _ _ _; refine G.gname (i := 11) rfl (by rfl) (by first | trivial | decide) ?_)
  | (show Sy.DG _ _ _ _ (.Name "due" _) _ _ _; refine G.gname (i := 12) rfl (by rfl) (by first | trivial | decide) ?_)
  | (show Sy.DG _ _ _ _ (.Name "k" _) _ _ _; refine G.gname (i := 13) rfl (by rfl) (by first | trivial | decide) ?_))
local macro_rules | `(tactic| walk_at "cl") => `(tactic| first
  | (show Sy.DE _ _ _ _ (.Call (.Name "_law_fraction" _) (_ :: _) [] _) _; refine G.call (fn__law_fraction T) (by decide) (by rfl) ?_)
  | (show Sy.DE _ _ _ _ (.Call (.Name "_law_reached" _) (_ :: _) [] _) _; refine G.call (fn__law_reached T) (by decide) (by rfl) ?_)
  | (show Sy.DE _ _ _ _ (.Call (.Name "_law_number" _) (_ :: _) [] _) _; refine G.call (fn__law_number T) (by decide) (by rfl) ?_)
  | (show Sy.DE _ _ _ _ (.Call (.Name "_law_scale" _) (_ :: _) [] _) _; refine G.call (fn__law_scale T) (by decide) (by rfl) ?_)
  | (show Sy.DE _ _ _ _ (.Call (.Name "ruler_step" _) [] (_ :: _) _) _; refine G.callK0 (fn_ruler_step T) (by decide) (by rfl) 4 [3, 2, 1, 0] (by decide) (fun _ _ _ _ _ _ us ws h1 h2 => match us, ws, h1, h2 with | [], [_, _, _, _], _, _ => rfl) ?_)
  | (show Sy.DE _ _ _ _ (.Call (.Name "ruler_step" _) (_ :: _) [] _) _; refine G.call (fn_ruler_step T) (by decide) (by rfl) ?_)
  | (show Sy.DE _ _ _ _ (.Call (.Name "_law_same" _) (_ :: _) [] _) _; refine G.call (fn__law_same T) (by decide) (by rfl) ?_)
  | (show Sy.DE _ _ _ _ (.Call (.Name "ruler_count" _) [] (_ :: _) _) _; refine G.callK0 (fn_ruler_count T) (by decide) (by rfl) 5 [4, 3, 2, 1, 0] (by decide) (fun _ _ _ _ _ _ us ws h1 h2 => match us, ws, h1, h2 with | [], [_, _, _, _, _], _, _ => rfl) ?_)
  | (show Sy.DE _ _ _ _ (.Call (.Name "ruler_count" _) (_ :: _) [] _) _; refine G.call (fn_ruler_count T) (by decide) (by rfl) ?_)
  | (show Sy.DE _ _ _ _ (.Call (.Name "_law_less" _) (_ :: _) [] _) _; refine G.call (fn__law_less T) (by decide) (by rfl) ?_)
  | (show Sy.DE _ _ _ _ (.Call (.Name "ruler_end" _) (_ :: _) [] _) _; refine G.call (fn_ruler_end T) (by decide) (by rfl) ?_))
local macro_rules | `(tactic| walk_at "bl") => `(tactic| first
  | (show Sy.DE _ _ _ _ (.Call (.Name "min" _) (_ :: _) [] _) _; refine G.blt (id := "min") (by rfl) T.b_min Sy.bb_min ?_)
  | (show Sy.DE _ _ _ _ (.Call (.Name "int" _) (_ :: _) [] _) _; refine G.bty (T := "int") (by rfl) T.b_int Sy.bb_int ?_)
  | (show Sy.DE _ _ _ _ (.Name "int" _) _; refine G.tyname (n := "int") (by rfl) T.b_int Sy.bb_int ?_))
local macro_rules | `(tactic| walk_at "pr") => `(tactic| first
  | (show Sy.D1 _ _ _ _ (.Assign [.Tuple [.Name "scale" _, .Name "many" _] _ _] (.Tuple [_, _] _ _) _) _; refine G.par (i := 7) (j := 8) rfl rfl (by decide) (by rfl) (by rfl) ?_ (fun env he => by cases env; cases he; rfl)))
def F__law_counts_right : FS := fun ds m Q => ∃ (b : Addr) (c : Nat) (s l r : Int) (nb : Bool), ds = [.loc b, .int s, .int l, .int r, .bl nb] ∧ Bx m b c ∧ c < 2 ^ 30 ∧ Ax s l r ∧ ∀ m', Sb b m m' → Bx m' b (c + 120) → Q (.bl true) m'
theorem fn__law_counts_right (T : Txt K mg) : Fn P w K mg base 6 "_law_counts_right" s__law_counts_right ["box", "step", "left", "right", "named"] F__law_counts_right := by
  obtain ⟨f, fd, Fu, hm, hb⟩ := T.d__law_counts_right
  refine ⟨f, fd, Fu, hm, hb, fn_ok Fu sc__law_counts_right (fun ds m Φ h => ?_) (fun X C G ds m Φ h => ?_)⟩
  · obtain ⟨a, b, c, d, e, g, rfl, _⟩ := h; rfl
  obtain ⟨b, c, s, l, r, nb, rfl, hB, hc, A, q⟩ := h
  obtain ⟨hlr, hlb⟩ := ax_lr A
  walk_at "run"
  refine ⟨hlr, hlb.mono (by decide), ?_⟩
  walk_at "go"
  refine G.for_ ?_
  refine G.rng1 rfl (by rfl) T.b_range ?_
  walk_at "go"
  refine ⟨3, rfl, by decide, by decide, fun i r' m' => Sb b m m' ∧ Bx m' b (c + 40 * i) ∧ ∃ (nb : Bool) (d1 d2 d3 d4 d5 d6 d7 d8 : Option D), r' = [some (.loc b), some (.int s), some (.int l), some (.int r), some (.bl nb), some (fD (lw s (l + r))), d1, d2, d3, d4, d5, d6, d7, d8], ⟨.refl, hB.mono (by omega), _, _, _, _, _, _, _, _, _, rfl⟩, fun _ _ _ _ => trivial, ?_, ?_⟩
  · rintro i d r' m0 hd ⟨s0, B0, nb, d1, d2, d3, d4, d5, d6, d7, d8, rfl⟩
    have hi : i < 3 := by
      have := (List.getElem?_eq_some_iff.mp hd).1
      rw [rngD_length] at this
      exact this
    walk_at "go"
    refine F__law_scale.mk B0 (by omega) A fun p m1 hp p1 p2 s1 B1 => ?_
    walk_at "go"
    refine F__law_number.mk B1 (by omega) fun n m2 n1 n2 s2 B2 => ?_
    walk_at "go"
    refine F__law_reached.mk A hp p1 p2 fun e he hle => ?_
    have hpos : (1 : Int) ≤ 2 ^ e := Int.pow_pos (by decide)
    have hpb : Bd 200 (2 ^ e : Int) := bd_pow (by omega)
    refine ds_cut (fun r' m3 => m2 = m3 ∧ r' = [some (.loc b), some (.int s), some (.int l), some (.int r), some (.bl nb), some (fD (lw s (l + r))), some d, some (fD p), some (.int n), some (.int (2 ^ e)), some (.int (2 ^ e)), d6, d7, d8]) ?_ ?_
    · cases nb
      · walk_at "go"
        refine F_ruler_step.mk A hp p1 p2 fun e' he' hle' => ?_
        have := rch_uni he he'
        subst this
        walk_at "go"
        exact ⟨rfl, rfl⟩
      · walk_at "go"
        refine F_ruler_step.mk A hp p1 p2 fun e' he' hle' => ?_
        have := rch_uni he he'
        subst this
        walk_at "go"
        exact ⟨rfl, rfl⟩
    rintro _ _ ⟨rfl, rfl⟩
    refine ds_cut (fun r' m3 => m2 = m3 ∧ r' = [some (.loc b), some (.int s), some (.int l), some (.int r), some (.bl nb), some (fD (lw s (l + r))), some d, some (fD p), some (.int n), some (.int (2 ^ e)), some (.int (2 ^ e)), d6, d7, d8]) ?_ ?_
    · walk_at "go"
      refine F_same.mk (n := 3) (d := .int (2 ^ e)) rfl ?_
      walk_at "go"
      exact ⟨rfl, rfl⟩
    rintro _ _ ⟨rfl, rfl⟩
    refine ds_cut (fun r' m3 => m2 = m3 ∧ ∃ (nb : Bool) (d5 d6 d7 : Option D), r' = [some (.loc b), some (.int s), some (.int l), some (.int r), some (.bl nb), some (fD (lw s (l + r))), some d, some (fD p), some (.int n), some (.int (2 ^ e)), d5, d6, d7, d8]) ?_ ?_
    · refine G.for_ ?_
      refine di_t ?_
      walk_at "go"
      refine od_powI ⟨by decide, by decide, by decide⟩ ?_
      walk_at "go"
      refine od_powI ⟨by decide, by decide, by decide⟩ ?_
      walk_at "go"
      refine od_powI ⟨by decide, by decide, by decide⟩ ?_
      walk_at "go"
      have ht : (10 : Int) ^ (20 : Int).toNat = 10 ^ 20 := rfl
      refine ⟨_, rfl, fun i r' m3 => m2 = m3 ∧ ∃ (nb : Bool) (d5 d6 d7 : Option D), r' = [some (.loc b), some (.int s), some (.int l), some (.int r), some (.bl nb), some (fD (lw s (l + r))), some d, some (fD p), some (.int n), some (.int (2 ^ e)), d5, d6, d7, d8], ⟨rfl, _, _, _, _, rfl⟩, fun _ _ _ _ => trivial, ?_, ?_⟩
      · rintro i2 dd r' m3 hd2 ⟨rfl, nb, d5, d6, d7, rfl⟩
        obtain ⟨k, rfl, hk0⟩ : ∃ k : Int, dd = .int k ∧ 1 ≤ k := by
          have := List.mem_of_getElem? hd2
          simp only [List.mem_cons, List.not_mem_nil, or_false] at this
          rcases this with rfl | rfl | rfl | rfl | rfl
          · exact ⟨_, rfl, n1⟩
          · exact ⟨_, rfl, by decide⟩
          · exact ⟨_, rfl, by split <;> omega⟩
          · exact ⟨_, rfl, by split <;> omega⟩
          · exact ⟨_, rfl, by split <;> omega⟩
        walk_at "s"
        refine ds_cut (fun r' m3 => m2 = m3 ∧ r' = [some (.loc b), some (.int s), some (.int l), some (.int r), some (.bl nb), some (fD (lw s (l + r))), some d, some (fD p), some (.int n), some (.int (2 ^ e)), d5, some (.int k), some (.int ((k + 2 ^ e - 1) / 2 ^ e)), d8]) ?_ ?_
        · walk_at "go"
          exact ⟨rfl, rfl⟩
        rintro _ _ ⟨rfl, rfl⟩
        refine ds_cut (fun r' m3 => m2 = m3 ∧ r' = [some (.loc b), some (.int s), some (.int l), some (.int r), some (.bl nb), some (fD (lw s (l + r))), some d, some (fD p), some (.int n), some (.int (2 ^ e)), some (.int ((k + 2 ^ e - 1) / 2 ^ e)), some (.int k), some (.int ((k + 2 ^ e - 1) / 2 ^ e)), d8]) ?_ ?_
        · cases nb
          · walk_at "go"
            refine F_ruler_count.mk hk0 A hp p1 p2 fun e' he' hle' => ?_
            have := rch_uni he he'
            subst this
            walk_at "go"
            exact ⟨rfl, rfl⟩
          · walk_at "go"
            refine F_ruler_count.mk hk0 A hp p1 p2 fun e' he' hle' => ?_
            have := rch_uni he he'
            subst this
            walk_at "go"
            exact ⟨rfl, rfl⟩
        rintro _ _ ⟨rfl, rfl⟩
        walk_at "go"
        refine F_same.mk (n := 3) (d := .int ((k + 2 ^ e - 1) / 2 ^ e)) rfl ?_
        walk_at "go"
        exact ⟨rfl, _, _, _, _, rfl⟩
      · rintro r' m3 ⟨rfl, nb, d5, d6, d7, rfl⟩
        exact ⟨rfl, _, _, _, _, rfl⟩
    rintro _ _ ⟨rfl, nb, d5, d6, d7, rfl⟩
    walk_at "go"
    refine F__law_number.mk B2 (by omega) fun k m3 k1 k2 s3 B3 => ?_
    have hkb : Bd 67 k := Bd.of (by omega) (by omega)
    walk_at "go"
    refine F_ruler_end_of.mk (by omega) hkb A ?_
    rw [end_eq k1]
    have hrb := rlI_bd k1 k2
    have c1 : Bd 267 (lw (rlI k * s) (l + r)).1 := (lw_bd1 hlr (hrb.mul A.s2)).mono (by decide)
    have c2 : Bd 68 (lw (rlI k * s) (l + r)).2 := lw_bd2 hlr hlb
    walk_at "go"
    refine ⟨cmul_of c1 p2 (by decide), cmul_of p1 c2 (by decide), ?_⟩
    walk_at "go"
    have hsh := rch_shown (k := k) A.s1 hp.b k1 he
    have hbe : (!decide ((lw (rlI k * s) (l + r)).1 * p.2 < p.1 * (lw (rlI k * s) (l + r)).2)) = decide (k % 2 ^ e = 0) := by
      rw [Bool.eq_iff_iff]
      simp only [Bool.not_eq_true', decide_eq_true_eq, decide_eq_false_iff_not]
      rw [pq_lw hlr]
      exact hsh
    rw [hbe]
    walk_at "go"
    exact ⟨s0.trans (s1.trans (s2.trans s3)), B3.mono (by omega), _, _, _, _, _, _, _, _, _, rfl⟩
  · rintro r' m0 ⟨s0, B0, nb, d1, d2, d3, d4, d5, d6, d7, d8, rfl⟩
    rw [rngD_length] at B0
    walk_at "go"
    exact q _ s0 (B0.mono (by have : (3 : Int).toNat = 3 := rfl; omega))
theorem F__law_counts_right.mk {b : Addr} {c : Nat} {s l r : Int} {nb : Bool} {m : Sto} {Q : D → Sto → Prop} (hB : Bx m b c) (hc : c < 2 ^ 30) (A : Ax s l r) (q : ∀ m', Sb b m m' → Bx m' b (c + 120) → Q (.bl true) m') : F__law_counts_right [.loc b, .int s, .int l, .int r, .bl nb] m Q := ⟨b, c, s, l, r, nb, rfl, hB, hc, A, q⟩
theorem swap0 {N : List Str} {sc : Scope} {fr : Str → Bool} {k : Nat} {X : Cx} {ts : List Expr} {e : Expr} (G : Sy.Good P w K mg base N sc fr k X) (h : ∀ env : PySem.Env, env.scope = sc → swappedStores ts e env = pure none) : swappedStores ts e X.env = pure none := h _ G.esc
end
section
local macro_rules | `(tactic| walk_at "nm") => `(tactic| first
  | (show Sy.DE _ _ _ _ (.Name "box" _) _; refine G.name (i := 0) rfl (by rfl) rfl ?_)
  | (show Sy.DE _ _ _ _ (.Name "step" _) _; refine G.name (i := 1) rfl (by rfl) rfl ?_)
  | (show Sy.DE _ _ _ _ (.Name "left" _) _; refine G.name (i := 2) rfl (by rfl) rfl ?_)
  | (show Sy.DE _ _ _ _ (.Name "right" _) _; refine G.name (i := 3) rfl (by rfl) rfl ?_)
  | (show Sy.DE _ _ _ _ (.Name "named" _) _; refine G.name (i := 4) rfl (by rfl) rfl ?_)
  | (show Sy.DE _ _ _ _ (.Name "many" _) _; refine G.name (i := 5) rfl (by rfl) rfl ?_)
  | (show Sy.DE _ _ _ _ (.Name "first" _) _; refine G.name (i := 6) rfl (by rfl) rfl ?_)
  | (show Sy.DE _ _ _ _ (.Name "one" _) _; refine G.name (i := 7) rfl (by rfl) rfl ?_)
  | (show Sy.DE _ _ _ _ (.Name "due" _) _; refine G.name (i := 8) rfl (by rfl) rfl ?_)
  | (show Sy.DE _ _ _ _ (.Name "k" _) _; refine G.name (i := 9) rfl (by rfl) rfl ?_)
  | (show Sy.DE _ _ _ _ (.Name "told" _) _; refine G.name (i := 10) rfl (by rfl) rfl ?_))
local macro_rules | `(tactic| walk_at "st") => `(tactic| first
  | (show Sy.D1 _ _ _ _ (.Assign [.Name "many" _] _ _) _; refine G.set (i := 5) rfl (by rfl) ?_)
  | (show Sy.D1 _ _ _ _ (.Assign [.Name "first" _] _ _) _; refine G.set (i := 6) rfl (by rfl) ?_)
  | (show Sy.D1 _ _ _ _ (.Assign [.Name "one" _] _ _) _; refine G.set (i := 7) rfl (by rfl) ?_)
  | (show Sy.D1 _ _ _ _ (.Assign [.Name "due" _] _ _) _; refine G.set (i := 8) rfl (by rfl) ?_)
  | (show Sy.D1 _ _ _ _ (.Assign [.Name "k" _] _ _) _; refine G.set (i := 9) rfl (by rfl) ?_)
  | (show Sy.D1 _ _ _ _ (.Assign [.Name "told" _] _ _) _; refine G.set (i := 10) rfl (by rfl) ?_))
local macro_rules | `(tactic| walk_at "gn") => `(tactic| first
  | (show Sy.DG _ _ _ _ (.Name "many" _) _ _ _; refine G.gname (i := 5) rfl (by rfl) (by first | trivial | decide) ?_)
  | (show Sy.DG _ _ _ _ (.Name "first" _) _ _ _; refine G.gname (i := 6) rfl (by rfl) (by first | trivial | decide) ?_)
  | (show Sy.DG _ _ _ _ (.Name "one" _) _ _ _; refine G.gname (i := 7) rfl (by rfl) (by first | trivial | decide) ?_)
  | (show Sy.DG _ _ _ _ (.Name "due" _) _ _ _; refine G.gname (i := 8) rfl (by rfl) (by first | trivial | decide) ?_)
  | (show Sy.DG _ _ _ _ (.Name "k" _) _ _ _; refine G.gname (i := 9) rfl (by rfl) (by first | trivial | decide) ?_)
  | (show Sy.DG _ _ _ _ (.Name "told" _) _ _ _; refine G.gname (i := 10) rfl (by rfl) (by first | trivial | decide) ?_))
local macro_rules | `(tactic| walk_at "cl") => `(tactic| first
  | (show Sy.DE _ _ _ _ (.Call (.Name "_law_same" _) (_ :: _) [] _) _; refine G.call (fn__law_same T) (by decide) (by rfl) ?_)
  | (show Sy.DE _ _ _ _ (.Call (.Name "_law_take" _) (_ :: _) [] _) _; refine G.call (fn__law_take T) (by decide) (by rfl) ?_)
  | (show Sy.DE _ _ _ _ (.Call (.Name "_law_fraction" _) (_ :: _) [] _) _; refine G.call (fn__law_fraction T) (by decide) (by rfl) ?_)
  | (show Sy.DE _ _ _ _ (.Call (.Name "ruler_ends" _) [] (_ :: _) _) _; refine G.callK0 (fn_ruler_ends T) (by decide) (by rfl) 5 [4, 3, 2, 1, 0] (by decide) (fun _ _ _ _ _ _ us ws h1 h2 => match us, ws, h1, h2 with | [], [_, _, _, _, _], _, _ => rfl) ?_)
  | (show Sy.DE _ _ _ _ (.Call (.Name "ruler_ends" _) (_ :: _) [] _) _; refine G.call (fn_ruler_ends T) (by decide) (by rfl) ?_)
  | (show Sy.DE _ _ _ _ (.Call (.Name "_law_times" _) (_ :: _) [] _) _; refine G.call (fn__law_times T) (by decide) (by rfl) ?_)
  | (show Sy.DE _ _ _ _ (.Call (.Name "_law_halved" _) (_ :: _) [] _) _; refine G.call (fn__law_halved T) (by decide) (by rfl) ?_))
local macro_rules | `(tactic| walk_at "bl") => `(tactic| first
  | (show Sy.DE _ _ _ _ (.Call (.Name "tuple" _) (_ :: _) [] _) _; refine G.bty (T := "tuple") (by rfl) T.b_tuple Sy.bb_tuple ?_)
  | (show Sy.DE _ _ _ _ (.Call (.Name "abs" _) (_ :: _) [] _) _; refine G.blt (id := "abs") (by rfl) T.b_abs Sy.bb_abs ?_)
  | (show Sy.DE _ _ _ _ (.Name "tuple" _) _; refine G.tyname (n := "tuple") (by rfl) T.b_tuple Sy.bb_tuple ?_))
local macro_rules | `(tactic| walk_at "pr") => `(tactic| first
  | (show Sy.D1 _ _ _ _ (.Assign [.Tuple [.Name "first" _, .Name "one" _] _ _] (.Tuple [_, _] _ _) _) _; refine G.par (i := 6) (j := 7) rfl rfl (by decide) (by rfl) (by rfl) ?_ (fun env he => by cases env; cases he; rfl)))
def F__law_around_right : FS := fun ds m Q => ∃ (b : Addr) (c : Nat) (s l r : Int) (nb : Bool), ds = [.loc b, .int s, .int l, .int r, .bl nb] ∧ Bx m b c ∧ c < 2 ^ 30 ∧ Ax s l r ∧ ∀ m', Sb b m m' → Bx m' b (c + 20) → Q (.bl true) m'
theorem plB_ends {n : Nat} {f s l r : Int} (h : n ≤ 24) : plB 3 (.tup ((rngD 0 n).filterMap (endAt f s l r))) = true := by
  show (_ && _) = true
  simp only [Bool.and_eq_true, List.all_eq_true, decide_eq_true_eq]
  refine ⟨fun d hd => ?_, ?_⟩
  · obtain ⟨a, ha, e⟩ := List.mem_filterMap.mp hd
    obtain ⟨i, _, rfl⟩ := mem_rng ha
    cases e
    exact plB_end
  · have h1 := List.length_filterMap_le (endAt f s l r) (rngD 0 n)
    rw [rngD_length] at h1
    omega
theorem fn__law_around_right (T : Txt K mg) : Fn P w K mg base 6 "_law_around_right" s__law_around_right ["box", "step", "left", "right", "named"] F__law_around_right := by
  obtain ⟨f, fd, Fu, hm, hb⟩ := T.d__law_around_right
  refine ⟨f, fd, Fu, hm, hb, fn_ok Fu sc__law_around_right (fun ds m Φ h => ?_) (fun X C G ds m Φ h => ?_)⟩
  · obtain ⟨a, b, c, d, e, g, rfl, _⟩ := h; rfl
  obtain ⟨b, c, s, l, r, nb, rfl, hB, hc, A, q⟩ := h
  obtain ⟨hlr, hlb⟩ := ax_lr A
  walk_at "run"
  refine F__law_take.mk (by omega) (Bd.of (by omega) (by omega)) hB (by omega) fun t m1 t1 t2 s1 B1 => ?_
  walk_at "go"
  obtain ⟨n, hn, hn1, hn2⟩ : ∃ n : Int, 1 + t = n ∧ 1 ≤ n ∧ n ≤ 24 := ⟨_, rfl, by omega, by omega⟩
  rw [hn]
  refine d1_asg ?_ (hw := swap0 G (fun env he => by cases env; cases he; rfl))
  walk_at "go"
  refine F__law_take.mk (by omega) (Bd.of (by omega) (by omega)) B1 (by omega) fun f m2 f1 f2 s2 B2 => ?_
  walk_at "go"
  refine ⟨hlr, hlb.mono (by decide), ?_⟩
  walk_at "go"
  refine G.map [("k", 9)] (by decide +kernel) ?_
  refine G.rng1 rfl (by rfl) T.b_range ?_
  walk_at "go"
  refine ⟨n, rfl, by omega, by omega, by rw [rngD_length]; exact small_line (by omega), fun _ _ => trivial, endAt f s l r, fun d hd m' ha => ?_, ?_⟩
  · obtain ⟨i, hi, rfl⟩ := mem_rng hd
    refine G.pturn0 rfl ?_
    intro X1 G
    walk_at "go"
    intro X3 G
    walk_at "go"
    walk_at "br"
    · walk_at "go"
      refine ⟨rfl, ?_⟩
      show some (endD (absI (0 + (i : Int) - f)) s l r) = _
      have e : absI (0 + (i : Int) - f) = 0 := by unfold absI; split <;> omega
      rw [e, endD, if_pos rfl]
    · have z1 : 1 ≤ absI (0 + (i : Int) - f) := by unfold absI; split <;> omega
      have z2 : absI (0 + (i : Int) - f) < 10 ^ 20 := by unfold absI; split <;> omega
      walk_at "go"
      refine F__law_halved.mk z1 (by omega) ?_
      walk_at "go"
      refine ⟨lw_bot hlr, (lw_bd2 hlr hlb).mono (by decide), (lw_bd1 hlr A.s2).mono (by decide), (rlI_bd z1 z2).mono (by decide), ?_⟩
      rw [lw_times hlr]
      refine ⟨rfl, ?_⟩
      show some (endD (absI (0 + (i : Int) - f)) s l r) = _
      rw [end_eq z1]
      rfl
  walk_at "go"
  have hfin := q _ (s1.trans s2) (B2.mono (by omega))
  cases nb
  · walk_at "go"
    refine ⟨n, f, s, l, r, rfl, hn1, hn2, f1, f2, A, ?_⟩
    walk_at "go"
    refine F_same.mk (plB_ends (by omega)) ?_
    exact hfin
  · walk_at "go"
    refine ⟨n, f, s, l, r, rfl, hn1, hn2, f1, f2, A, ?_⟩
    walk_at "go"
    refine F_same.mk (plB_ends (by omega)) ?_
    exact hfin
theorem F__law_around_right.mk {b : Addr} {c : Nat} {s l r : Int} {nb : Bool} {m : Sto} {Q : D → Sto → Prop} (hB : Bx m b c) (hc : c < 2 ^ 30) (A : Ax s l r) (q : ∀ m', Sb b m m' → Bx m' b (c + 20) → Q (.bl true) m') : F__law_around_right [.loc b, .int s, .int l, .int r, .bl nb] m Q := ⟨b, c, s, l, r, nb, rfl, hB, hc, A, q⟩
end
section
local macro_rules | `(tactic| walk_at "nm") => `(tactic| first
  | (show Sy.DE _ _ _ _ (.Name "script" _) _; refine G.name (i := 0) rfl (by rfl) rfl ?_)
  | (show Sy.DE _ _ _ _ (.Name "k" _) _; refine G.name (i := 1) rfl (by rfl) rfl ?_)
  | (show Sy.DE _ _ _ _ (.Name "box" _) _; refine G.name (i := 2) rfl (by rfl) rfl ?_)
  | (show Sy.DE _ _ _ _ (.Name "named" _) _; refine G.name (i := 3) rfl (by rfl) rfl ?_)
  | (show Sy.DE _ _ _ _ (.Name "step" _) _; refine G.name (i := 4) rfl (by rfl) rfl ?_)
  | (show Sy.DE _ _ _ _ (.Name "left" _) _; refine G.name (i := 5) rfl (by rfl) rfl ?_)
  | (show Sy.DE _ _ _ _ (.Name "right" _) _; refine G.name (i := 6) rfl (by rfl) rfl ?_))
local macro_rules | `(tactic| walk_at "st") => `(tactic| first
  | (show Sy.D1 _ _ _ _ (.Assign [.Name "k" _] _ _) _; refine G.set (i := 1) rfl (by rfl) ?_)
  | (show Sy.D1 _ _ _ _ (.Assign [.Name "box" _] _ _) _; refine G.set (i := 2) rfl (by rfl) ?_)
  | (show Sy.D1 _ _ _ _ (.Assign [.Name "named" _] _ _) _; refine G.set (i := 3) rfl (by rfl) ?_)
  | (show Sy.D1 _ _ _ _ (.Assign [.Name "step" _] _ _) _; refine G.set (i := 4) rfl (by rfl) ?_)
  | (show Sy.D1 _ _ _ _ (.Assign [.Name "left" _] _ _) _; refine G.set (i := 5) rfl (by rfl) ?_)
  | (show Sy.D1 _ _ _ _ (.Assign [.Name "right" _] _ _) _; refine G.set (i := 6) rfl (by rfl) ?_))
local macro_rules | `(tactic| walk_at "gn") => `(tactic| first
  | (show Sy.DG _ _ _ _ (.Name "k" _) _ _ _; refine G.gname (i := 1) rfl (by rfl) (by first | trivial | decide) ?_)
  | (show Sy.DG _ _ _ _ (.Name "box" _) _ _ _; refine G.gname (i := 2) rfl (by rfl) (by first | trivial | decide) ?_)
  | (show Sy.DG _ _ _ _ (.Name "named" _) _ _ _; refine G.gname (i := 3) rfl (by rfl) (by first | trivial | decide) ?_)
  | (show Sy.DG _ _ _ _ (.Name "step" _) _ _ _; refine G.gname (i := 4) rfl (by rfl) (by first | trivial | decide) ?_)
  | (show Sy.DG _ _ _ _ (.Name "left" _) _ _ _; refine G.gname (i := 5) rfl (by rfl) (by first | trivial | decide) ?_)
  | (show Sy.DG _ _ _ _ (.Name "right" _) _ _ _; refine G.gname (i := 6) rfl (by rfl) (by first | trivial | decide) ?_))
local macro_rules | `(tactic| walk_at "cl") => `(tactic| first
  | (show Sy.DE _ _ _ _ (.Call (.Name "_law_box" _) (_ :: _) [] _) _; refine G.call (fn__law_box T) (by decide) (by rfl) ?_)
  | (show Sy.DE _ _ _ _ (.Call (.Name "_law_cell" _) (_ :: _) [] _) _; refine G.call (fn__law_cell T) (by decide) (by rfl) ?_)
  | (show Sy.DE _ _ _ _ (.Call (.Name "_law_few" _) (_ :: _) [] _) _; refine G.call (fn__law_few T) (by decide) (by rfl) ?_)
  | (show Sy.DE _ _ _ _ (.Call (.Name "_law_take" _) (_ :: _) [] _) _; refine G.call (fn__law_take T) (by decide) (by rfl) ?_)
  | (show Sy.DE _ _ _ _ (.Call (.Name "_law_ends_right" _) (_ :: _) [] _) _; refine G.call (fn__law_ends_right T) (by decide) (by rfl) ?_)
  | (show Sy.DE _ _ _ _ (.Call (.Name "_law_counts_right" _) (_ :: _) [] _) _; refine G.call (fn__law_counts_right T) (by decide) (by rfl) ?_)
  | (show Sy.DE _ _ _ _ (.Call (.Name "_law_ruler_right" _) (_ :: _) [] _) _; refine G.call (fn__law_ruler_right T) (by decide) (by rfl) ?_)
  | (show Sy.DE _ _ _ _ (.Call (.Name "_law_around_right" _) (_ :: _) [] _) _; refine G.call (fn__law_around_right T) (by decide) (by rfl) ?_))
local macro_rules | `(tactic| walk_at "bl") => `(tactic| first
  | (show Sy.DE _ _ _ _ (.Call (.Name "max" _) (_ :: _) [] _) _; refine G.blt (id := "max") (by rfl) T.b_max Sy.bb_max ?_)
  | (show Sy.DE _ _ _ _ (.Call (.Name "min" _) (_ :: _) [] _) _; refine G.blt (id := "min") (by rfl) T.b_min Sy.bb_min ?_)
  | (show Sy.DE _ _ _ _ (.Call (.Name "len" _) (_ :: _) [] _) _; refine G.blt (id := "len") (by rfl) T.b_len Sy.bb_len ?_))
local macro_rules | `(tactic| walk_at "pr") => `(tactic| fail)
def F_law : FS := fun ds m Q => ∃ ns : List Int, ds = [.lst (ns.map D.int)] ∧ ∀ m', Q (.bl true) m'
theorem ok_law (T : Txt K mg) {f : Addr} {fd : FuncData} (Fu : Fun K "law" "law" s_law f fd) : FnOk P w K mg base CX0 7 f fd ["script"] (spG K F_law) := by
  refine fn_ok Fu sc_law (fun ds m Φ h => ?_) (fun X C G ds m Φ h => ?_)
  · obtain ⟨a, rfl, _⟩ := h; rfl
  obtain ⟨ns, rfl, q⟩ := h
  walk_at "run"
  refine G.for_ ?_
  refine G.rng1 rfl (by rfl) T.b_range ?_
  walk_at "go"
  refine ⟨_, rfl, ?_, ?_, fun i r' m' => ∃ d1 d2 d3 d4 d5 d6 : Option D, r' = [some (.lst (ns.map D.int)), d1, d2, d3, d4, d5, d6], ⟨_, _, _, _, _, _, rfl⟩, fun _ _ _ _ => trivial, ?_, ?_⟩
  · split <;> split <;> omega
  · split <;> split <;> omega
  · rintro i d r' m0 hd ⟨d1, d2, d3, d4, d5, d6, rfl⟩
    obtain ⟨k, hk, rfl⟩ := mem_rng (List.mem_of_getElem? hd)
    have hk : k ≤ 100 := by
      revert hk
      split <;> split <;> intro hk <;> omega
    walk_at "go"
    refine ⟨by omega, by omega, fun g => ?_⟩
    walk_at "go"
    refine ⟨g, rfl, fun b m1 hb sb B0 => ?_⟩
    walk_at "go"
    refine F__law_take.mk (by omega) (Bd.of (by omega) (by omega)) B0 (by omega) fun t m2 t1 t2 s1 B1 => ?_
    walk_at "go"
    refine F__law_few.mk B1 (by omega) fun s m3 s1' s2' s2 B2 => ?_
    walk_at "go"
    refine F__law_few.mk B2 (by omega) fun l m4 l1 l2 s3 B3 => ?_
    walk_at "go"
    refine F__law_few.mk B3 (by omega) fun r m5 r1 r2 s4 B4 => ?_
    have A := ax_of s1' s2' l1 l2 r1 r2
    walk_at "go"
    refine F__law_ends_right.mk B4 (by omega) A fun m6 s5 B5 => ?_
    walk_at "go"
    refine F__law_counts_right.mk B5 (by omega) A fun m7 s6 B6 => ?_
    walk_at "go"
    refine F__law_ruler_right.mk B6 (by omega) fun m8 s7 B7 => ?_
    walk_at "go"
    refine F__law_around_right.mk B7 (by omega) A fun m9 s8 B8 => ?_
    walk_at "go"
    exact ⟨_, _, _, _, _, _, rfl⟩
  · rintro r' m' ⟨d1, d2, d3, d4, d5, d6, rfl⟩
    walk_at "go"
    exact q _
end
theorem def_mk {K : PySem.W.Frag} {h : Heap} {mg : Str → Option Value} (X : K.In h) (G : h.Ns mainGlobals mg) {x : Str} {st : Stmt} {ps : List Str} {f : Addr} {od an : Option Addr} {sl : Array (Option Value)} {oc kV dc pm cd ct : Value}
    (a : PySem.W.nsIn K mainGlobals x = some (some (.ref f))) (l : K.lookup f = some ⟨oc, od, .func (PySem.W.fnOf x x (defArgs st) (defBody st) (defScope st) .none kV dc pm an cd ct), sl⟩) (c : PySem.W.codeIn K cd x = true) (k : PySem.W.keepIn K (.ref f) = true)
    (hb : ∀ (kV doc pm : Value) (an : Option Addr) (cdv ct : Value) (us : List Value), us.length = ps.length → bindArgs (PySem.W.fnOf x x (defArgs st) (defBody st) (defScope st) .none kV doc pm an cdv ct) ⟨us, []⟩ = pure (ps.zip us)) :
    ∃ f fd, Fun K x x st f fd ∧ mg x = some (.ref f) ∧ Binds K fd ps [] := ⟨f, _, fun_mk l c k, PySem.W.mg_of X G a, (fun_mk l c k).binds hb⟩
theorem law_mk {P : Program} {w : World} {K : PySem.W.Frag} {h : Heap} {mg : Str → Option Value} {fa : Addr} (X : K.In h) (G : h.Ns mainGlobals mg) (hfa : mg "law" = some (.ref fa)) (T : Txt K mg) {f : Addr} {od an : Option Addr} {sl : Array (Option Value)} {oc kV dc pm cd ct : Value}
    (a : PySem.W.nsIn K mainGlobals "law" = some (some (.ref f))) (l : K.lookup f = some ⟨oc, od, .func (PySem.W.fnOf "law" "law" (defArgs s_law) (defBody s_law) (defScope s_law) .none kV dc pm an cd ct), sl⟩) (c : PySem.W.codeIn K cd "law" = true) (k : PySem.W.keepIn K (.ref f) = true) :
    ∃ fd : FuncData, (∀ (s : Shared) (v : Value), BindsTo s fd ⟨[v], []⟩ [("script", v)]) ∧ ∀ base : Heap, K.In base → base.Ns mainGlobals mg → FnOk P w K mg base CX0 7 fa fd ["script"] (spG K F_law) := by
  have e := hfa.symm.trans (PySem.W.mg_of X G a)
  cases e
  exact ⟨_, fun s v => .of_eq rfl, fun base _ _ => ok_law T (fun_mk l c k)⟩
theorem script_ok {K : PySem.W.Frag} {H : Hp} {a : Addr} {ns : List Int} (hO : Only H) (hS : SqL K H a (ns.map V.int)) : spG K F_law [.ref a] H (fun v _ => v = .bl true) fun _ _ _ => False := by
  refine ⟨fun _ => none, [.lst (ns.map D.int)], fun d _ => d = .bl true, ?_, .cons (den_script hS) .nil, ⟨ns, rfl, fun _ => rfl⟩, ?_⟩
  · intro a o h
    cases h
  · intro d m' v H' e _ _ _ t
    have e : d = .bl true := e
    subst e
    cases t
    rfl

end K45
open PySem PySem.W PyProof.Rows Sy
set_option maxHeartbeats 0 in
theorem PySem.Challenge.cw_stayshown_k45_ruler_far_out_holds : PySem.Challenge.rw_stayshown_k45_ruler_far_out.Holds := by
  w_on; o_law; k_head; (case hw => w_witness2)
  k_fill
  refine L2.walk_of (l := PySem.Challenge.rw_stayshown_k45_ruler_far_out) (n := 63) (k := 7) (x := "script") (CX := fun _ => L2.CX0) (sp := fun w => spG _ K45.F_law) rfl (by decide) rfl ⟨rfl, by decide, by decide⟩ (fun w h Y => PySem.W.kIn_of Y) ?F (fun _ _ a ns _ hO hS => K45.script_ok hO hS) (fun _ _ _ _ _ h => h)
  case F =>
    intro w mg fa h KX G hmg
    have d_is_integer := K45.def_mk KX G (x := "is_integer") (st := K45.s_is_integer) (ps := ["value"]) (by k_is) (by k_is) (by k_is) (by k_is) (fun _ _ _ _ _ _ us hl => match us, hl with | [_], _ => rfl)
    have d_is_between := K45.def_mk KX G (x := "is_between") (st := K45.s_is_between) (ps := ["value", "least", "most"]) (by k_is) (by k_is) (by k_is) (by k_is) (fun _ _ _ _ _ _ us hl => match us, hl with | [_, _, _], _ => rfl)
    have d_is_from := K45.def_mk KX G (x := "is_from") (st := K45.s_is_from) (ps := ["value", "least"]) (by k_is) (by k_is) (by k_is) (by k_is) (fun _ _ _ _ _ _ us hl => match us, hl with | [_, _], _ => rfl)
    have d_is_tuple_of := K45.def_mk KX G (x := "is_tuple_of") (st := K45.s_is_tuple_of) (ps := ["value", "length"]) (by k_is) (by k_is) (by k_is) (by k_is) (fun _ _ _ _ _ _ us hl => match us, hl with | [_, _], _ => rfl)
    have d_lowest := K45.def_mk KX G (x := "lowest") (st := K45.s_lowest) (ps := ["top", "bottom"]) (by k_is) (by k_is) (by k_is) (by k_is) (fun _ _ _ _ _ _ us hl => match us, hl with | [_, _], _ => rfl)
    have d_is_fraction := K45.def_mk KX G (x := "is_fraction") (st := K45.s_is_fraction) (ps := ["value"]) (by k_is) (by k_is) (by k_is) (by k_is) (fun _ _ _ _ _ _ us hl => match us, hl with | [_], _ => rfl)
    have d_is_scale := K45.def_mk KX G (x := "is_scale") (st := K45.s_is_scale) (ps := ["value"]) (by k_is) (by k_is) (by k_is) (by k_is) (fun _ _ _ _ _ _ us hl => match us, hl with | [_], _ => rfl)
    have d_fraction := K45.def_mk KX G (x := "fraction") (st := K45.s_fraction) (ps := ["top", "bottom"]) (by k_is) (by k_is) (by k_is) (by k_is) (fun _ _ _ _ _ _ us hl => match us, hl with | [_, _], _ => rfl)
    have d_is_less := K45.def_mk KX G (x := "is_less") (st := K45.s_is_less) (ps := ["one", "other"]) (by k_is) (by k_is) (by k_is) (by k_is) (fun _ _ _ _ _ _ us hl => match us, hl with | [_, _], _ => rfl)
    have d_check_scale := K45.def_mk KX G (x := "check_scale") (st := K45.s_check_scale) (ps := ["scale"]) (by k_is) (by k_is) (by k_is) (by k_is) (fun _ _ _ _ _ _ us hl => match us, hl with | [_], _ => rfl)
    have d_check_even := K45.def_mk KX G (x := "check_even") (st := K45.s_check_even) (ps := ["step", "left", "right"]) (by k_is) (by k_is) (by k_is) (by k_is) (fun _ _ _ _ _ _ us hl => match us, hl with | [_, _, _], _ => rfl)
    have d_check_many := K45.def_mk KX G (x := "check_many") (st := K45.s_check_many) (ps := ["many"]) (by k_is) (by k_is) (by k_is) (by k_is) (fun _ _ _ _ _ _ us hl => match us, hl with | [_], _ => rfl)
    have d_ruler_of := K45.def_mk KX G (x := "ruler_of") (st := K45.s_ruler_of) (ps := ["k"]) (by k_is) (by k_is) (by k_is) (by k_is) (fun _ _ _ _ _ _ us hl => match us, hl with | [_], _ => rfl)
    have d_ruler := K45.def_mk KX G (x := "ruler") (st := K45.s_ruler) (ps := ["k"]) (by k_is) (by k_is) (by k_is) (by k_is) (fun _ _ _ _ _ _ us hl => match us, hl with | [_], _ => rfl)
    have d_far_apart := K45.def_mk KX G (x := "far_apart") (st := K45.s_far_apart) (ps := ["number", "step", "left", "right"]) (by k_is) (by k_is) (by k_is) (by k_is) (fun _ _ _ _ _ _ us hl => match us, hl with | [_, _, _, _], _ => rfl)
    have d_ruler_end_of := K45.def_mk KX G (x := "ruler_end_of") (st := K45.s_ruler_end_of) (ps := ["k", "step", "left", "right"]) (by k_is) (by k_is) (by k_is) (by k_is) (fun _ _ _ _ _ _ us hl => match us, hl with | [_, _, _, _], _ => rfl)
    have d_ruler_end := K45.def_mk KX G (x := "ruler_end") (st := K45.s_ruler_end) (ps := ["k", "step", "left", "right"]) (by k_is) (by k_is) (by k_is) (by k_is) (fun _ _ _ _ _ _ us hl => match us, hl with | [_, _, _, _], _ => rfl)
    have d_ruler_step_of := K45.def_mk KX G (x := "ruler_step_of") (st := K45.s_ruler_step_of) (ps := ["step", "left", "right", "scale"]) (by k_is) (by k_is) (by k_is) (by k_is) (fun _ _ _ _ _ _ us hl => match us, hl with | [_, _, _, _], _ => rfl)
    have d_ruler_step := K45.def_mk KX G (x := "ruler_step") (st := K45.s_ruler_step) (ps := ["step", "left", "right", "scale"]) (by k_is) (by k_is) (by k_is) (by k_is) (fun _ _ _ _ _ _ us hl => match us, hl with | [_, _, _, _], _ => rfl)
    have d_ruler_count := K45.def_mk KX G (x := "ruler_count") (st := K45.s_ruler_count) (ps := ["many", "step", "left", "right", "scale"]) (by k_is) (by k_is) (by k_is) (by k_is) (fun _ _ _ _ _ _ us hl => match us, hl with | [_, _, _, _, _], _ => rfl)
    have d_ruler_ends := K45.def_mk KX G (x := "ruler_ends") (st := K45.s_ruler_ends) (ps := ["many", "first", "step", "left", "right"]) (by k_is) (by k_is) (by k_is) (by k_is) (fun _ _ _ _ _ _ us hl => match us, hl with | [_, _, _, _, _], _ => rfl)
    have d__law_cell := K45.def_mk KX G (x := "_law_cell") (st := K45.s__law_cell) (ps := ["script", "k"]) (by k_is) (by k_is) (by k_is) (by k_is) (fun _ _ _ _ _ _ us hl => match us, hl with | [_, _], _ => rfl)
    have d__law_box := K45.def_mk KX G (x := "_law_box") (st := K45.s__law_box) (ps := ["great"]) (by k_is) (by k_is) (by k_is) (by k_is) (fun _ _ _ _ _ _ us hl => match us, hl with | [_], _ => rfl)
    have d__law_take := K45.def_mk KX G (x := "_law_take") (st := K45.s__law_take) (ps := ["box", "many"]) (by k_is) (by k_is) (by k_is) (by k_is) (fun _ _ _ _ _ _ us hl => match us, hl with | [_, _], _ => rfl)
    have d__law_pick := K45.def_mk KX G (x := "_law_pick") (st := K45.s__law_pick) (ps := ["box", "items"]) (by k_is) (by k_is) (by k_is) (by k_is) (fun _ _ _ _ _ _ us hl => match us, hl with | [_, _], _ => rfl)
    have d__law_same := K45.def_mk KX G (x := "_law_same") (st := K45.s__law_same) (ps := ["told", "due"]) (by k_is) (by k_is) (by k_is) (by k_is) (fun _ _ _ _ _ _ us hl => match us, hl with | [_, _], _ => rfl)
    have d__law_divisor := K45.def_mk KX G (x := "_law_divisor") (st := K45.s__law_divisor) (ps := ["a", "b"]) (by k_is) (by k_is) (by k_is) (by k_is) (fun _ _ _ _ _ _ us hl => match us, hl with | [_, _], _ => rfl)
    have d__law_fraction := K45.def_mk KX G (x := "_law_fraction") (st := K45.s__law_fraction) (ps := ["top", "bottom"]) (by k_is) (by k_is) (by k_is) (by k_is) (fun _ _ _ _ _ _ us hl => match us, hl with | [_, _], _ => rfl)
    have d__law_less := K45.def_mk KX G (x := "_law_less") (st := K45.s__law_less) (ps := ["one", "other"]) (by k_is) (by k_is) (by k_is) (by k_is) (fun _ _ _ _ _ _ us hl => match us, hl with | [_, _], _ => rfl)
    have d__law_times := K45.def_mk KX G (x := "_law_times") (st := K45.s__law_times) (ps := ["one", "number"]) (by k_is) (by k_is) (by k_is) (by k_is) (fun _ _ _ _ _ _ us hl => match us, hl with | [_, _], _ => rfl)
    have d__law_halved := K45.def_mk KX G (x := "_law_halved") (st := K45.s__law_halved) (ps := ["k"]) (by k_is) (by k_is) (by k_is) (by k_is) (fun _ _ _ _ _ _ us hl => match us, hl with | [_], _ => rfl)
    have d__law_two := K45.def_mk KX G (x := "_law_two") (st := K45.s__law_two) (ps := ["turns"]) (by k_is) (by k_is) (by k_is) (by k_is) (fun _ _ _ _ _ _ us hl => match us, hl with | [_], _ => rfl)
    have d__law_number := K45.def_mk KX G (x := "_law_number") (st := K45.s__law_number) (ps := ["box"]) (by k_is) (by k_is) (by k_is) (by k_is) (fun _ _ _ _ _ _ us hl => match us, hl with | [_], _ => rfl)
    have d__law_few := K45.def_mk KX G (x := "_law_few") (st := K45.s__law_few) (ps := ["box"]) (by k_is) (by k_is) (by k_is) (by k_is) (fun _ _ _ _ _ _ us hl => match us, hl with | [_], _ => rfl)
    have d__law_reached := K45.def_mk KX G (x := "_law_reached") (st := K45.s__law_reached) (ps := ["one", "scale"]) (by k_is) (by k_is) (by k_is) (by k_is) (fun _ _ _ _ _ _ us hl => match us, hl with | [_, _], _ => rfl)
    have d__law_ends_right := K45.def_mk KX G (x := "_law_ends_right") (st := K45.s__law_ends_right) (ps := ["box", "step", "left", "right", "named"]) (by k_is) (by k_is) (by k_is) (by k_is) (fun _ _ _ _ _ _ us hl => match us, hl with | [_, _, _, _, _], _ => rfl)
    have d__law_ruler_right := K45.def_mk KX G (x := "_law_ruler_right") (st := K45.s__law_ruler_right) (ps := ["box"]) (by k_is) (by k_is) (by k_is) (by k_is) (fun _ _ _ _ _ _ us hl => match us, hl with | [_], _ => rfl)
    have d__law_scale := K45.def_mk KX G (x := "_law_scale") (st := K45.s__law_scale) (ps := ["box", "one"]) (by k_is) (by k_is) (by k_is) (by k_is) (fun _ _ _ _ _ _ us hl => match us, hl with | [_, _], _ => rfl)
    have d__law_counts_right := K45.def_mk KX G (x := "_law_counts_right") (st := K45.s__law_counts_right) (ps := ["box", "step", "left", "right", "named"]) (by k_is) (by k_is) (by k_is) (by k_is) (fun _ _ _ _ _ _ us hl => match us, hl with | [_, _, _, _, _], _ => rfl)
    have d__law_around_right := K45.def_mk KX G (x := "_law_around_right") (st := K45.s__law_around_right) (ps := ["box", "step", "left", "right", "named"]) (by k_is) (by k_is) (by k_is) (by k_is) (fun _ _ _ _ _ _ us hl => match us, hl with | [_, _, _, _, _], _ => rfl)
    have d_law := K45.def_mk KX G (x := "law") (st := K45.s_law) (ps := ["script"]) (by k_is) (by k_is) (by k_is) (by k_is) (fun _ _ _ _ _ _ us hl => match us, hl with | [_], _ => rfl)
    have b_abs := PySem.W.mg_none_of (n := "abs") KX G (by k_is)
    have b_all := PySem.W.mg_none_of (n := "all") KX G (by k_is)
    have b_bool := PySem.W.mg_none_of (n := "bool") KX G (by k_is)
    have b_int := PySem.W.mg_none_of (n := "int") KX G (by k_is)
    have b_isinstance := PySem.W.mg_none_of (n := "isinstance") KX G (by k_is)
    have b_len := PySem.W.mg_none_of (n := "len") KX G (by k_is)
    have b_list := PySem.W.mg_none_of (n := "list") KX G (by k_is)
    have b_max := PySem.W.mg_none_of (n := "max") KX G (by k_is)
    have b_min := PySem.W.mg_none_of (n := "min") KX G (by k_is)
    have b_range := PySem.W.mg_none_of (n := "range") KX G (by k_is)
    have b_str := PySem.W.mg_none_of (n := "str") KX G (by k_is)
    have b_sum := PySem.W.mg_none_of (n := "sum") KX G (by k_is)
    have b_tuple := PySem.W.mg_none_of (n := "tuple") KX G (by k_is)
    have i_gcd := PySem.W.mg_of (n := "gcd") (v := .builtin "math.gcd") KX G (by k_is)
    have c_MOST_MARKS : ∃ t, mg "MOST_MARKS" = some (.int 24 t) := ⟨_, PySem.W.mg_of (n := "MOST_MARKS") KX G (by k_is)⟩
    have T : K45.Txt _ mg := ⟨d_is_integer, d_is_between, d_is_from, d_is_tuple_of, d_lowest, d_is_fraction, d_is_scale, d_fraction, d_is_less, d_check_scale, d_check_even, d_check_many, d_ruler_of, d_ruler, d_far_apart, d_ruler_end_of, d_ruler_end, d_ruler_step_of, d_ruler_step, d_ruler_count, d_ruler_ends, d__law_cell, d__law_box, d__law_take, d__law_pick, d__law_same, d__law_divisor, d__law_fraction, d__law_less, d__law_times, d__law_halved, d__law_two, d__law_number, d__law_few, d__law_reached, d__law_ends_right, d__law_ruler_right, d__law_scale, d__law_counts_right, d__law_around_right, d_law, b_abs, b_all, b_bool, b_int, b_isinstance, b_len, b_list, b_max, b_min, b_range, b_str, b_sum, b_tuple, i_gcd, c_MOST_MARKS⟩
    refine' K45.law_mk KX G hmg T ?a ?l ?c ?k
    (case a => k_is); (case l => k_is); (case c => k_is); (case k => k_is)
